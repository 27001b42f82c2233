import PyProof.Rows.All
import Wide.All
import OpenK.AllK
import Wide.FinOn
import PySem.Challenge.RW_rowrules_k15_rings_that_come_late
import HandS.ForMost
import HandS.ForExc
import HandS.CallSlots
import HandS.IsInst
import HandS.Style
import HandS.Defaults
import HandS.HeadHook2
import HandS.Iter
import HandS.Head0
import HandS.Head1
import HandS.Head2
import HandS.HeadEnd
import HandS.HeadHook1
section
set_option Elab.async false
set_option linter.all false
set_option maxRecDepth 100000
set_option maxHeartbeats 2000000
namespace Xq
open PySem PySem.Spec PyProof.Rows L2

abbrev St := L2.St
/-- a value whose references are places in a list of objects -/
inductive CV where
  | non | bl (b : Bool) | int (i : Int) | sym (c : Int) | str (s : Str) | ref (n : Nat) | scr
  deriving DecidableEq
inductive CO where
  | lst (xs : List CV) | tup (xs : List CV) | dK (kvs : List (Key × CV)) | dT (kvs : List (List Key × CV))
/-- what a run leans on: an unknown number, the script's place and ints, what else is tracked -/
structure Pa where
  x : Int
  sa : Addr
  ns : List Int
  H0 : Hp

def RC (p : Pa) (ρ : List Addr) : CV → V → Prop
  | .non, v => v = .non
  | .bl b, v => v = .bl b
  | .int i, v => v = .int i
  | .sym c, v => v = .int (p.x + c)
  | .str s, v => v = .str s
  | .ref n, v => ∃ a, ρ[n]? = some a ∧ v = .ref a
  | .scr, v => v = .ref p.sa
abbrev RCs (p : Pa) (ρ : List Addr) : List CV → List V → Prop := Paired (RC p ρ)
def RO (p : Pa) (ρ : List Addr) : CO → HO → Prop
  | .lst xs, o => ∃ ys, o = .lst ys ∧ RCs p ρ xs ys
  | .tup xs, o => ∃ ys, o = .tup ys ∧ RCs p ρ xs ys
  | .dK xs, o => ∃ ys, o = .dK ys ∧ Paired (fun a b => a.1 = b.1 ∧ RC p ρ a.2 b.2) xs ys
  | .dT xs, o => ∃ ys, o = .dT ys ∧ Paired (fun a b => a.1 = b.1 ∧ RC p ρ a.2 b.2) xs ys
abbrev CS := List (Option CV)
abbrev CH := List CO
structure RS (p : Pa) (ρ : List Addr) (c : CS) (σ : St) : Prop where
  len : c.length = σ.length
  at_ : ∀ (i : Nat) (v : CV), c[i]? = some (some v) → ∃ w, σ[i]? = some (some w) ∧ RC p ρ v w
structure Rel (K : PySem.W.Frag) (p : Pa) (ρ : List Addr) (ch : CH) (H : Hp) : Prop where
  len : ρ.length = ch.length
  nd : ρ.Nodup
  own : ∀ (n : Nat) (o : CO), ch[n]? = some o → ∃ a u, ρ[n]? = some a ∧ H a = some u ∧ RO p ρ o u
  off : ∀ a o, p.H0 a = some o → a ∉ ρ ∧ H a = some o
  scr : SqL K p.H0 p.sa (p.ns.map V.int)
  x0 : 0 ≤ p.x

theorem pre_at {ρ ρ' : List Addr} {n : Nat} {a : Addr} (e : ρ <+: ρ') (h : ρ[n]? = some a) : ρ'[n]? = some a := by
  obtain ⟨t, rfl⟩ := e
  have z := (List.getElem?_eq_some_iff.mp h).1
  rw [List.getElem?_append_left z]; exact h
theorem RC.mono {p : Pa} {ρ ρ' : List Addr} (e : ρ <+: ρ') : ∀ {c : CV} {v : V}, RC p ρ c v → RC p ρ' c v
  | .non, _, h => h | .bl _, _, h => h | .int _, _, h => h | .sym _, _, h => h | .str _, _, h => h | .scr, _, h => h
  | .ref _, _, ⟨a, h, q⟩ => ⟨a, pre_at e h, q⟩
theorem Prd.imp {α β : Type} {F G : α → β → Prop} (f : ∀ a b, F a b → G a b) : ∀ {l₁ : List α} {l₂ : List β}, Paired F l₁ l₂ → Paired G l₁ l₂
  | _, _, .nil => .nil
  | _, _, .cons r t => .cons (f _ _ r) (Prd.imp f t)
theorem RCs.mono {p : Pa} {ρ ρ' : List Addr} {xs : List CV} {ys : List V} (e : ρ <+: ρ') (h : RCs p ρ xs ys) : RCs p ρ' xs ys := Prd.imp (fun _ _ => RC.mono e) h
theorem RO.mono {p : Pa} {ρ ρ' : List Addr} (e : ρ <+: ρ') : ∀ {c : CO} {o : HO}, RO p ρ c o → RO p ρ' c o
  | .lst _, _, ⟨ys, q, r⟩ => ⟨ys, q, RCs.mono e r⟩
  | .tup _, _, ⟨ys, q, r⟩ => ⟨ys, q, RCs.mono e r⟩
  | .dK _, _, ⟨ys, q, r⟩ => ⟨ys, q, Prd.imp (fun _ _ z => ⟨z.1, z.2.mono e⟩) r⟩
  | .dT _, _, ⟨ys, q, r⟩ => ⟨ys, q, Prd.imp (fun _ _ z => ⟨z.1, z.2.mono e⟩) r⟩
theorem RS.mono {p : Pa} {ρ ρ' : List Addr} {c : CS} {σ : St} (e : ρ <+: ρ') (h : RS p ρ c σ) : RS p ρ' c σ :=
  ⟨h.len, fun i v q => let ⟨w, a, b⟩ := h.at_ i v q; ⟨w, a, b.mono e⟩⟩
theorem RS.set {p : Pa} {ρ : List Addr} {c : CS} {σ : St} {v : CV} {w : V} (i : Nat) (h : RS p ρ c σ) (r : RC p ρ v w) : RS p ρ (c.set i (some v)) (σ.set i (some w)) := by
  refine ⟨by simp [h.len], fun j u q => ?_⟩
  rw [List.getElem?_set] at q
  rw [List.getElem?_set]
  by_cases hij : i = j
  · subst hij
    rw [if_pos rfl] at q
    rw [if_pos rfl]
    have z : i < c.length := by
      by_cases hz : i < c.length
      · exact hz
      · rw [if_neg hz] at q; cases q
    rw [if_pos z] at q
    rw [if_pos (by rw [← h.len]; exact z)]
    cases q
    exact ⟨w, rfl, r⟩
  · rw [if_neg hij] at q
    rw [if_neg hij]
    exact h.at_ j u q
theorem Prd.get {α β : Type} {F : α → β → Prop} : ∀ {xs : List α} {ys : List β} {i : Nat} {x : α}, Paired F xs ys → xs[i]? = some x → ∃ y, ys[i]? = some y ∧ F x y
  | _, _, _, _, .nil, e => by simp at e
  | _, _, 0, _, .cons r _, e => by simp at e; subst e; exact ⟨_, rfl, r⟩
  | _, _, i + 1, x, .cons _ t, e => by
    obtain ⟨y, h1, h2⟩ := Prd.get (i := i) (x := x) t (by simpa using e)
    exact ⟨y, by simpa using h1, h2⟩
theorem Prd.len {α β : Type} {F : α → β → Prop} : ∀ {xs : List α} {ys : List β}, Paired F xs ys → xs.length = ys.length
  | _, _, .nil => rfl
  | _, _, .cons _ t => by simp [Prd.len t]
theorem Prd.set {α β : Type} {F : α → β → Prop} {x : α} {u : β} (r : F x u) : ∀ {xs : List α} {us : List β} (i : Nat), Paired F xs us → Paired F (xs.set i x) (us.set i u)
  | _, _, _, .nil => .nil
  | _, _, 0, .cons _ t => .cons r t
  | _, _, i + 1, .cons q t => .cons q (Prd.set r i t)
theorem Prd.append {α β : Type} {F : α → β → Prop} : ∀ {xs ys : List α} {us ws : List β}, Paired F xs us → Paired F ys ws → Paired F (xs ++ ys) (us ++ ws)
  | _, _, _, _, .nil, s => s
  | _, _, _, _, .cons r t, s => .cons r (Prd.append t s)
theorem Prd.take {α β : Type} {F : α → β → Prop} : ∀ {xs : List α} {us : List β} (n : Nat), Paired F xs us → Paired F (xs.take n) (us.take n)
  | _, _, 0, _ => .nil
  | _, _, _ + 1, .nil => .nil
  | _, _, n + 1, .cons r t => .cons r (Prd.take n t)
theorem Prd.drop {α β : Type} {F : α → β → Prop} : ∀ {xs : List α} {us : List β} (n : Nat), Paired F xs us → Paired F (xs.drop n) (us.drop n)
  | _, _, 0, r => r
  | _, _, _ + 1, .nil => .nil
  | _, _, n + 1, .cons _ t => Prd.drop n t
theorem Prd.reverse {α β : Type} {F : α → β → Prop} : ∀ {xs : List α} {us : List β}, Paired F xs us → Paired F xs.reverse us.reverse
  | _, _, .nil => .nil
  | _, _, .cons r t => by
    rw [List.reverse_cons, List.reverse_cons]
    exact Prd.append (Prd.reverse t) (.cons r .nil)
theorem Prd.dropLast {α β : Type} {F : α → β → Prop} {xs : List α} {us : List β} (h : Paired F xs us) : Paired F xs.dropLast us.dropLast := by
  rw [List.dropLast_eq_take, List.dropLast_eq_take, Prd.len h]
  exact Prd.take _ h
theorem Prd.ints {p : Pa} {ρ : List Addr} : ∀ {ns : List Int} {ys : List V}, RCs p ρ (ns.map CV.int) ys → ys = ns.map V.int
  | [], _, .nil => rfl
  | _ :: _, _, .cons r t => by
    have r' : _ = V.int _ := r
    rw [r', Prd.ints t]; rfl
theorem Prd.ofInts {p : Pa} {ρ : List Addr} : ∀ {ns : List Int}, RCs p ρ (ns.map CV.int) (ns.map V.int)
  | [] => .nil
  | _ :: _ => .cons rfl Prd.ofInts
theorem Prd.rep {α β : Type} {F : α → β → Prop} {x : α} {y : β} (r : F x y) : ∀ n, Paired F (List.replicate n x) (List.replicate n y)
  | 0 => .nil
  | n + 1 => .cons r (Prd.rep r n)

section
variable {K : PySem.W.Frag} {p : Pa} {ρ ρ' : List Addr} {ch : CH} {H : Hp}
theorem Rel.same (r : Rel K p ρ ch H) : Same p.H0 H := fun a o e => (r.off a o e).2
theorem Rel.script (r : Rel K p ρ ch H) : SqL K H p.sa (p.ns.map V.int) := r.same.seq r.scr
theorem Rel.alloc {a : Addr} {c : CO} {o : HO} (r : Rel K p ρ ch H) (n : H a = none) (h : RO p ρ c o) : Rel K p (ρ ++ [a]) (ch ++ [c]) (upd H a o) := by
  have ex : ρ <+: ρ ++ [a] := List.prefix_append _ _
  have na : a ∉ ρ := fun m => by
    obtain ⟨k, hk⟩ := List.getElem?_of_mem m
    have z := (List.getElem?_eq_some_iff.mp hk).1
    rw [r.len] at z
    obtain ⟨b, u, e1, e2, _⟩ := r.own k ch[k] (by simp [z])
    rw [hk] at e1; cases e1
    rw [n] at e2; cases e2
  refine ⟨by simp [r.len], ?_, fun k q e => ?_, fun b q e => ?_, r.scr, r.x0⟩
  · rw [List.nodup_append]
    refine ⟨r.nd, by simp, fun b hb c hc => ?_⟩
    simp at hc
    subst hc
    exact fun z => na (z ▸ hb)
  · by_cases hk : k < ch.length
    · rw [List.getElem?_append_left hk] at e
      obtain ⟨b, u, e1, e2, e3⟩ := r.own k q e
      refine ⟨b, u, pre_at ex e1, ?_, e3.mono ex⟩
      rw [upd_ne (ne_of_none e2 n)]; exact e2
    · have hk' : k = ch.length := by
        have z := (List.getElem?_eq_some_iff.mp e).1
        simp at z; omega
      subst hk'
      simp at e
      subst e
      exact ⟨a, o, by rw [← r.len]; simp, upd_same, h.mono ex⟩
  · obtain ⟨x1, x2⟩ := r.off b q e
    have nb := ne_of_none x2 n
    refine ⟨fun m => ?_, by rw [upd_ne nb]; exact x2⟩
    rcases List.mem_append.mp m with m | m
    · exact x1 m
    · simp at m; exact nb m
theorem nodup_at {l : List Addr} (h : l.Nodup) {i j : Nat} {x : Addr} (a : l[i]? = some x) (b : l[j]? = some x) : i = j := by
  obtain ⟨h1, e1⟩ := List.getElem?_eq_some_iff.mp a
  obtain ⟨h2, e2⟩ := List.getElem?_eq_some_iff.mp b
  exact (List.getElem_inj h).mp (e1.trans e2.symm)
theorem Rel.write {a : Addr} {n : Nat} {c : CO} {o : HO} (r : Rel K p ρ ch H) (ea : ρ[n]? = some a) (h : RO p ρ c o) : Rel K p ρ (ch.set n c) (upd H a o) := by
  refine ⟨by simp [r.len], r.nd, fun k q e => ?_, fun b q e => ?_, r.scr, r.x0⟩
  · by_cases hk : n = k
    · subst hk
      have z : n < ch.length := by rw [← r.len]; exact (List.getElem?_eq_some_iff.mp ea).1
      rw [List.getElem?_set_self z] at e
      cases e
      exact ⟨a, o, ea, upd_same, h⟩
    · rw [List.getElem?_set_ne hk] at e
      obtain ⟨b, u, e1, e2, e3⟩ := r.own k q e
      refine ⟨b, u, e1, ?_, e3⟩
      rw [upd_ne]
      · exact e2
      · rintro rfl
        exact hk (nodup_at r.nd ea e1)
  · obtain ⟨x1, x2⟩ := r.off b q e
    refine ⟨x1, ?_⟩
    rw [upd_ne]
    · exact x2
    · rintro rfl
      exact x1 (List.mem_of_getElem? ea)
/-- what stands at a reference -/
theorem Rel.at_ {n : Nat} {a : Addr} {c : CO} (r : Rel K p ρ ch H) (ea : ρ[n]? = some a) (e : ch[n]? = some c) : ∃ u, H a = some u ∧ RO p ρ c u := by
  obtain ⟨b, u, e1, e2, e3⟩ := r.own n c e
  rw [ea] at e1; cases e1
  exact ⟨u, e2, e3⟩
end

/-! ### what a run comes to -/
inductive Ou (α : Type) where
  | ok (a : α) (h : CH) | ex (c : Nat) (v : Option CV) (h : CH) | st
def Ou.bind {α β : Type} (o : Ou α) (k : α → CH → Ou β) : Ou β := match o with
  | .ok a h => k a h
  | .ex c v h => .ex c v h
  | .st => .st
inductive SO where
  | nx (σ : CS) (h : CH) | rt (v : CV) (h : CH) | bk (σ : CS) (h : CH) | ct (σ : CS) (h : CH) | ex (c : Nat) (v : Option CV) (h : CH) | st
def Ou.stm {α : Type} (o : Ou α) (k : α → CH → SO) : SO := match o with
  | .ok a h => k a h
  | .ex c v h => .ex c v h
  | .st => .st
abbrev MX (α : Type) := List Int → CS → CH → Ou α
abbrev ME := MX CV
abbrev MT := MX Bool
abbrev MA := MX (List CV)
abbrev MS := List Int → CS → CH → SO
abbrev MF := List Int → List CV → CH → Ou CV

section
variable (K : PySem.W.Frag) (cl : Nat → Value) (p : Pa) (ρ : List Addr) (W : WX)
def PX (c : Nat) (u : Option CV) (ch : CH) : Prop := ∀ ρ' σ H, ρ <+: ρ' → Rel K p ρ' ch H →
  match u with
  | none => W (cl c) none σ H
  | some u => ∀ d w, RC p ρ' u w → H d = some (.xd [(("at" : Str), w)]) → W (cl c) (some d) σ H
def Post {α β : Type} (R : List Addr → α → β → Prop) (Q : β → Hp → Prop) : Ou α → Prop
  | .ok v ch => ∀ ρ' w H, ρ <+: ρ' → Rel K p ρ' ch H → R ρ' v w → Q w H
  | .ex c u ch => PX K cl p ρ W c u ch
  | .st => False
def PostS (D : Ends) : SO → Prop
  | .nx c ch => ∀ ρ' σ H, ρ <+: ρ' → Rel K p ρ' ch H → RS p ρ' c σ → D.nx σ H
  | .bk c ch => ∀ ρ' σ H, ρ <+: ρ' → Rel K p ρ' ch H → RS p ρ' c σ → D.bk σ H
  | .ct c ch => ∀ ρ' σ H, ρ <+: ρ' → Rel K p ρ' ch H → RS p ρ' c σ → D.ct σ H
  | .rt v ch => ∀ ρ' w H, ρ <+: ρ' → Rel K p ρ' ch H → RC p ρ' v w → D.rt w H
  | .ex c u ch => PX K cl p ρ W c u ch
  | .st => False
end
section
variable {K : PySem.W.Frag} {cl : Nat → Value} {p : Pa} {ρ ρ' : List Addr} {W : WX} {α β γ δ : Type} {R : List Addr → α → β → Prop} {R2 : List Addr → γ → δ → Prop}
theorem PX.mono {c : Nat} {u : Option CV} {ch : CH} (e : ρ <+: ρ') (h : PX K cl p ρ W c u ch) : PX K cl p ρ' W c u ch := fun ρ2 σ H e2 r => h ρ2 σ H (e.trans e2) r
theorem Post.mono {Q : β → Hp → Prop} (e : ρ <+: ρ') : ∀ {o : Ou α}, Post K cl p ρ W R Q o → Post K cl p ρ' W R Q o
  | .ok _ _, h => fun ρ2 w H e2 r => h ρ2 w H (e.trans e2) r
  | .ex _ _ _, h => PX.mono e h
  | .st, h => h
theorem Post.imp {Q Q' : β → Hp → Prop} (f : ∀ w H, Q w H → Q' w H) : ∀ {o : Ou α}, Post K cl p ρ W R Q o → Post K cl p ρ W R Q' o
  | .ok _ _, h => fun ρ2 w H e2 r q => f w H (h ρ2 w H e2 r q)
  | .ex _ _ _, h => h
  | .st, h => h
theorem PostS.mono {D : Ends} (e : ρ <+: ρ') : ∀ {o : SO}, PostS K cl p ρ W D o → PostS K cl p ρ' W D o
  | .nx _ _, h => fun ρ2 w H e2 r => h ρ2 w H (e.trans e2) r
  | .bk _ _, h => fun ρ2 w H e2 r => h ρ2 w H (e.trans e2) r
  | .ct _ _, h => fun ρ2 w H e2 r => h ρ2 w H (e.trans e2) r
  | .rt _ _, h => fun ρ2 w H e2 r => h ρ2 w H (e.trans e2) r
  | .ex _ _ _, h => PX.mono e h
  | .st, h => h
theorem Post.bind {Q : δ → Hp → Prop} {k : α → CH → Ou γ} {o : Ou α} (h : Post K cl p ρ W R2 Q (o.bind k)) :
    Post K cl p ρ W R (fun w H => ∃ ρ' v ch, ρ <+: ρ' ∧ Rel K p ρ' ch H ∧ R ρ' v w ∧ Post K cl p ρ' W R2 Q (k v ch)) o := by
  cases o with
  | ok v ch => exact fun ρ' w H e r q => ⟨ρ', v, ch, e, r, q, Post.mono e h⟩
  | ex c u ch => exact h
  | st => exact h
theorem Post.stm {D : Ends} {k : α → CH → SO} {o : Ou α} (h : PostS K cl p ρ W D (o.stm k)) :
    Post K cl p ρ W R (fun w H => ∃ ρ' v ch, ρ <+: ρ' ∧ Rel K p ρ' ch H ∧ R ρ' v w ∧ PostS K cl p ρ' W D (k v ch)) o := by
  cases o with
  | ok v ch => exact fun ρ' w H e r q => ⟨ρ', v, ch, e, r, q, PostS.mono e h⟩
  | ex c u ch => exact h
  | st => exact h
end

/-! ### readings by runs -/
section
variable (K : PySem.W.Frag) (cl : Nat → Value) (W : WX)
abbrev RV (p : Pa) : List Addr → CV → V → Prop := fun ρ => RC p ρ
abbrev RB : List Addr → Bool → Bool → Prop := fun _ a b => a = b
abbrev RVs (p : Pa) : List Addr → List CV → List V → Prop := fun ρ => RCs p ρ
def tE (m : ME) : TE := fun σ H Q => ∃ p ρ c ch, Rel K p ρ ch H ∧ RS p ρ c σ ∧ Post K cl p ρ W (RV p) Q (m p.ns c ch)
def tT (m : MT) : TT := fun σ H Q => ∃ p ρ c ch, Rel K p ρ ch H ∧ RS p ρ c σ ∧ Post K cl p ρ W RB Q (m p.ns c ch)
def tA (m : MA) : TA := fun σ H Q => ∃ p ρ c ch, Rel K p ρ ch H ∧ RS p ρ c σ ∧ Post K cl p ρ W (RVs p) Q (m p.ns c ch)
def tS (m : MS) : TS := fun D σ H => ∃ p ρ c ch, Rel K p ρ ch H ∧ RS p ρ c σ ∧ PostS K cl p ρ W D (m p.ns c ch)
/-- the promise of a def by its run -/
def spM (m : MF) : Sp := fun vs H Q E => ∃ p ρ cs ch, Rel K p ρ ch H ∧ RCs p ρ cs vs ∧ Post K cl p ρ (fun c d _ H => E c d H) (RV p) Q (m p.ns cs ch)
end
theorem pe_imp {X : Cx} {e : Expr} {t t' : TE} (h : PE X e t) (f : ∀ σ H Q, t' σ H Q → t σ H Q) : PE X e t' := ⟨fun pins s σ H Q I q => h.run pins s σ H Q I (f σ H Q q)⟩
theorem pt_imp {X : Cx} {e : Expr} {t t' : TT} (h : PT X e t) (f : ∀ σ H Q, t' σ H Q → t σ H Q) : PT X e t' := ⟨fun pins s σ H Q I q => h.run pins s σ H Q I (f σ H Q q)⟩
theorem pw_imp {X : Cx} {e : Expr} {t t' : TT} (h : PW X e t) (f : ∀ σ H Q, t' σ H Q → t σ H Q) : PW X e t' := ⟨fun wh pins s σ H Q I q => h.run wh pins s σ H Q I (f σ H Q q)⟩
theorem pa_imp {X : Cx} {e : List Expr} {t t' : TA} (h : PA X e t) (f : ∀ σ H Q, t' σ H Q → t σ H Q) : PA X e t' := ⟨fun pos pins s σ H Q I q => h.run pos pins s σ H Q I (f σ H Q q)⟩
theorem ps_imp {X : Cx} {e : Stmt} {t t' : TS} (h : PS X e t) (f : ∀ D σ H, t' D σ H → t D σ H) : PS X e t' := ⟨fun pins s σ H D I q => h.run pins s σ H D I (f D σ H q)⟩
theorem pss_imp {X : Cx} {e : List Stmt} {t t' : TS} (h : PSs X e t) (f : ∀ D σ H, t' D σ H → t D σ H) : PSs X e t' := ⟨fun pins s σ H D I q => h.run pins s σ H D I (f D σ H q)⟩
theorem pts_imp {X : Cx} {e : List Expr} {t t' : TT} (h : PTs X e t) (f : ∀ σ H Q, t' σ H Q → t σ H Q) : PTs X e t' := ⟨fun pins s σ H Q I q => h.run pins s σ H Q I (f σ H Q q)⟩
end Xq
end

section
set_option Elab.async false
set_option linter.all false
set_option maxRecDepth 100000
set_option maxHeartbeats 2000000
namespace Xq
open PySem PySem.Spec PyProof.Rows L2
section
variable {X : Cx} {cl : Nat → Value} {W : WX}

/-! ### names and constants -/
def mVar (i : Nat) : ME := fun _ c h => match c[i]? with
  | some (some v) => .ok v h
  | _ => .st
def mC (v : CV) : ME := fun _ _ h => .ok v h
theorem xe_of {e : Expr} {t : TE} {m : ME} (h : PE X e t) (f : ∀ p ρ c ch σ H Q, Rel X.K p ρ ch H → RS p ρ c σ → Post X.K cl p ρ W (RV p) Q (m p.ns c ch) → t σ H Q) : PE X e (tE X.K cl W m) :=
  pe_imp h fun σ H Q ⟨p, ρ, c, ch, r, rs, q⟩ => f p ρ c ch σ H Q r rs q
theorem here {α β : Type} {K : PySem.W.Frag} {p : Pa} {ρ : List Addr} {R : List Addr → α → β → Prop} {Q : β → Hp → Prop} {v : α} {w : β} {ch : CH} {H : Hp} (q : Post K cl p ρ W R Q (.ok v ch)) (r : Rel K p ρ ch H) (h : R ρ v w) : Q w H :=
  q ρ w H (List.prefix_refl _) r h
theorem xv (i : Nat) {x : Str} {pos : Pos} (hN : X.N[i]? = some x := by rfl) (hv : Vis X.env.scope x := by first | exact Or.inl rfl | exact Or.inr (Or.inl rfl) | exact Or.inr (Or.inr rfl)) (hd : (x == ("__debug__" : Str)) = false := by decide)
    (hcd : (x == ("__classdict__" : Str)) = false := by decide) : PE X (.Name x pos) (tE X.K cl W (mVar i)) := by
  refine xe_of (pe_var hN hv hd hcd) fun p ρ c ch σ H Q r rs q => ?_
  unfold mVar at q
  split at q
  · rename_i v e
    obtain ⟨w, e1, e2⟩ := rs.at_ i v e
    exact ⟨w, e1, here q r e2⟩
  · exact q.elim
theorem xe_const {e : Expr} {v : V} {u : CV} (h : PE X e (tC v)) (hr : ∀ p ρ, RC p ρ u v) : PE X e (tE X.K cl W (mC u)) :=
  xe_of h fun p ρ c ch σ H Q r rs q => here q r (hr p ρ)
theorem xint {i j pos} : PE X (.Constant (.int i) j pos) (tE X.K cl W (mC (.int i))) := xe_const pe_int fun _ _ => rfl
theorem xbl {b j pos} : PE X (.Constant (.bool b) j pos) (tE X.K cl W (mC (.bl b))) := xe_const pe_bl fun _ _ => rfl
theorem xnon {j pos} : PE X (.Constant .none j pos) (tE X.K cl W (mC .non)) := xe_const pe_non fun _ _ => rfl
theorem xstr {x j pos} : PE X (.Constant (.str x) j pos) (tE X.K cl W (mC (.str x))) := xe_const pe_str fun _ _ => rfl
theorem xgint {x : Str} {i : Int} {t : Tok} {pos : Pos} (hm : X.mg x = some (.int i t)) (hg : Gl X x := by rfl) (hd : (x == ("__debug__" : Str)) = false := by decide) : PE X (.Name x pos) (tE X.K cl W (mC (.int i))) :=
  xe_const (pe_glob hg hm (v := .int i) ⟨t, rfl⟩ hd) fun _ _ => rfl
theorem xgstr {x y : Str} {t : Tok} {pos : Pos} (hm : X.mg x = some (.str y t)) (hg : Gl X x := by rfl) (hd : (x == ("__debug__" : Str)) = false := by decide) : PE X (.Name x pos) (tE X.K cl W (mC (.str y))) :=
  xe_const (pe_glob hg hm (v := .str y) ⟨t, rfl⟩ hd) fun _ _ => rfl

/-! ### two places -/
abbrev F2 := CV → CV → CH → Ou CV
def mOp (f : F2) (a b : ME) : ME := fun ns c h => (a ns c h).bind fun x h1 => (b ns c h1).bind fun y h2 => f x y h2
def OpS (K : PySem.W.Frag) (r : R2) (f : F2) : Prop := ∀ cl p ρ W Q x y vx vy ch H, Rel K p ρ ch H → RC p ρ vx x → RC p ρ vy y → Post K cl p ρ W (RV p) Q (f vx vy ch) → r x y H Q
theorem two {r : R2} {f : F2} {a b : ME} (hs : OpS X.K r f) {σ : St} {H : Hp} {Q : VK} (h : tE X.K cl W (mOp f a b) σ H Q) : tOp r (tE X.K cl W a) (tE X.K cl W b) σ H Q := by
  obtain ⟨p, ρ, c, ch, rl, rs, q⟩ := h
  refine ⟨p, ρ, c, ch, rl, rs, Post.imp ?_ (Post.bind q)⟩
  rintro x H1 ⟨ρ1, v1, ch1, e1, r1, rv1, q1⟩
  refine ⟨p, ρ1, c, ch1, r1, rs.mono e1, Post.imp ?_ (Post.bind q1)⟩
  rintro y H2 ⟨ρ2, v2, ch2, e2, r2, rv2, q2⟩
  exact hs cl p ρ2 W Q x y v1 v2 ch2 H2 r2 (rv1.mono e2) rv2 q2
variable {a b c e : Expr} {ma mb mc me : ME} {pos : Pos} {op : Operator} {r : R2} {f : F2}
theorem xop (ho : OpR X (binaryOp op) r) (hs : OpS X.K r f) (ha : PE X a (tE X.K cl W ma)) (hb : PE X b (tE X.K cl W mb)) : PE X (.BinOp a op b pos) (tE X.K cl W (mOp f ma mb)) :=
  pe_imp (pe_op ho ha hb) fun _ _ _ h => two hs h
theorem xcmp {op : CmpOp} (ho : OpR X (compareOp op) r) (hs : OpS X.K r f) (ha : PE X a (tE X.K cl W ma)) (hb : PE X b (tE X.K cl W mb)) (hm : behindInMarks op b = false := by first | exact nomark _ | rfl) : PE X (.Compare a [op] [b] pos) (tE X.K cl W (mOp f ma mb)) :=
  pe_imp (pe_cmpR ho ha hb hm) fun _ _ _ h => two hs h
def mTst (m : ME) : MT := fun ns c h => (m ns c h).bind fun v h1 => match v with
  | .bl k => .ok k h1
  | _ => .st
theorem tst {m : ME} {σ : St} {H : Hp} {Q : Bool → Hp → Prop} (h : tT X.K cl W (mTst m) σ H Q) : tE X.K cl W m σ H fun x H1 => ∃ k, x = .bl k ∧ Q k H1 := by
  obtain ⟨p, ρ, c, ch, rl, rs, q⟩ := h
  refine ⟨p, ρ, c, ch, rl, rs, Post.imp ?_ (Post.bind q)⟩
  rintro x H1 ⟨ρ1, v1, ch1, e1, r1, rv1, q1⟩
  split at q1
  · rename_i k
    exact ⟨k, rv1, here q1 r1 rfl⟩
  · exact q1.elim
theorem xval (h : PE X e (tE X.K cl W me)) (he : ∀ whole, isTrue e X.env whole = (do let v ← whole; standAt e.pos; holding [v] (truthy v)) := by intro _; rfl) : PT X e (tT X.K cl W (mTst me)) :=
  pt_imp (pt_val h he) fun _ _ _ h => tst h
theorem xcmpT {op : CmpOp} (ho : OpR X (compareOp op) r) (hs : OpS X.K r f) (ha : PE X a (tE X.K cl W ma)) (hb : PE X b (tE X.K cl W mb)) (hm : behindInMarks op b = false := by first | exact nomark _ | rfl) : PT X (.Compare a [op] [b] pos) (tT X.K cl W (mTst (mOp f ma mb))) :=
  pt_imp (pt_cmpR ho ha hb hm) fun σ H Q h => two hs (tst h)

def fI (g : Int → Int → Int) : F2 := fun x y h => match x, y with
  | .int i, .int j => .ok (.int (g i j)) h
  | _, _ => .st
def fIC (C : Int → Int → Bool) (g : Int → Int → Int) : F2 := fun x y h => match x, y with
  | .int i, .int j => if C i j = true then .ok (.int (g i j)) h else .st
  | _, _ => .st
def fAdd : F2 := fun x y h => match x, y with
  | .int i, .int j => .ok (.int (i + j)) h
  | .sym c, .int j => .ok (.sym (c + j)) h
  | .int i, .sym c => .ok (.sym (i + c)) h
  | _, _ => .st
def fSub : F2 := fun x y h => match x, y with
  | .int i, .int j => .ok (.int (i - j)) h
  | .sym c, .int j => .ok (.sym (c - j)) h
  | .sym c, .sym d => .ok (.int (c - d)) h
  | _, _ => .st
/-- i < j, by the constructors -/
def ltZ : Int → Int → Bool
  | .ofNat a, .ofNat b => Nat.ble (a + 1) b
  | .negSucc _, .ofNat _ => true
  | .ofNat _, .negSucc _ => false
  | .negSucc a, .negSucc b => Nat.ble (b + 1) a
theorem ltZ_eq : ∀ i j : Int, ltZ i j = decide (i < j)
  | .ofNat a, .ofNat b => by
    rw [Bool.eq_iff_iff, decide_eq_true_iff]
    show Nat.ble (a + 1) b = true ↔ _
    rw [Nat.ble_eq]
    show a < b ↔ (a : Int) < (b : Int)
    omega
  | .negSucc a, .ofNat b => by
    symm; rw [show ltZ (.negSucc a) (.ofNat b) = true from rfl, decide_eq_true_iff]
    show Int.negSucc a < (b : Int)
    omega
  | .ofNat a, .negSucc b => by
    symm; rw [show ltZ (.ofNat a) (.negSucc b) = false from rfl, decide_eq_false_iff_not]
    show ¬ (a : Int) < Int.negSucc b
    omega
  | .negSucc a, .negSucc b => by
    rw [Bool.eq_iff_iff, decide_eq_true_iff]
    show Nat.ble (b + 1) a = true ↔ _
    rw [Nat.ble_eq]
    omega
theorem ltZ_iff {i j : Int} : ltZ i j = true ↔ i < j := by rw [ltZ_eq, decide_eq_true_iff]
/-- x < y -/
def ltC : CV → CV → Option Bool
  | .int i, .int j => some (ltZ i j)
  | .sym c, .sym d => some (ltZ c d)
  | .sym c, .int j => if ltZ c j = true then none else some false
  | .int i, .sym d => if ltZ i d = true then some true else none
  | _, _ => none
def fO (g : CV → CV → Option Bool) : F2 := fun x y h => match g x y with
  | some b => .ok (.bl b) h
  | none => .st
def fLt : F2 := fO ltC
def fGt : F2 := fO fun x y => ltC y x
def fLe : F2 := fO fun x y => (ltC y x).map (!·)
def fGe : F2 := fO fun x y => (ltC x y).map (!·)
theorem ltC_ok {p : Pa} {ρ : List Addr} {vx vy : CV} {x y : V} {b : Bool} (x0 : 0 ≤ p.x) (h : ltC vx vy = some b) (rx : RC p ρ vx x) (ry : RC p ρ vy y) : ∃ i j : Int, x = .int i ∧ y = .int j ∧ b = decide (i < j) := by
  unfold ltC at h
  split at h
  · cases h; exact ⟨_, _, rx, ry, ltZ_eq _ _⟩
  · cases h
    refine ⟨_, _, rx, ry, ?_⟩
    rw [ltZ_eq, decide_eq_decide]; omega
  · split at h
    · cases h
    · rename_i hn
      cases h
      rw [ltZ_iff] at hn
      refine ⟨_, _, rx, ry, ?_⟩
      symm; rw [decide_eq_false_iff_not]; omega
  · split at h
    · rename_i hn
      cases h
      rw [ltZ_iff] at hn
      refine ⟨_, _, rx, ry, ?_⟩
      symm; rw [decide_eq_true_iff]; omega
    · cases h
  · cases h
variable {K : PySem.W.Frag}
theorem oI {g : Int → Int → Int} : OpS K (rI0 fun i j => .int (g i j)) (fI g) := by
  intro cl p ρ W Q x y vx vy ch H rl rx ry q
  unfold fI at q
  split at q
  · exact ⟨_, _, rx, ry, here q rl rfl⟩
  · exact q.elim
theorem oIC {C : Int → Int → Prop} {D : Int → Int → Bool} {g : Int → Int → Int} (hc : ∀ i j, D i j = true → C i j) : OpS K (rI C fun i j => .int (g i j)) (fIC D g) := by
  intro cl p ρ W Q x y vx vy ch H rl rx ry q
  unfold fIC at q
  split at q
  · split at q
    · rename_i hD
      exact ⟨_, _, rx, ry, hc _ _ hD, here q rl rfl⟩
    · exact q.elim
  · exact q.elim
theorem oAdd : OpS K (rI0 fun i j => .int (i + j)) fAdd := by
  intro cl p ρ W Q x y vx vy ch H rl rx ry q
  unfold fAdd at q
  split at q
  · exact ⟨_, _, rx, ry, here q rl rfl⟩
  · exact ⟨_, _, rx, ry, here q rl (by show V.int _ = V.int _; congr 1; omega)⟩
  · exact ⟨_, _, rx, ry, here q rl (by show V.int _ = V.int _; congr 1; omega)⟩
  · exact q.elim
theorem oSub : OpS K (rI0 fun i j => .int (i - j)) fSub := by
  intro cl p ρ W Q x y vx vy ch H rl rx ry q
  unfold fSub at q
  split at q
  · exact ⟨_, _, rx, ry, here q rl rfl⟩
  · exact ⟨_, _, rx, ry, here q rl (by show V.int _ = V.int _; congr 1; omega)⟩
  · exact ⟨_, _, rx, ry, here q rl (by show V.int _ = V.int _; congr 1; omega)⟩
  · exact q.elim
def in64 : Int → Bool
  | .ofNat a => Nat.ble a 18446744073709551615
  | .negSucc a => Nat.ble a 18446744073709551614
theorem in64_iff : ∀ {i : Int}, in64 i = true ↔ (-(2 ^ 64) < i ∧ i < 2 ^ 64)
  | .ofNat a => by
    show Nat.ble a 18446744073709551615 = true ↔ (-(2 ^ 64) < (a : Int) ∧ (a : Int) < 2 ^ 64)
    rw [Nat.ble_eq]; omega
  | .negSucc a => by
    show Nat.ble a 18446744073709551614 = true ↔ _
    rw [Nat.ble_eq]; omega
def bMul (i j : Int) : Bool := in64 i || in64 j
def fMul : F2 := fIC bMul fun i j => i * j
theorem bMul_iff {i j : Int} : bMul i j = true ↔ CMul i j := by
  unfold bMul CMul
  rw [Bool.or_eq_true, in64_iff, in64_iff]
theorem oMul : OpS K (rI CMul fun i j => .int (i * j)) fMul := oIC fun i j h => bMul_iff.mp h
def bDiv (_i j : Int) : Bool := match j with
  | .ofNat a => Nat.ble 1 a && Nat.ble a 1073741823
  | .negSucc _ => false
theorem bDiv_iff {i : Int} : ∀ {j : Int}, bDiv i j = true ↔ CDiv i j
  | .ofNat a => by
    show (Nat.ble 1 a && Nat.ble a 1073741823) = true ↔ (0 < (a : Int) ∧ (a : Int) < 1073741824)
    rw [Bool.and_eq_true, Nat.ble_eq, Nat.ble_eq]; omega
  | .negSucc a => by
    show false = true ↔ (0 < Int.negSucc a ∧ Int.negSucc a < 1073741824)
    constructor
    · intro h; cases h
    · intro h; omega
def fDiv : F2 := fIC bDiv fun i j => i / j
theorem oDiv : OpS K (rI CDiv fun i j => .int (i / j)) fDiv := oIC fun i j h => bDiv_iff.mp h
def bMod (_i j : Int) : Bool := ltZ 0 j
def fMod : F2 := fIC bMod fun i j => i % j
theorem oMod : OpS K (rI (fun _ j => 0 < j) fun i j => .int (i % j)) fMod := oIC fun i j h => ltZ_iff.mp h
def bPow (i j : Int) : Bool := match j with
  | .ofNat a => Nat.ble a 1000000 && Nat.ble i.natAbs 18446744073709551615
  | .negSucc _ => false
theorem bPow_ok {i : Int} : ∀ {j : Int}, bPow i j = true → CPow i j
  | .ofNat a, h => by
    have ⟨x, y⟩ := Bool.and_eq_true _ _ |>.mp (show (Nat.ble a 1000000 && Nat.ble i.natAbs 18446744073709551615) = true from h)
    rw [Nat.ble_eq] at x y
    exact ⟨Int.natCast_nonneg a, by show (a : Int) ≤ 1000000; omega, by omega⟩
  | .negSucc a, h => by cases h
def fPow : F2 := fIC bPow fun i j => i ^ j.toNat
theorem oPow : OpS K (rI CPow fun i j => .int (i ^ j.toNat)) fPow := oIC fun i j h => bPow_ok h
def fShl : F2 := fIC bPow fun i j => i * 2 ^ j.toNat
theorem oShl : OpS K (rI CPow fun i j => .int (i * 2 ^ j.toNat)) fShl := oIC fun i j h => bPow_ok h
def fShr : F2 := fIC (fun _ j => ltZ (-1) j) fun i j => i / 2 ^ j.toNat
theorem oShr : OpS K (rI (fun _ j => 0 ≤ j) fun i j => .int (i / 2 ^ j.toNat)) fShr := oIC fun i j h => by
  have := ltZ_iff.mp h
  omega
def fAnd : F2 := fI Builtin.bitAnd
def fOr : F2 := fI Builtin.bitOr
theorem oLt : OpS K (rI0 fun i j => .bl (decide (i < j))) fLt := by
  intro cl p ρ W Q x y vx vy ch H rl rx ry q
  unfold fLt fO at q
  split at q
  · rename_i b hb
    obtain ⟨i, j, e1, e2, rfl⟩ := ltC_ok rl.x0 hb rx ry
    exact ⟨i, j, e1, e2, here q rl rfl⟩
  · exact q.elim
theorem oGt : OpS K (rI0 fun i j => .bl (decide (j < i))) fGt := by
  intro cl p ρ W Q x y vx vy ch H rl rx ry q
  unfold fGt fO at q
  split at q
  · rename_i b hb
    obtain ⟨j, i, e1, e2, rfl⟩ := ltC_ok rl.x0 hb ry rx
    exact ⟨i, j, e2, e1, here q rl rfl⟩
  · exact q.elim
theorem oLe : OpS K (rI0 fun i j => .bl (decide (i ≤ j))) fLe := by
  intro cl p ρ W Q x y vx vy ch H rl rx ry q
  unfold fLe fO at q
  split at q
  · rename_i b hb
    dsimp only at hb
    cases hl : ltC vy vx with
    | none => rw [hl] at hb; cases hb
    | some b' =>
      rw [hl] at hb
      cases hb
      obtain ⟨j, i, e1, e2, rfl⟩ := ltC_ok rl.x0 hl ry rx
      refine ⟨i, j, e2, e1, here q rl ?_⟩
      show V.bl _ = V.bl _
      congr 1
      show decide _ = !decide _
      rw [← decide_not, decide_eq_decide]; omega
  · exact q.elim
theorem oGe : OpS K (rI0 fun i j => .bl (decide (j ≤ i))) fGe := by
  intro cl p ρ W Q x y vx vy ch H rl rx ry q
  unfold fGe fO at q
  split at q
  · rename_i b hb
    dsimp only at hb
    cases hl : ltC vx vy with
    | none => rw [hl] at hb; cases hb
    | some b' =>
      rw [hl] at hb
      cases hb
      obtain ⟨i, j, e1, e2, rfl⟩ := ltC_ok rl.x0 hl rx ry
      refine ⟨i, j, e1, e2, here q rl ?_⟩
      show V.bl _ = V.bl _
      congr 1
      show decide _ = !decide _
      rw [← decide_not, decide_eq_decide]; omega
  · exact q.elim
/-- == of scalars -/
def eqC : CV → CV → Option Bool
  | .int i, .int j => some (decide (i = j))
  | .str i, .str j => some (decide (i = j))
  | .bl i, .bl j => some (decide (i = j))
  | .non, .non => some true
  | .int _, .non => some false
  | .non, .int _ => some false
  | .sym c, .sym d => some (decide (c = d))
  | .sym c, .int j => if ltZ j c = true then some false else none
  | .int i, .sym d => if ltZ i d = true then some false else none
  | _, _ => none
theorem eqC_ok {p : Pa} {ρ : List Addr} {vx vy : CV} {x y : V} {b : Bool} (x0 : 0 ≤ p.x) (h : eqC vx vy = some b) (rx : RC p ρ vx x) (ry : RC p ρ vy y) : scal x y = true ∧ b = decide (x = y) := by
  unfold eqC at h
  split at h
  · cases h; cases rx; cases ry; exact ⟨rfl, by rw [decide_eq_decide]; simp⟩
  · cases h; cases rx; cases ry; exact ⟨rfl, by rw [decide_eq_decide]; simp⟩
  · cases h; cases rx; cases ry; exact ⟨rfl, by rw [decide_eq_decide]; simp⟩
  · cases h; cases rx; cases ry; exact ⟨rfl, by simp⟩
  · cases h; cases rx; cases ry; exact ⟨rfl, by simp⟩
  · cases h; cases rx; cases ry; exact ⟨rfl, by simp⟩
  · cases h; cases rx; cases ry; exact ⟨rfl, by rw [decide_eq_decide, V.int.injEq]; omega⟩
  · split at h
    · rename_i hn
      rw [ltZ_iff] at hn
      cases h; cases rx; cases ry
      refine ⟨rfl, ?_⟩
      symm; rw [decide_eq_false_iff_not, V.int.injEq]; omega
    · cases h
  · split at h
    · rename_i hn
      rw [ltZ_iff] at hn
      cases h; cases rx; cases ry
      refine ⟨rfl, ?_⟩
      symm; rw [decide_eq_false_iff_not, V.int.injEq]; omega
    · cases h
  · cases h
def fEq : F2 := fO eqC
def fNe : F2 := fO fun x y => (eqC x y).map (!·)
theorem oEq : OpS K rEq fEq := by
  intro cl p ρ W Q x y vx vy ch H rl rx ry q
  unfold fEq fO at q
  split at q
  · rename_i b hb
    obtain ⟨e1, rfl⟩ := eqC_ok rl.x0 hb rx ry
    exact ⟨e1, here q rl rfl⟩
  · exact q.elim
theorem oNe : OpS K rNe fNe := by
  intro cl p ρ W Q x y vx vy ch H rl rx ry q
  unfold fNe fO at q
  split at q
  · rename_i b hb
    dsimp only at hb
    cases hl : eqC vx vy with
    | none => rw [hl] at hb; cases hb
    | some b' =>
      rw [hl] at hb
      cases hb
      obtain ⟨e1, rfl⟩ := eqC_ok rl.x0 hl rx ry
      exact ⟨e1, here q rl rfl⟩
  · exact q.elim
/-- is None -/
def fIsN : F2 := fun x y h => match y, x with
  | .non, .non => .ok (.bl true) h
  | .non, _ => .ok (.bl false) h
  | _, _ => .st
def fNotN : F2 := fun x y h => match y, x with
  | .non, .non => .ok (.bl false) h
  | .non, _ => .ok (.bl true) h
  | _, _ => .st
theorem RC.non_iff {p : Pa} {ρ : List Addr} {v : CV} {x : V} (r : RC p ρ v x) : x = .non ↔ v = .non := by
  cases v with
  | ref n => obtain ⟨a, _, rfl⟩ := r; simp
  | _ => cases r; simp
theorem oIsN : OpS K (fun x y H Q => y = .non ∧ Q (.bl (decide (x = .non))) H) fIsN := by
  intro cl p ρ W Q x y vx vy ch H rl rx ry q
  unfold fIsN at q
  split at q
  · exact ⟨ry, here q rl (by cases rx; rfl)⟩
  · rename_i h
    refine ⟨ry, here q rl ?_⟩
    show V.bl _ = V.bl _
    congr 1
    rw [decide_eq_false_iff_not, rx.non_iff]; exact h
  · exact q.elim
theorem oNotN : OpS K (fun x y H Q => y = .non ∧ Q (.bl (!decide (x = .non))) H) fNotN := by
  intro cl p ρ W Q x y vx vy ch H rl rx ry q
  unfold fNotN at q
  split at q
  · exact ⟨ry, here q rl (by cases rx; rfl)⟩
  · rename_i h
    refine ⟨ry, here q rl ?_⟩
    show V.bl _ = V.bl _
    congr 1
    rw [Bool.not_eq_true', decide_eq_false_iff_not, rx.non_iff]; exact h
  · exact q.elim

/-! ### chains, and, or, not -/
def mChain (f g : F2) (a b c : ME) : ME := fun ns σ h => (a ns σ h).bind fun x h1 => (b ns σ h1).bind fun y h2 => (f x y h2).bind fun k h3 => match k with
  | .bl true => (c ns σ h3).bind fun z h4 => g y z h4
  | .bl false => .ok (.bl false) h3
  | _ => .st
theorem chain3 {r r' : R2} {f g : F2} {a b c : ME} (hs : OpS X.K r f) (hs' : OpS X.K r' g) {σ : St} {H : Hp} {Q : VK} (h : tE X.K cl W (mChain f g a b c) σ H Q) : tChain r r' (tE X.K cl W a) (tE X.K cl W b) (tE X.K cl W c) σ H Q := by
  obtain ⟨p, ρ, c, ch, rl, rs, q⟩ := h
  refine ⟨p, ρ, c, ch, rl, rs, Post.imp ?_ (Post.bind q)⟩
  rintro x H1 ⟨ρ1, v1, ch1, e1, r1, rv1, q1⟩
  refine ⟨p, ρ1, c, ch1, r1, rs.mono e1, Post.imp ?_ (Post.bind q1)⟩
  rintro y H2 ⟨ρ2, v2, ch2, e2, r2, rv2, q2⟩
  refine hs cl p ρ2 W _ x y v1 v2 ch2 H2 r2 (rv1.mono e2) rv2 (Post.imp ?_ (Post.bind q2))
  rintro k H3 ⟨ρ3, v3, ch3, e3, r3, rv3, q3⟩
  split at q3
  · refine ⟨true, rv3, ?_⟩
    rw [if_pos rfl]
    refine ⟨p, ρ3, c, ch3, r3, rs.mono (e1.trans (e2.trans e3)), Post.imp ?_ (Post.bind q3)⟩
    rintro z H4 ⟨ρ4, v4, ch4, e4, r4, rv4, q4⟩
    exact hs' cl p ρ4 W Q y z v2 v4 ch4 H4 r4 (rv2.mono (e3.trans e4)) rv4 q4
  · refine ⟨false, rv3, ?_⟩
    rw [if_neg Bool.false_ne_true]
    exact here q3 r3 rfl
  · exact q3.elim
theorem xchain {op op' : CmpOp} {r r' : R2} {f g : F2} (ho : OpR X (compareOp op) r) (hs : OpS X.K r f) (ho' : OpR X (compareOp op') r') (hs' : OpS X.K r' g) (ha : PE X a (tE X.K cl W ma)) (hb : PE X b (tE X.K cl W mb)) (hc : PE X c (tE X.K cl W mc))
    (hm : lastMarks [op, op'] [b, c] = false := by with_unfolding_all rfl) : PE X (.Compare a [op, op'] [b, c] pos) (tE X.K cl W (mChain f g ma mb mc)) :=
  pe_imp (pe_chain ho ho' ha hb hc hm) fun _ _ _ h => chain3 hs hs' h
theorem xchainT {op op' : CmpOp} {r r' : R2} {f g : F2} (ho : OpR X (compareOp op) r) (hs : OpS X.K r f) (ho' : OpR X (compareOp op') r') (hs' : OpS X.K r' g) (ha : PE X a (tE X.K cl W ma)) (hb : PE X b (tE X.K cl W mb)) (hc : PE X c (tE X.K cl W mc))
    (hm : lastMarks [op, op'] [b, c] = false := by with_unfolding_all rfl) : PT X (.Compare a [op, op'] [b, c] pos) (tT X.K cl W (mTst (mChain f g ma mb mc))) :=
  pt_imp (pt_chain ho ho' ha hb hc hm) fun _ _ _ h => chain3 hs hs' (tst h)
def mAndT (a b : MT) : MT := fun ns c h => (a ns c h).bind fun k h1 => if k = true then b ns c h1 else .ok false h1
def mOrT (a b : MT) : MT := fun ns c h => (a ns c h).bind fun k h1 => if k = true then .ok true h1 else b ns c h1
def mNotT (a : MT) : MT := fun ns c h => (a ns c h).bind fun k h1 => .ok (!k) h1
variable {ta tb : MT} {rest : List Expr}
theorem xand1 (h : PT X a (tT X.K cl W ta)) : PW X (.BoolOp .And [a] pos) (tT X.K cl W ta) := pw_and1 h
theorem xor1 (h : PT X a (tT X.K cl W ta)) : PW X (.BoolOp .Or [a] pos) (tT X.K cl W ta) := pw_or1 h
theorem xand (ha : PT X a (tT X.K cl W ta)) (hb : PW X (.BoolOp .And (b :: rest) pos) (tT X.K cl W tb)) : PW X (.BoolOp .And (a :: b :: rest) pos) (tT X.K cl W (mAndT ta tb)) := by
  refine pw_imp (pw_and ha hb) fun σ H Q ⟨p, ρ, c, ch, rl, rs, q⟩ => ?_
  refine ⟨p, ρ, c, ch, rl, rs, Post.imp ?_ (Post.bind q)⟩
  rintro k H1 ⟨ρ1, v1, ch1, e1, r1, rfl, q1⟩
  cases v1 with
  | true => exact ⟨p, ρ1, c, ch1, r1, rs.mono e1, q1⟩
  | false => exact here q1 r1 rfl
theorem xor' (ha : PT X a (tT X.K cl W ta)) (hb : PW X (.BoolOp .Or (b :: rest) pos) (tT X.K cl W tb)) : PW X (.BoolOp .Or (a :: b :: rest) pos) (tT X.K cl W (mOrT ta tb)) := by
  refine pw_imp (pw_or ha hb) fun σ H Q ⟨p, ρ, c, ch, rl, rs, q⟩ => ?_
  refine ⟨p, ρ, c, ch, rl, rs, Post.imp ?_ (Post.bind q)⟩
  rintro k H1 ⟨ρ1, v1, ch1, e1, r1, rfl, q1⟩
  cases v1 with
  | true => exact here q1 r1 rfl
  | false => exact ⟨p, ρ1, c, ch1, r1, rs.mono e1, q1⟩
theorem xnot (ha : PT X a (tT X.K cl W ta)) : PT X (.UnaryOp .Not a pos) (tT X.K cl W (mNotT ta)) := by
  refine pt_imp (pt_not ha) fun σ H Q ⟨p, ρ, c, ch, rl, rs, q⟩ => ?_
  refine ⟨p, ρ, c, ch, rl, rs, Post.imp ?_ (Post.bind q)⟩
  rintro k H1 ⟨ρ1, v1, ch1, e1, r1, rfl, q1⟩
  exact here q1 r1 rfl
/-- .. as values -/
def mAndV (a b : ME) : ME := fun ns c h => (a ns c h).bind fun k h1 => match k with
  | .bl true => b ns c h1
  | .bl false => .ok (.bl false) h1
  | _ => .st
def mOrV (a b : ME) : ME := fun ns c h => (a ns c h).bind fun k h1 => match k with
  | .bl true => .ok (.bl true) h1
  | .bl false => b ns c h1
  | _ => .st
def mNotV (a : ME) : ME := fun ns c h => (a ns c h).bind fun k h1 => match k with
  | .bl x => .ok (.bl (!x)) h1
  | _ => .st
theorem xandV (ha : PE X a (tE X.K cl W ma)) (hb : PE X (.BoolOp .And (b :: rest) pos) (tE X.K cl W mb)) : PE X (.BoolOp .And (a :: b :: rest) pos) (tE X.K cl W (mAndV ma mb)) := by
  refine pe_imp (pe_and ha hb) fun σ H Q ⟨p, ρ, c, ch, rl, rs, q⟩ => ?_
  refine ⟨p, ρ, c, ch, rl, rs, Post.imp ?_ (Post.bind q)⟩
  rintro k H1 ⟨ρ1, v1, ch1, e1, r1, rv1, q1⟩
  split at q1
  · exact ⟨true, rv1, by rw [if_pos rfl]; exact ⟨p, ρ1, c, ch1, r1, rs.mono e1, q1⟩⟩
  · exact ⟨false, rv1, by rw [if_neg Bool.false_ne_true]; exact here q1 r1 rfl⟩
  · exact q1.elim
theorem xorV (ha : PE X a (tE X.K cl W ma)) (hb : PE X (.BoolOp .Or (b :: rest) pos) (tE X.K cl W mb)) : PE X (.BoolOp .Or (a :: b :: rest) pos) (tE X.K cl W (mOrV ma mb)) := by
  refine pe_imp (pe_or ha hb) fun σ H Q ⟨p, ρ, c, ch, rl, rs, q⟩ => ?_
  refine ⟨p, ρ, c, ch, rl, rs, Post.imp ?_ (Post.bind q)⟩
  rintro k H1 ⟨ρ1, v1, ch1, e1, r1, rv1, q1⟩
  split at q1
  · exact ⟨true, rv1, by rw [if_pos rfl]; exact here q1 r1 rfl⟩
  · exact ⟨false, rv1, by rw [if_neg Bool.false_ne_true]; exact ⟨p, ρ1, c, ch1, r1, rs.mono e1, q1⟩⟩
  · exact q1.elim
theorem xone {op : BoolOp} (h : PE X a (tE X.K cl W ma)) : PE X (.BoolOp op [a] pos) (tE X.K cl W ma) := pe_one h
theorem xnotV (ha : PE X a (tE X.K cl W ma)) : PE X (.UnaryOp .Not a pos) (tE X.K cl W (mNotV ma)) := by
  refine pe_imp (pe_not ha) fun σ H Q ⟨p, ρ, c, ch, rl, rs, q⟩ => ?_
  refine ⟨p, ρ, c, ch, rl, rs, Post.imp ?_ (Post.bind q)⟩
  rintro k H1 ⟨ρ1, v1, ch1, e1, r1, rv1, q1⟩
  split at q1
  · exact ⟨_, rv1, here q1 r1 rfl⟩
  · exact q1.elim
/-- one place -/
def mUn (f : CV → CH → Ou CV) (a : ME) : ME := fun ns c h => (a ns c h).bind fun x h1 => f x h1
def fNeg : CV → CH → Ou CV := fun x h => match x with
  | .int i => .ok (.int (-i)) h
  | _ => .st
theorem xneg (ha : PE X a (tE X.K cl W ma)) : PE X (.UnaryOp .USub a pos) (tE X.K cl W (mUn fNeg ma)) := by
  refine pe_imp (pe_un un_neg ha) fun σ H Q ⟨p, ρ, c, ch, rl, rs, q⟩ => ?_
  refine ⟨p, ρ, c, ch, rl, rs, Post.imp ?_ (Post.bind q)⟩
  rintro k H1 ⟨ρ1, v1, ch1, e1, r1, rv1, q1⟩
  unfold fNeg at q1
  split at q1
  · exact ⟨_, rv1, here q1 r1 rfl⟩
  · exact q1.elim
def mIfE (t : MT) (a b : ME) : ME := fun ns c h => (t ns c h).bind fun k h1 => if k = true then a ns c h1 else b ns c h1
theorem xifE {c : Expr} (hc : PT X c (tT X.K cl W ta)) (ha : PE X a (tE X.K cl W ma)) (hb : PE X b (tE X.K cl W mb)) : PE X (.IfExp c a b pos) (tE X.K cl W (mIfE ta ma mb)) := by
  refine pe_imp (pe_ifExp hc ha hb) fun σ H Q ⟨p, ρ, c, ch, rl, rs, q⟩ => ?_
  refine ⟨p, ρ, c, ch, rl, rs, Post.imp ?_ (Post.bind q)⟩
  rintro k H1 ⟨ρ1, v1, ch1, e1, r1, rfl, q1⟩
  cases v1 with
  | true => exact ⟨p, ρ1, c, ch1, r1, rs.mono e1, q1⟩
  | false => exact ⟨p, ρ1, c, ch1, r1, rs.mono e1, q1⟩

/-! ### lists of expressions, displays -/
def mNil : MA := fun _ _ h => .ok [] h
def mCons (a : ME) (r : MA) : MA := fun ns c h => (a ns c h).bind fun x h1 => (r ns c h1).bind fun xs h2 => .ok (x :: xs) h2
variable {es : List Expr} {mr : MA}
theorem xnil : PA X [] (tA X.K cl W mNil) := pa_imp pa_nil fun σ H Q ⟨p, ρ, c, ch, rl, rs, q⟩ => here q rl .nil
theorem xcons (ha : PE X e (tE X.K cl W ma)) (hr : PA X es (tA X.K cl W mr)) (hs : starEach (e :: es) X.env = (false, eval e X.env) :: starEach es X.env := by rfl) : PA X (e :: es) (tA X.K cl W (mCons ma mr)) := by
  refine pa_imp (pa_cons ha hr hs) fun σ H Q ⟨p, ρ, c, ch, rl, rs, q⟩ => ?_
  refine ⟨p, ρ, c, ch, rl, rs, Post.imp ?_ (Post.bind q)⟩
  rintro x H1 ⟨ρ1, v1, ch1, e1, r1, rv1, q1⟩
  refine ⟨p, ρ1, c, ch1, r1, rs.mono e1, Post.imp ?_ (Post.bind q1)⟩
  rintro y H2 ⟨ρ2, v2, ch2, e2, r2, rv2, q2⟩
  exact here q2 r2 (.cons (rv1.mono e2) rv2)
/-- a new object -/
def new (o : CO) (h : CH) : Ou CV := .ok (.ref h.length) (h ++ [o])
theorem made {p : Pa} {ρ : List Addr} {ch : CH} {H : Hp} {Q : VK} {o : CO} {u : HO} (q : Post K cl p ρ W (RV p) Q (new o ch)) (rl : Rel K p ρ ch H) (ro : RO p ρ o u) : ∀ a, H a = none → Q (.ref a) (upd H a u) := fun a n =>
  q (ρ ++ [a]) _ _ (List.prefix_append _ _) (rl.alloc n ro) ⟨a, by rw [← rl.len]; simp, rfl⟩
def lineB (n : Nat) : Bool := Nat.ble n 1000000
theorem lineB_ok {n : Nat} (h : lineB n = true) : n < sizeLine := by
  have z := Nat.le_of_ble_eq_true h
  rw [sizeLine_eq]; omega
def mLst (a : MA) : ME := fun ns c h => (a ns c h).bind fun xs h1 => if lineB xs.length = true then new (.lst xs) h1 else .st
theorem xlst (h : PA X es (tA X.K cl W mr)) : PE X (.List es pos) (tE X.K cl W (mLst mr)) := by
  refine pe_imp (pe_lst h) fun σ H Q ⟨p, ρ, c, ch, rl, rs, q⟩ => ?_
  refine ⟨p, ρ, c, ch, rl, rs, Post.imp ?_ (Post.bind q)⟩
  rintro xs H1 ⟨ρ1, v1, ch1, e1, r1, rv1, q1⟩
  split at q1
  · rename_i hb
    exact ⟨by rw [← Prd.len rv1]; exact Nat.le_of_lt (lineB_ok hb), made q1 r1 ⟨xs, rfl, rv1⟩⟩
  · exact q1.elim
def mTup (a : MA) : ME := fun ns c h => (a ns c h).bind fun xs h1 => if lineB xs.length = true then new (.tup xs) h1 else .st
theorem xtup {x1} (h : PA X es (tA X.K cl W mr)) : PE X (.Tuple es x1 pos) (tE X.K cl W (mTup mr)) := by
  refine pe_imp (pe_tup h) fun σ H Q ⟨p, ρ, c, ch, rl, rs, q⟩ => ?_
  refine ⟨p, ρ, c, ch, rl, rs, Post.imp ?_ (Post.bind q)⟩
  rintro xs H1 ⟨ρ1, v1, ch1, e1, r1, rv1, q1⟩
  split at q1
  · rename_i hb
    exact ⟨by rw [← Prd.len rv1]; exact Nat.le_of_lt (lineB_ok hb), made q1 r1 ⟨xs, rfl, rv1⟩⟩
  · exact q1.elim
end
end Xq
end

section
set_option Elab.async false
set_option linter.all false
set_option maxRecDepth 100000
set_option maxHeartbeats 2000000
namespace Xq
open PySem PySem.Spec PyProof.Rows L2
section
variable {X : Cx} {cl : Nat → Value} {W : WX} {K : PySem.W.Frag}
variable {a b c e : Expr} {es : List Expr} {ma mb mc me : ME} {mr : MA} {ta tb : MT} {pos : Pos}

/-! ### calls of built-ins by values -/
abbrev FC := List Int → List CV → CH → Ou CV
def mArg (f : FC) (a : MA) : ME := fun ns c h => (a ns c h).bind fun xs h1 => f ns xs h1
def CallS (K : PySem.W.Frag) (r : List V → Hp → VK → Prop) (f : FC) : Prop := ∀ cl p ρ W Q vs cs ch H, Rel K p ρ ch H → RCs p ρ cs vs → Post K cl p ρ W (RV p) Q (f p.ns cs ch) → r vs H Q
theorem arg {r : List V → Hp → VK → Prop} {f : FC} (hs : CallS X.K r f) {σ : St} {H : Hp} {Q : VK} (h : tE X.K cl W (mArg f mr) σ H Q) : tA X.K cl W mr σ H fun vs H1 => r vs H1 Q := by
  obtain ⟨p, ρ, c, ch, rl, rs, q⟩ := h
  refine ⟨p, ρ, c, ch, rl, rs, Post.imp ?_ (Post.bind q)⟩
  rintro x H1 ⟨ρ1, v1, ch1, e1, r1, rv1, q1⟩
  exact hs cl p ρ1 W Q x v1 ch1 H1 r1 rv1 q1
theorem xcallB {x : Str} {id : String} {r : List V → Hp → VK → Prop} {f : FC} {p : Pos} (hc : CallR X (.builtin id) r) (hs : CallS X.K r f) (hm : X.mg x = none) (hv : bootBuiltins x = some (.builtin id)) (ha : PA X (e :: es) (tA X.K cl W mr)) (hg : Gl X x := by rfl) (hn : x ≠ "__name__" := by decide) (hdb : (x == ("__debug__" : Str)) = false := by decide)
    (he : starEach (e :: es) X.env = (false, eval e X.env) :: starEach es X.env := by rfl) (hpl : (backTo pos (starEach es X.env)).any (·.1) = false := by rfl) : PE X (.Call (.Name x p) (e :: es) [] pos) (tE X.K cl W (mArg f mr)) :=
  pe_imp (pe_callB hc hg hm hv ha hn hdb he hpl) fun _ _ _ h => arg hs h
theorem xcallTy {x : Str} {T : String} {r : List V → Hp → VK → Prop} {f : FC} {p : Pos} (hc : CallR X (.type T) r) (hs : CallS X.K r f) (hm : X.mg x = none) (hv : bootBuiltins x = some (.type T)) (ha : PA X (e :: es) (tA X.K cl W mr)) (hg : Gl X x := by rfl) (hn : x ≠ "__name__" := by decide) (hdb : (x == ("__debug__" : Str)) = false := by decide)
    (he : starEach (e :: es) X.env = (false, eval e X.env) :: starEach es X.env := by rfl) (hpl : (backTo pos (starEach es X.env)).any (·.1) = false := by rfl) : PE X (.Call (.Name x p) (e :: es) [] pos) (tE X.K cl W (mArg f mr)) :=
  pe_imp (pe_callTy hc hg hm hv ha hn hdb he hpl) fun _ _ _ h => arg hs h

/-- what is a list, a tuple at a value -/
def lstC (ns : List Int) (h : CH) : CV → Option (List CV)
  | .ref n => match h[n]? with
    | some (.lst xs) => some xs
    | _ => none
  | .scr => some (ns.map CV.int)
  | _ => none
def tupC (h : CH) : CV → Option (List CV)
  | .ref n => match h[n]? with
    | some (.tup xs) => some xs
    | _ => none
  | _ => none
theorem lstC_ok {p : Pa} {ρ : List Addr} {ch : CH} {H : Hp} {v : CV} {x : V} {xs : List CV} (h : lstC p.ns ch v = some xs) (rl : Rel K p ρ ch H) (rv : RC p ρ v x) : ∃ a ys, x = .ref a ∧ SqL K H a ys ∧ RCs p ρ xs ys := by
  unfold lstC at h
  split at h
  · rename_i n
    split at h
    · rename_i zs e
      cases h
      obtain ⟨a, ea, rfl⟩ := rv
      obtain ⟨u, hu, ys, rfl, r⟩ := rl.at_ ea e
      exact ⟨a, ys, rfl, SqL.of hu, r⟩
    · cases h
  · cases h
    exact ⟨_, _, rv, rl.script, Prd.ofInts⟩
  · cases h
theorem tupC_ok {p : Pa} {ρ : List Addr} {ch : CH} {H : Hp} {v : CV} {x : V} {xs : List CV} (h : tupC ch v = some xs) (rl : Rel K p ρ ch H) (rv : RC p ρ v x) : ∃ a ys, x = .ref a ∧ H a = some (.tup ys) ∧ RCs p ρ xs ys := by
  unfold tupC at h
  split at h
  · rename_i n
    split at h
    · rename_i zs e
      cases h
      obtain ⟨a, ea, rfl⟩ := rv
      obtain ⟨u, hu, ys, rfl, r⟩ := rl.at_ ea e
      exact ⟨a, ys, rfl, hu, r⟩
    · cases h
  · cases h
def fLen : FC := fun ns xs h => match xs with
  | [x] => match lstC ns h x with
    | some ys => .ok (.int ys.length) h
    | none => match tupC h x with
      | some ys => .ok (.int ys.length) h
      | none => .st
  | _ => .st
theorem Prd.one {α β : Type} {F : α → β → Prop} {x : α} {ys : List β} (h : Paired F [x] ys) : ∃ y, ys = [y] ∧ F x y := by
  cases h with
  | cons r t => cases t; exact ⟨_, rfl, r⟩
theorem Prd.two {α β : Type} {F : α → β → Prop} {x x' : α} {ys : List β} (h : Paired F [x, x'] ys) : ∃ y y', ys = [y, y'] ∧ F x y ∧ F x' y' := by
  cases h with
  | cons r t =>
    obtain ⟨y', rfl, r'⟩ := Prd.one t
    exact ⟨_, _, rfl, r, r'⟩
theorem sLen : CallS K (fun xs H Q => ∃ p ys, xs = [.ref p] ∧ (SqL K H p ys ∨ SqT K H p ys) ∧ Q (.int ys.length) H) fLen := by
  intro cl p ρ W Q vs cs ch H rl rc q
  unfold fLen at q
  split at q
  · obtain ⟨y, rfl, ry⟩ := Prd.one rc
    split at q
    · rename_i ys hl
      obtain ⟨a, zs, rfl, hq, r⟩ := lstC_ok hl rl ry
      exact ⟨a, zs, rfl, .inl hq, here q rl (by show V.int _ = V.int _; rw [Prd.len r])⟩
    · split at q
      · rename_i ys hl
        obtain ⟨a, zs, rfl, hq, r⟩ := tupC_ok hl rl ry
        exact ⟨a, zs, rfl, .inr (SqT.of hq), here q rl (by show V.int _ = V.int _; rw [Prd.len r])⟩
      · exact q.elim
  · exact q.elim
def fListOf : FC := fun ns xs h => match xs with
  | [x] => match lstC ns h x with
    | some ys => new (.lst ys) h
    | none => match tupC h x with
      | some ys => new (.lst ys) h
      | none => .st
  | _ => .st
theorem sListOf : CallS K (fun xs H Q => ∃ p ys, xs = [.ref p] ∧ (SqL K H p ys ∨ SqT K H p ys) ∧ ∀ l, H l = none → Q (.ref l) (upd H l (.lst ys))) fListOf := by
  intro cl p ρ W Q vs cs ch H rl rc q
  unfold fListOf at q
  split at q
  · obtain ⟨y, rfl, ry⟩ := Prd.one rc
    split at q
    · rename_i ys hl
      obtain ⟨a, zs, rfl, hq, r⟩ := lstC_ok hl rl ry
      exact ⟨a, zs, rfl, .inl hq, made q rl ⟨zs, rfl, r⟩⟩
    · split at q
      · rename_i ys hl
        obtain ⟨a, zs, rfl, hq, r⟩ := tupC_ok hl rl ry
        exact ⟨a, zs, rfl, .inr (SqT.of hq), made q rl ⟨zs, rfl, r⟩⟩
      · exact q.elim
  · exact q.elim
def fTupOf : FC := fun ns xs h => match xs with
  | [x] => match lstC ns h x with
    | some ys => new (.tup ys) h
    | none => match tupC h x with
      | some _ => .ok x h
      | none => .st
  | _ => .st
theorem sTupOf : CallS K (fun xs H Q => ∃ p ys, xs = [.ref p] ∧ ((SqL K H p ys ∧ ∀ l, H l = none → Q (.ref l) (upd H l (.tup ys))) ∨ (SqT K H p ys ∧ Q (.ref p) H))) fTupOf := by
  intro cl p ρ W Q vs cs ch H rl rc q
  unfold fTupOf at q
  split at q
  · obtain ⟨y, rfl, ry⟩ := Prd.one rc
    split at q
    · rename_i ys hl
      obtain ⟨a, zs, rfl, hq, r⟩ := lstC_ok hl rl ry
      exact ⟨a, zs, rfl, .inl ⟨hq, made q rl ⟨zs, rfl, r⟩⟩⟩
    · split at q
      · rename_i ys hl
        obtain ⟨a, zs, rfl, hq, r⟩ := tupC_ok hl rl ry
        exact ⟨a, zs, rfl, .inr ⟨SqT.of hq, here q rl ry⟩⟩
      · exact q.elim
  · exact q.elim
/-- all ints -/
def intsC : List CV → Option (List Int)
  | [] => some []
  | .int i :: r => match intsC r with
    | some l => some (i :: l)
    | none => none
  | _ :: _ => none
theorem intsC_ok : ∀ {xs : List CV} {ns : List Int}, intsC xs = some ns → xs = ns.map CV.int
  | [], ns, h => by cases h; rfl
  | .int i :: r, ns, h => by
    unfold intsC at h
    split at h
    · rename_i l e
      cases h
      rw [intsC_ok e]; rfl
    · cases h
  | .non :: _, _, h => by cases h
  | .bl _ :: _, _, h => by cases h
  | .sym _ :: _, _, h => by cases h
  | .str _ :: _, _, h => by cases h
  | .ref _ :: _, _, h => by cases h
  | .scr :: _, _, h => by cases h
def onInts (g : List Int → Option Int) : FC := fun ns xs h => match xs with
  | [x] => match lstC ns h x with
    | some ys => match intsC ys with
      | some l => match g l with
        | some m => .ok (.int m) h
        | none => .st
      | none => .st
    | none => .st
  | _ => .st
theorem onInts_ok {g : List Int → Option Int} {cl : Nat → Value} {p : Pa} {ρ : List Addr} {W : WX} {Q : VK} {vs : List V} {cs : List CV} {ch : CH} {H : Hp} (rl : Rel K p ρ ch H) (rc : RCs p ρ cs vs) (q : Post K cl p ρ W (RV p) Q (onInts g p.ns cs ch)) :
    ∃ a l m, vs = [.ref a] ∧ SqL K H a (l.map V.int) ∧ g l = some m ∧ Q (.int m) H := by
  unfold onInts at q
  split at q
  · obtain ⟨y, rfl, ry⟩ := Prd.one rc
    split at q
    · rename_i ys hl
      obtain ⟨a, zs, rfl, hq, r⟩ := lstC_ok hl rl ry
      split at q
      · rename_i l hi
        have e := intsC_ok hi
        subst e
        have e2 := Prd.ints r
        subst e2
        split at q
        · rename_i m hm
          exact ⟨a, l, m, rfl, hq, hm, here q rl rfl⟩
        · exact q.elim
      · exact q.elim
    · exact q.elim
  · exact q.elim
def fSum : FC := onInts fun l => some l.sum
theorem sSum : CallS K (rSum K) fSum := by
  intro cl p ρ W Q vs cs ch H rl rc q
  obtain ⟨a, l, m, rfl, hq, e, z⟩ := onInts_ok rl rc q
  cases e
  exact ⟨a, l, rfl, hq, z⟩
def maxL : List Int → Option Int
  | [] => none
  | x :: r => some (r.foldl (fun m y => if m < y then y else m) x)
def minL : List Int → Option Int
  | [] => none
  | x :: r => some (r.foldl (fun m y => if y < m then y else m) x)
theorem foldMax : ∀ (r : List Int) (x : Int), x ≤ r.foldl (fun m y => if m < y then y else m) x ∧ (∀ y ∈ r, y ≤ r.foldl (fun m y => if m < y then y else m) x) ∧ (r.foldl (fun m y => if m < y then y else m) x = x ∨ r.foldl (fun m y => if m < y then y else m) x ∈ r)
  | [], x => ⟨Int.le_refl _, fun _ h => by simp at h, .inl rfl⟩
  | y :: r, x => by
    obtain ⟨h1, h2, h3⟩ := foldMax r (if x < y then y else x)
    rw [List.foldl_cons]
    have hx : x ≤ (if x < y then y else x) := by split <;> omega
    have hy : y ≤ (if x < y then y else x) := by split <;> omega
    refine ⟨Int.le_trans hx h1, fun z hz => ?_, ?_⟩
    · rcases List.mem_cons.mp hz with rfl | hz
      · exact Int.le_trans hy h1
      · exact h2 z hz
    · rcases h3 with h3 | h3
      · rw [h3]
        by_cases c : x < y
        · rw [if_pos c]; exact .inr (List.mem_cons_self)
        · rw [if_neg c]; exact .inl rfl
      · exact .inr (List.mem_cons_of_mem _ h3)
theorem foldMin : ∀ (r : List Int) (x : Int), r.foldl (fun m y => if y < m then y else m) x ≤ x ∧ (∀ y ∈ r, r.foldl (fun m y => if y < m then y else m) x ≤ y) ∧ (r.foldl (fun m y => if y < m then y else m) x = x ∨ r.foldl (fun m y => if y < m then y else m) x ∈ r)
  | [], x => ⟨Int.le_refl _, fun _ h => by simp at h, .inl rfl⟩
  | y :: r, x => by
    obtain ⟨h1, h2, h3⟩ := foldMin r (if y < x then y else x)
    rw [List.foldl_cons]
    have hx : (if y < x then y else x) ≤ x := by split <;> omega
    have hy : (if y < x then y else x) ≤ y := by split <;> omega
    refine ⟨Int.le_trans h1 hx, fun z hz => ?_, ?_⟩
    · rcases List.mem_cons.mp hz with rfl | hz
      · exact Int.le_trans h1 hy
      · exact h2 z hz
    · rcases h3 with h3 | h3
      · rw [h3]
        by_cases c : y < x
        · rw [if_pos c]; exact .inr (List.mem_cons_self)
        · rw [if_neg c]; exact .inl rfl
      · exact .inr (List.mem_cons_of_mem _ h3)
theorem maxL_ok {l : List Int} {m : Int} (h : maxL l = some m) : 0 < l.length ∧ m ∈ l ∧ ∀ y ∈ l, y ≤ m := by
  cases l with
  | nil => cases h
  | cons x r =>
    cases h
    obtain ⟨h1, h2, h3⟩ := foldMax r x
    refine ⟨by simp, ?_, fun y hy => ?_⟩
    · rcases h3 with h3 | h3
      · rw [h3]; exact List.mem_cons_self
      · exact List.mem_cons_of_mem _ h3
    · rcases List.mem_cons.mp hy with rfl | hy
      · exact h1
      · exact h2 y hy
theorem minL_ok {l : List Int} {m : Int} (h : minL l = some m) : 0 < l.length ∧ m ∈ l ∧ ∀ y ∈ l, m ≤ y := by
  cases l with
  | nil => cases h
  | cons x r =>
    cases h
    obtain ⟨h1, h2, h3⟩ := foldMin r x
    refine ⟨by simp, ?_, fun y hy => ?_⟩
    · rcases h3 with h3 | h3
      · rw [h3]; exact List.mem_cons_self
      · exact List.mem_cons_of_mem _ h3
    · rcases List.mem_cons.mp hy with rfl | hy
      · exact h1
      · exact h2 y hy
def fMax : FC := onInts maxL
def fMin : FC := onInts minL
theorem sMax : CallS K (rMax K) fMax := by
  intro cl p ρ W Q vs cs ch H rl rc q
  obtain ⟨a, l, m, rfl, hq, e, z⟩ := onInts_ok rl rc q
  obtain ⟨h0, h1, h2⟩ := maxL_ok e
  refine ⟨a, l, rfl, hq, h0, fun m' hm' hle => ?_⟩
  have e' : m' = m := Int.le_antisymm (h2 m' hm') (hle m h1)
  rw [e']; exact z
theorem sMin : CallS K (rMin K) fMin := by
  intro cl p ρ W Q vs cs ch H rl rc q
  obtain ⟨a, l, m, rfl, hq, e, z⟩ := onInts_ok rl rc q
  obtain ⟨h0, h1, h2⟩ := minL_ok e
  refine ⟨a, l, rfl, hq, h0, fun m' hm' hle => ?_⟩
  have e' : m' = m := Int.le_antisymm (hle m h1) (h2 m' hm')
  rw [e']; exact z
def fInt1 : FC := fun _ xs h => match xs with
  | [.int i] => .ok (.int i) h
  | [.bl k] => .ok (.int (if k then 1 else 0)) h
  | _ => .st
theorem sInt1 : CallS K (fun xs H Q => (∃ i, xs = [.int i] ∧ Q (.int i) H) ∨ ∃ k, xs = [.bl k] ∧ Q (.int (if k then 1 else 0)) H) fInt1 := by
  intro cl p ρ W Q vs cs ch H rl rc q
  unfold fInt1 at q
  split at q
  · obtain ⟨y, rfl, ry⟩ := Prd.one rc
    cases ry
    exact .inl ⟨_, rfl, here q rl rfl⟩
  · obtain ⟨y, rfl, ry⟩ := Prd.one rc
    cases ry
    exact .inr ⟨_, rfl, here q rl rfl⟩
  · exact q.elim
def fAbs : FC := fun _ xs h => match xs with
  | [.int i] => .ok (.int (if i < 0 then -i else i)) h
  | _ => .st
theorem sAbs : CallS K (fun xs H Q => ∃ i, xs = [.int i] ∧ Q (.int (if i < 0 then -i else i)) H) fAbs := by
  intro cl p ρ W Q vs cs ch H rl rc q
  unfold fAbs at q
  split at q
  · obtain ⟨y, rfl, ry⟩ := Prd.one rc
    cases ry
    exact ⟨_, rfl, here q rl rfl⟩
  · exact q.elim
def fMax2 : FC := fun _ xs h => match xs with
  | [.int i, .int j] => .ok (.int (if j > i then j else i)) h
  | _ => .st
def fMin2 : FC := fun _ xs h => match xs with
  | [.int i, .int j] => .ok (.int (if j < i then j else i)) h
  | _ => .st
theorem sMax2 : CallS K (fun xs H Q => ∃ i j, xs = [.int i, .int j] ∧ Q (.int (if j > i then j else i)) H) fMax2 := by
  intro cl p ρ W Q vs cs ch H rl rc q
  unfold fMax2 at q
  split at q
  · obtain ⟨y, y', rfl, ry, ry'⟩ := Prd.two rc
    cases ry; cases ry'
    exact ⟨_, _, rfl, here q rl rfl⟩
  · exact q.elim
theorem sMin2 : CallS K (fun xs H Q => ∃ i j, xs = [.int i, .int j] ∧ Q (.int (if j < i then j else i)) H) fMin2 := by
  intro cl p ρ W Q vs cs ch H rl rc q
  unfold fMin2 at q
  split at q
  · obtain ⟨y, y', rfl, ry, ry'⟩ := Prd.two rc
    cases ry; cases ry'
    exact ⟨_, _, rfl, here q rl rfl⟩
  · exact q.elim
def fDivmod : FC := fun _ xs h => match xs with
  | [.int i, .int j] => if bDiv i j = true then new (.tup [.int (i / j), .int (i % j)]) h else .st
  | _ => .st
theorem sDivmod : CallS K (fun xs H Q => ∃ i j, xs = [.int i, .int j] ∧ CDiv i j ∧ ∀ p, H p = none → Q (.ref p) (upd H p (.tup [.int (i / j), .int (i % j)]))) fDivmod := by
  intro cl p ρ W Q vs cs ch H rl rc q
  unfold fDivmod at q
  split at q
  · obtain ⟨y, y', rfl, ry, ry'⟩ := Prd.two rc
    cases ry; cases ry'
    split at q
    · rename_i hb
      exact ⟨_, _, rfl, bDiv_iff.mp hb, made q rl ⟨_, rfl, .cons rfl (.cons rfl .nil)⟩⟩
    · exact q.elim
  · exact q.elim

/-! ### isinstance with a built-in class; is True -/
def tyC (ns : List Int) (h : CH) : CV → Option String
  | .non => some "NoneType"
  | .bl _ => some "bool"
  | .int _ => some "int"
  | .sym _ => some "int"
  | .str _ => some "str"
  | .ref n => match h[n]? with
    | some (.lst _) => some "list"
    | some (.tup _) => some "tuple"
    | some (.dK _) => some "dict"
    | some (.dT _) => some "dict"
    | none => none
  | .scr => none
theorem tyC_ok {p : Pa} {ρ : List Addr} {ch : CH} {H : Hp} {v : CV} {x : V} {T : String} (h : tyC p.ns ch v = some T) (rl : Rel K p ρ ch H) (rv : RC p ρ v x) : TyX K H x (.type T) := by
  unfold tyC at h
  split at h
  · cases h; cases rv; exact .base .non
  · cases h; cases rv; exact .base (.bl _)
  · cases h; cases rv; exact .base (.int _)
  · cases h; cases rv; exact .base (.int _)
  · cases h; cases rv; exact .base (.str _)
  · obtain ⟨a, ea, rfl⟩ := rv
    split at h
    · rename_i e; cases h; obtain ⟨u, hu, ys, rfl, r⟩ := rl.at_ ea e; exact .base (.lst hu)
    · rename_i e; cases h; obtain ⟨u, hu, ys, rfl, r⟩ := rl.at_ ea e; exact .base (.tup hu)
    · rename_i e; cases h; obtain ⟨u, hu, ys, rfl, r⟩ := rl.at_ ea e; exact .base (.dK hu)
    · rename_i e; cases h; obtain ⟨u, hu, ys, rfl, r⟩ := rl.at_ ea e; exact .base (.dT hu)
    · cases h
  · cases h
def isiC (a T : String) : Option Bool := match a, T with
  | "int", "int" => some true | "bool", "int" => some true | "str", "int" => some false | "list", "int" => some false | "tuple", "int" => some false | "NoneType", "int" => some false
  | "int", "bool" => some false | "bool", "bool" => some true
  | "tuple", "tuple" => some true | "NoneType", "tuple" => some false | "list", "tuple" => some false | "int", "tuple" => some false
  | "list", "list" => some true | "tuple", "list" => some false | "NoneType", "list" => some false | "int", "list" => some false
  | "str", "str" => some true | "int", "str" => some false | "list", "str" => some false | "NoneType", "str" => some false | "bool", "str" => some false
  | _, _ => none
theorem isiC_ok {a T : String} {b : Bool} (h : isiC a T = some b) : kitB a T = some b := by
  unfold isiC at h
  split at h <;> first | (cases h; decide +kernel) | cases h
def mIsi (T : String) (a : ME) : ME := fun ns c h => (a ns c h).bind fun x h1 => match tyC ns h1 x with
  | some t => match isiC t T with
    | some b => .ok (.bl b) h1
    | none => .st
  | none => .st
theorem xisi {x : Str} {T : String} {p p' : Pos} (hm : X.mg "isinstance" = none) (hmT : X.mg x = none) (hvT : bootBuiltins x = some (.type T)) (ha : PE X a (tE X.K cl W ma)) (hg : Gl X "isinstance" := by rfl) (hgT : Gl X x := by rfl)
    (hn : x ≠ "__name__" := by decide) (hdb : (x == ("__debug__" : Str)) = false := by decide)
    (he : starEach (a :: [.Name x p']) X.env = (false, eval a X.env) :: starEach [.Name x p'] X.env := by rfl) (hpl : (backTo pos (starEach [.Name x p'] X.env)).any (·.1) = false := by rfl)
    (he2 : starEach (.Name x p' :: []) X.env = (false, eval (.Name x p') X.env) :: starEach [] X.env := by rfl) : PE X (.Call (.Name "isinstance" p) [a, .Name x p'] [] pos) (tE X.K cl W (mIsi T ma)) := by
  refine pe_imp (pe_callB call_isi hg hm boot_isinstance (pa_cons ha (pa_cons (pe_bltn (v := .ty T) hgT hmT hvT rfl hn hdb) pa_nil he2) he) (by decide) (by decide) he hpl) fun σ H Q ⟨p, ρ, c, ch, rl, rs, q⟩ => ?_
  refine ⟨p, ρ, c, ch, rl, rs, Post.imp ?_ (Post.bind q)⟩
  rintro x H1 ⟨ρ1, v1, ch1, e1, r1, rv1, q1⟩
  split at q1
  · rename_i t ht
    split at q1
    · rename_i b hb
      exact ⟨x, .ty T, .type t, .type T, b, rfl, .ty T, tyC_ok ht r1 rv1, kit_ty (isiC_ok hb), here q1 r1 rfl⟩
    · exact q1.elim
  · exact q1.elim
def fIsB : F2 := fun x y h => match y, x with
  | .bl b, .bl a => .ok (.bl (decide (a = b))) h
  | .bl _, .int _ => .ok (.bl false) h
  | .bl _, .sym _ => .ok (.bl false) h
  | .bl _, .non => .ok (.bl false) h
  | .bl _, .str _ => .ok (.bl false) h
  | _, _ => .st
def rIsBX : R2 := fun x y H Q => ∃ b : Bool, y = .bl b ∧ ((∃ a : Bool, x = .bl a ∧ Q (.bl (decide (a = b))) H) ∨ ((∃ i, x = .int i) ∧ Q (.bl false) H) ∨ (x = .non ∧ Q (.bl false) H) ∨ ((∃ z, x = .str z) ∧ Q (.bl false) H))
theorem op_isBX : OpR X (compareOp .Is) rIsBX := by
  intro pins s σ H x y v u Q I rx ry h
  obtain ⟨b, rfl, h⟩ := h
  cases (show u = Value.bool b from ry)
  rcases h with ⟨a, rfl, q⟩ | ⟨⟨i, rfl⟩, q⟩ | ⟨rfl, q⟩ | ⟨⟨z, rfl⟩, q⟩
  · exact op_isBl pins s σ H (.bl a) (.bl b) v _ Q I rx rfl ⟨a, b, rfl, rfl, q⟩
  · obtain ⟨t, rfl⟩ := rx
    exact wpAny_is_other rfl (fun z => nomatch z) ⟨.bl false, H, I, rfl, q⟩
  · cases (show v = Value.none from rx)
    exact wpAny_is_other rfl (fun z => nomatch z) ⟨.bl false, H, I, rfl, q⟩
  · obtain ⟨t, rfl⟩ := rx
    exact wpAny_is_other rfl (fun z => nomatch z) ⟨.bl false, H, I, rfl, q⟩
theorem oIsB : OpS K rIsBX fIsB := by
  intro cl p ρ W Q x y vx vy ch H rl rx ry q
  unfold fIsB at q
  split at q
  · exact ⟨_, ry, .inl ⟨_, rx, here q rl rfl⟩⟩
  · exact ⟨_, ry, .inr (.inl ⟨⟨_, rx⟩, here q rl rfl⟩)⟩
  · exact ⟨_, ry, .inr (.inl ⟨⟨_, rx⟩, here q rl rfl⟩)⟩
  · exact ⟨_, ry, .inr (.inr (.inl ⟨rx, here q rl rfl⟩))⟩
  · exact ⟨_, ry, .inr (.inr (.inr ⟨⟨_, rx⟩, here q rl rfl⟩))⟩
  · exact q.elim

/-! ### items, slices -/
def mIx (f : List Int → F2) (a b : ME) : ME := fun ns c h => (a ns c h).bind fun x h1 => (b ns c h1).bind fun y h2 => f ns x y h2
def OpN (K : PySem.W.Frag) (r : R2) (f : List Int → F2) : Prop := ∀ cl p ρ W Q x y vx vy ch H, Rel K p ρ ch H → RC p ρ vx x → RC p ρ vy y → Post K cl p ρ W (RV p) Q (f p.ns vx vy ch) → r x y H Q
theorem twoN {r : R2} {f : List Int → F2} {a b : ME} (hs : OpN X.K r f) {σ : St} {H : Hp} {Q : VK} (h : tE X.K cl W (mIx f a b) σ H Q) : tOp r (tE X.K cl W a) (tE X.K cl W b) σ H Q := by
  obtain ⟨p, ρ, c, ch, rl, rs, q⟩ := h
  refine ⟨p, ρ, c, ch, rl, rs, Post.imp ?_ (Post.bind q)⟩
  rintro x H1 ⟨ρ1, v1, ch1, e1, r1, rv1, q1⟩
  refine ⟨p, ρ1, c, ch1, r1, rs.mono e1, Post.imp ?_ (Post.bind q1)⟩
  rintro y H2 ⟨ρ2, v2, ch2, e2, r2, rv2, q2⟩
  exact hs cl p ρ2 W Q x y v1 v2 ch2 H2 r2 (rv1.mono e2) rv2 q2
theorem xix {r : R2} {f : List Int → F2} (ho : IxR X r) (hs : OpN X.K r f) (ha : PE X a (tE X.K cl W ma)) (hb : PE X b (tE X.K cl W mb)) (hp : PlainIx b := by exact fun _ _ => rfl) : PE X (.Subscript a b pos) (tE X.K cl W (mIx f ma mb)) :=
  pe_imp (pe_ix ho ha hb hp) fun _ _ _ h => twoN hs h
def fIxL : List Int → F2 := fun ns x y h => match lstC ns h x, y with
  | some xs, .int i => match atI xs i with
    | some v => .ok v h
    | none => .st
  | _, _ => .st
def fIxT : List Int → F2 := fun _ x y h => match tupC h x, y with
  | some xs, .int i => match atI xs i with
    | some v => .ok v h
    | none => .st
  | _, _ => .st
theorem Prd.ix {α β : Type} {F : α → β → Prop} {xs : List α} {ys : List β} {i : Int} {x : α} (h : Paired F xs ys) (e : atI xs i = some x) : ∃ y, atI ys i = some y ∧ F x y := by
  unfold atI at e ⊢
  rw [← Prd.len h]
  cases z : ixN xs.length i with
  | none => rw [z] at e; cases e
  | some j => rw [z] at e; exact Prd.get h e
theorem oIxL : OpN K (rIxL K) fIxL := by
  intro cl p ρ W Q x y vx vy ch H rl rx ry q
  unfold fIxL at q
  split at q
  · rename_i xs i hl
    obtain ⟨a, zs, rfl, hq, r⟩ := lstC_ok hl rl rx
    split at q
    · rename_i v hv
      obtain ⟨w, hw, rw'⟩ := Prd.ix r hv
      exact ⟨a, zs, _, w, rfl, ry, hq, hw, here q rl rw'⟩
    · exact q.elim
  · exact q.elim
theorem oIxT : OpN K (rIxT K) fIxT := by
  intro cl p ρ W Q x y vx vy ch H rl rx ry q
  unfold fIxT at q
  split at q
  · rename_i xs i hl
    obtain ⟨a, zs, rfl, hq, r⟩ := tupC_ok hl rl rx
    split at q
    · rename_i v hv
      obtain ⟨w, hw, rw'⟩ := Prd.ix r hv
      exact ⟨a, zs, _, w, rfl, ry, SqT.of hq, hw, here q rl rw'⟩
    · exact q.elim
  · exact q.elim
/-- a slice's parts -/
abbrev MO := MX (Option Int)
abbrev RI : List Addr → Option Int → Option Int → Prop := fun _ a b => a = b
def tO (K : PySem.W.Frag) (cl : Nat → Value) (W : WX) (m : MO) : TO := fun σ H Q => ∃ p ρ c ch, Rel K p ρ ch H ∧ RS p ρ c σ ∧ Post K cl p ρ W RI Q (m p.ns c ch)
theorem po_imp {X : Cx} {e : Option Expr} {t t' : TO} (h : PO X e t) (f : ∀ σ H Q, t' σ H Q → t σ H Q) : PO X e t' := ⟨fun pins s σ H Q I q => h.run pins s σ H Q I (f σ H Q q)⟩
def mNo : MO := fun _ _ h => .ok none h
def mPart (a : ME) : MO := fun ns c h => (a ns c h).bind fun x h1 => match x with
  | .int i => .ok (some i) h1
  | _ => .st
theorem xno : PO X none (tO X.K cl W mNo) := po_imp po_none fun σ H Q ⟨p, ρ, c, ch, rl, rs, q⟩ => here q rl rfl
theorem xpart (h : PE X e (tE X.K cl W me)) : PO X (some e) (tO X.K cl W (mPart me)) := by
  refine po_imp (po_some h) fun σ H Q ⟨p, ρ, c, ch, rl, rs, q⟩ => ?_
  refine ⟨p, ρ, c, ch, rl, rs, Post.imp ?_ (Post.bind q)⟩
  rintro x H1 ⟨ρ1, v1, ch1, e1, r1, rv1, q1⟩
  split at q1
  · exact ⟨_, rv1, here q1 r1 rfl⟩
  · exact q1.elim
def cutC (xs : List CV) (lo hi : Option Int) : List CV := (xs.drop (HT.sIx xs.length 0 lo)).take (HT.sIx xs.length xs.length hi - HT.sIx xs.length 0 lo)
def mSl (f : List Int → CV → Option Int → Option Int → CH → Ou CV) (a : ME) (l u : MO) : ME := fun ns c h => (a ns c h).bind fun x h1 => (l ns c h1).bind fun lo h2 => (u ns c h2).bind fun hi h3 => f ns x lo hi h3
def SlS (K : PySem.W.Frag) (r : V → Option Int → Option Int → Hp → VK → Prop) (f : List Int → CV → Option Int → Option Int → CH → Ou CV) : Prop := ∀ cl p ρ W Q x vx lo hi ch H, Rel K p ρ ch H → RC p ρ vx x → Post K cl p ρ W (RV p) Q (f p.ns vx lo hi ch) → r x lo hi H Q
theorem xsl {r : V → Option Int → Option Int → Hp → VK → Prop} {f : List Int → CV → Option Int → Option Int → CH → Ou CV} {lo hi : Option Expr} {ml mu : MO} {p2 : Pos} (hr : SlR X r) (hs : SlS X.K r f) (ha : PE X a (tE X.K cl W ma)) (hl : PO X lo (tO X.K cl W ml)) (hu : PO X hi (tO X.K cl W mu)) :
    PE X (.Subscript a (.Slice lo hi none p2) pos) (tE X.K cl W (mSl f ma ml mu)) := by
  refine pe_imp (pe_slice hr ha hl hu) fun σ H Q ⟨p, ρ, c, ch, rl, rs, q⟩ => ?_
  refine ⟨p, ρ, c, ch, rl, rs, Post.imp ?_ (Post.bind q)⟩
  rintro x H1 ⟨ρ1, v1, ch1, e1, r1, rv1, q1⟩
  refine ⟨p, ρ1, c, ch1, r1, rs.mono e1, Post.imp ?_ (Post.bind q1)⟩
  rintro y H2 ⟨ρ2, v2, ch2, e2, r2, rfl, q2⟩
  refine ⟨p, ρ2, c, ch2, r2, rs.mono (e1.trans e2), Post.imp ?_ (Post.bind q2)⟩
  rintro y H3 ⟨ρ3, v3, ch3, e3, r3, rfl, q3⟩
  exact hs cl p ρ3 W Q x v1 _ _ ch3 H3 r3 (rv1.mono (e2.trans e3)) q3
def fSlL : List Int → CV → Option Int → Option Int → CH → Ou CV := fun ns x lo hi h => match lstC ns h x with
  | some xs => new (.lst (cutC xs lo hi)) h
  | none => .st
theorem sSlL : SlS K (rSlL K) fSlL := by
  intro cl p ρ W Q x vx lo hi ch H rl rx q
  unfold fSlL at q
  split at q
  · rename_i xs hl
    obtain ⟨a, zs, rfl, hq, r⟩ := lstC_ok hl rl rx
    refine ⟨a, zs, rfl, hq, made q rl ⟨_, rfl, ?_⟩⟩
    unfold cutV cutC
    rw [Prd.len r]
    exact Prd.take _ (Prd.drop _ r)
  · exact q.elim
end
end Xq
end

section
set_option Elab.async false
set_option linter.all false
set_option maxRecDepth 100000
set_option maxHeartbeats 2000000
namespace Xq
open PySem PySem.Spec PyProof.Rows L2
section
variable {X : Cx} {cl : Nat → Value} {W : WX} {K : PySem.W.Frag}
variable {a b c e : Expr} {es : List Expr} {ma mb mc me : ME} {mr : MA} {ta tb : MT} {pos : Pos}

/-! ### == at depth -/
def datsC (f : CV → Option PyData) : List CV → Option (List PyData)
  | [] => some []
  | x :: r => match f x, datsC f r with
    | some d, some ds => some (d :: ds)
    | _, _ => none
def datC (ns : List Int) (h : CH) : Nat → CV → Option PyData
  | 0, _ => none
  | n + 1, v => match v with
    | .non => some .none
    | .bl b => some (.bool b)
    | .int i => some (.int i)
    | .str s => if PyData.strOk s = true then some (.str s) else none
    | .sym _ => none
    | v => match lstC ns h v with
      | some xs => (datsC (datC ns h n) xs).map .list
      | none => match tupC h v with
        | some xs => (datsC (datC ns h n) xs).map .tuple
        | none => none
def deqs (f : PyData → PyData → Option Bool) : List PyData → List PyData → Option Bool
  | [], [] => some true
  | [], _ :: _ => some false
  | _ :: _, [] => some false
  | x :: xs, y :: ys => match f x y with
    | some true => deqs f xs ys
    | some false => some false
    | none => none
def deq : Nat → PyData → PyData → Option Bool
  | 0, _, _ => none
  | n + 1, d, e => match d, e with
    | .none, .none => some true
    | .bool a, .bool b => some (a == b)
    | .int i, .int j => some (i == j)
    | .str x, .str y => some (x == y)
    | .list xs, .list ys => deqs (deq n) xs ys
    | .tuple xs, .tuple ys => deqs (deq n) xs ys
    | .none, .tuple _ => some false
    | .tuple _, .none => some false
    | .none, .list _ => some false
    | .list _, .none => some false
    | _, _ => none
theorem datsC_ok {f : CV → Option PyData} {p : Pa} {ρ : List Addr} {H : Hp} {n : Nat} (hf : ∀ v x d, f v = some d → RC p ρ v x → Dp K H x d ∧ d.canLay0 = true ∧ d.depth ≤ n) :
    ∀ {xs : List CV} {ys : List V} {ds : List PyData}, datsC f xs = some ds → RCs p ρ xs ys → DpAll K H ys ds ∧ PyData.canLayAll0 ds = true ∧ PyData.depthAll ds ≤ n
  | [], _, ds, h, .nil => by cases h; exact ⟨.nil, by simp [PyData.canLayAll0], by simp [PyData.depthAll]⟩
  | x :: r, _, ds, h, .cons r1 r2 => by
    unfold datsC at h
    split at h
    · rename_i d ds' e1 e2
      cases h
      obtain ⟨a1, a2, a3⟩ := hf _ _ _ e1 r1
      obtain ⟨b1, b2, b3⟩ := datsC_ok hf e2 r2
      exact ⟨.cons a1 b1, by simp [PyData.canLayAll0, a2, b2], by simp only [PyData.depthAll]; omega⟩
    · cases h
theorem datC_ok {p : Pa} {ρ : List Addr} {ch : CH} {H : Hp} (rl : Rel K p ρ ch H) : ∀ (n : Nat) (v : CV) (x : V) (d : PyData), datC p.ns ch n v = some d → RC p ρ v x → Dp K H x d ∧ d.canLay0 = true ∧ d.depth ≤ n
  | 0, _, _, _, h, _ => by cases h
  | n + 1, v, x, d, h, r => by
    have seq : ∀ v, datC p.ns ch (n + 1) v = some d → RC p ρ v x → (match lstC p.ns ch v with
      | some xs => (datsC (datC p.ns ch n) xs).map PyData.list
      | none => match tupC ch v with
        | some xs => (datsC (datC p.ns ch n) xs).map PyData.tuple
        | none => none) = some d → Dp K H x d ∧ d.canLay0 = true ∧ d.depth ≤ n + 1 := by
      intro v _ r h
      split at h
      · rename_i xs hl
        obtain ⟨a, ys, rfl, hq, rr⟩ := lstC_ok hl rl r
        cases e : datsC (datC p.ns ch n) xs with
        | none => rw [e] at h; cases h
        | some ds =>
          rw [e] at h; cases h
          obtain ⟨b1, b2, b3⟩ := datsC_ok (datC_ok rl n) e rr
          exact ⟨.lst hq b1, by simp only [PyData.canLay0]; exact b2, by simp only [PyData.depth]; omega⟩
      · split at h
        · rename_i xs hl
          obtain ⟨a, ys, rfl, hq, rr⟩ := tupC_ok hl rl r
          cases e : datsC (datC p.ns ch n) xs with
          | none => rw [e] at h; cases h
          | some ds =>
            rw [e] at h; cases h
            obtain ⟨b1, b2, b3⟩ := datsC_ok (datC_ok rl n) e rr
            exact ⟨.tup (SqT.of hq) b1, by simp only [PyData.canLay0]; exact b2, by simp only [PyData.depth]; omega⟩
        · cases h
    cases v with
    | non => cases h; cases r; exact ⟨.non, by simp [PyData.canLay0], by simp [PyData.depth]⟩
    | bl b => cases h; cases r; exact ⟨.bl b, by simp [PyData.canLay0], by simp [PyData.depth]⟩
    | int i => cases h; cases r; exact ⟨.int i, by simp [PyData.canLay0], by simp [PyData.depth]⟩
    | str s =>
      have h : (if PyData.strOk s = true then some (PyData.str s) else none) = some d := h
      split at h
      · rename_i z
        cases h; cases r; exact ⟨.str s, by simp [PyData.canLay0, z], by simp [PyData.depth]⟩
      · cases h
    | sym c => cases h
    | ref m => exact seq _ h r h
    | scr => exact seq _ h r h
theorem deqs_ok {f : PyData → PyData → Option Bool} (hf : ∀ d e k, f d e = some k → PyData.eqv d e = k) : ∀ {xs ys : List PyData} {k : Bool}, deqs f xs ys = some k → PyData.eqvAll xs ys = k
  | [], [], k, h => by cases h; simp [PyData.eqvAll]
  | [], _ :: _, k, h => by cases h; simp [PyData.eqvAll]
  | _ :: _, [], k, h => by cases h; simp [PyData.eqvAll]
  | x :: xs, y :: ys, k, h => by
    unfold deqs at h
    simp only [PyData.eqvAll]
    split at h
    · rename_i e
      rw [hf _ _ _ e, deqs_ok hf h, Bool.true_and]
    · rename_i e
      cases h
      rw [hf _ _ _ e, Bool.false_and]
    · cases h
theorem deq_ok : ∀ (n : Nat) (d e : PyData) (k : Bool), deq n d e = some k → PyData.eqv d e = k
  | 0, _, _, _, h => by cases h
  | n + 1, d, e, k, h => by
    unfold deq at h
    split at h <;> first | (cases h; simp only [PyData.eqv]; done) | (simp only [PyData.eqv]; exact deqs_ok (deq_ok n) h) | cases h
def fDq (g : Bool → Bool) : List Int → F2 := fun ns x y h => match datC ns h 5 x, datC ns h 5 y with
  | some d, some e => match deq 6 d e with
    | some k => .ok (.bl (g k)) h
    | none => .st
  | _, _ => .st
theorem fDq_ok {g : Bool → Bool} {cl : Nat → Value} {p : Pa} {ρ : List Addr} {W : WX} {Q : VK} {x y : V} {vx vy : CV} {ch : CH} {H : Hp} (rl : Rel K p ρ ch H) (rx : RC p ρ vx x) (ry : RC p ρ vy y) (q : Post K cl p ρ W (RV p) Q (fDq g p.ns vx vy ch)) :
    ∃ d e, Dp K H x d ∧ Dp K H y e ∧ SeqAt.shaped d = true ∧ SeqAt.shaped e = true ∧ Q (.bl (g (PyData.eqv d e))) H := by
  unfold fDq at q
  split at q
  · rename_i d e hd he
    obtain ⟨a1, a2, a3⟩ := datC_ok rl _ _ _ _ hd rx
    obtain ⟨b1, b2, b3⟩ := datC_ok rl _ _ _ _ he ry
    split at q
    · rename_i k hk
      refine ⟨d, e, a1, b1, ?_, ?_, ?_⟩
      · unfold SeqAt.shaped
        rw [a2, Bool.true_and, decide_eq_true_iff]; omega
      · unfold SeqAt.shaped
        rw [b2, Bool.true_and, decide_eq_true_iff]; omega
      · rw [deq_ok _ _ _ _ hk]
        exact here q rl rfl
    · exact q.elim
  · exact q.elim
abbrev fEqD : List Int → F2 := fDq fun k => k
abbrev fNeD : List Int → F2 := fDq (!·)
theorem oEqD : OpN K (rEqD K) fEqD := fun _ _ _ _ _ _ _ _ _ _ _ rl rx ry q => fDq_ok rl rx ry q
theorem oNeD : OpN K (rNeD K) fNeD := fun _ _ _ _ _ _ _ _ _ _ _ rl rx ry q => fDq_ok rl rx ry q
theorem xcmpN {op : CmpOp} {r : R2} {f : List Int → F2} (ho : OpR X (compareOp op) r) (hs : OpN X.K r f) (ha : PE X a (tE X.K cl W ma)) (hb : PE X b (tE X.K cl W mb)) (hm : behindInMarks op b = false := by first | exact nomark _ | rfl) : PE X (.Compare a [op] [b] pos) (tE X.K cl W (mIx f ma mb)) :=
  pe_imp (pe_cmpR ho ha hb hm) fun _ _ _ h => twoN hs h
theorem xcmpNT {op : CmpOp} {r : R2} {f : List Int → F2} (ho : OpR X (compareOp op) r) (hs : OpN X.K r f) (ha : PE X a (tE X.K cl W ma)) (hb : PE X b (tE X.K cl W mb)) (hm : behindInMarks op b = false := by first | exact nomark _ | rfl) : PT X (.Compare a [op] [b] pos) (tT X.K cl W (mTst (mIx f ma mb))) :=
  pt_imp (pt_cmpR ho ha hb hm) fun σ H Q h => twoN hs (tst h)

/-! ### list + list, list * int -/
def objC (h : CH) : CV → Option CO
  | .ref n => h[n]?
  | _ => none
def ownL (h : CH) : CV → Option (List CV)
  | .ref n => match h[n]? with
    | some (.lst xs) => some xs
    | _ => none
  | _ => none
theorem ownL_ok {p : Pa} {ρ : List Addr} {ch : CH} {H : Hp} {v : CV} {x : V} {xs : List CV} (h : ownL ch v = some xs) (rl : Rel K p ρ ch H) (rv : RC p ρ v x) : ∃ n a ys, v = .ref n ∧ ρ[n]? = some a ∧ x = .ref a ∧ H a = some (.lst ys) ∧ RCs p ρ xs ys := by
  unfold ownL at h
  split at h
  · rename_i n
    split at h
    · rename_i zs e
      cases h
      obtain ⟨a, ea, rfl⟩ := rv
      obtain ⟨u, hu, ys, rfl, r⟩ := rl.at_ ea e
      exact ⟨n, a, ys, rfl, ea, rfl, hu, r⟩
    · cases h
  · cases h
def fCat : F2 := fun x y h => match ownL h x, ownL h y with
  | some xs, some ys => if lineB (xs.length + ys.length) = true then new (.lst (xs ++ ys)) h else .st
  | _, _ => .st
theorem oCat : OpS K rCat fCat := by
  intro cl p ρ W Q x y vx vy ch H rl rx ry q
  unfold fCat at q
  split at q
  · rename_i xs ys h1 h2
    obtain ⟨n, a, zs, rfl, ea, rfl, hq, r⟩ := ownL_ok h1 rl rx
    obtain ⟨n', a', zs', rfl, ea', rfl, hq', r'⟩ := ownL_ok h2 rl ry
    split at q
    · rename_i hb
      exact ⟨a, a', zs, zs', rfl, rfl, hq, hq', by rw [← Prd.len r, ← Prd.len r']; exact Nat.le_of_lt (lineB_ok hb), made q rl ⟨_, rfl, Prd.append r r'⟩⟩
    · exact q.elim
  · exact q.elim
def fRep : F2 := fun x y h => match ownL h x, y with
  | some xs, .int k => if (in64 k && (Nat.ble k.natAbs 1000000 && lineB (xs.length * k.toNat))) = true then new (.lst (List.replicate k.toNat xs).flatten) h else .st
  | _, _ => .st
theorem Prd.flat {α β : Type} {F : α → β → Prop} {xs : List α} {ys : List β} (r : Paired F xs ys) : ∀ n, Paired F (List.replicate n xs).flatten (List.replicate n ys).flatten
  | 0 => .nil
  | n + 1 => by
    rw [List.replicate_succ, List.replicate_succ, List.flatten_cons, List.flatten_cons]
    exact Prd.append r (Prd.flat r n)
theorem oRep : OpS K rRep fRep := by
  intro cl p ρ W Q x y vx vy ch H rl rx ry q
  unfold fRep at q
  split at q
  · rename_i xs k h1
    obtain ⟨n, a, zs, rfl, ea, rfl, hq, r⟩ := ownL_ok h1 rl rx
    split at q
    · rename_i hb
      have ⟨_, hb⟩ := Bool.and_eq_true _ _ |>.mp hb
      have ⟨b1, b3⟩ := Bool.and_eq_true _ _ |>.mp hb
      rw [Nat.ble_eq] at b1
      exact ⟨a, k, zs, rfl, ry, hq, by omega, by omega, by rw [← Prd.len r]; exact Nat.le_of_lt (lineB_ok b3), made q rl ⟨_, rfl, Prd.flat r _⟩⟩
    · exact q.elim
  · exact q.elim

/-! ### methods of lists -/
abbrev FM := CV → List CV → CH → Ou CV
def isL (h : CH) (x : CV) : Bool := match ownL h x with
  | some _ => true
  | none => false
def mBM (f : FM) (o : ME) (a : MA) : ME := fun ns c h => (o ns c h).bind fun x h1 => if isL h1 x = true then (a ns c h1).bind fun xs h2 => f x xs h2 else .st
def MtS (K : PySem.W.Frag) (r : V → List V → Hp → VK → Prop) (f : FM) : Prop := ∀ cl p ρ W Q x vx vs cs ch H, Rel K p ρ ch H → RC p ρ vx x → RCs p ρ cs vs → Post K cl p ρ W (RV p) Q (f vx cs ch) → r x vs H Q
theorem isL_ty {p : Pa} {ρ : List Addr} {ch : CH} {H : Hp} {v : CV} {x : V} (h : isL ch v = true) (rl : Rel K p ρ ch H) (rv : RC p ρ v x) : tyV K "list" x H := by
  unfold isL at h
  split at h
  · rename_i xs e
    obtain ⟨n, a, zs, rfl, ea, rfl, hq, r⟩ := ownL_ok e rl rv
    exact .inl ⟨rfl, _, SqL.of hq⟩
  · cases h
theorem xbm {o : Expr} {mo : ME} {name : Str} {id : String} {apos cpos : Pos} {r : V → List V → Hp → VK → Prop} {f : FM} (slot : Slot "list" name id) (hty : typeOf (.builtin id) = pure (.type "method_descriptor")) (hm : MtR X id r) (hs : MtS X.K r f) (ho : PE X o (tE X.K cl W mo)) (ha : PA X (e :: es) (tA X.K cl W mr))
    (hbase : attributeBase o name X.env (eval o X.env) = eval o X.env := by rfl)
    (hfew : ((backTo cpos (starEach (e :: es) X.env)).all (fun x => !x.1) && (backToKw cpos (keywordEach [] X.env)).all (fun x => x.1.isSome)
      && decide ((e :: es).length + ([] : List Keyword).length + (if ([] : List Keyword).isEmpty then 0 else 1) < 30)) = true := by rfl)
    (hline : (apos.endLine == cpos.line) = true := by rfl) (hst : starEach (e :: es) X.env = (false, eval e X.env) :: starEach es X.env := by rfl) (hplain : (backTo cpos (starEach es X.env)).any (·.1) = false := by rfl) :
    PE X (.Call (.Attribute o name apos) (e :: es) [] cpos) (tE X.K cl W (mBM f mo mr)) := by
  refine pe_imp (pe_bm PySem.F.plainAttrs_list slot hty hm ho ha hbase hfew hline hst hplain) fun σ H Q ⟨p, ρ, c, ch, rl, rs, q⟩ => ?_
  refine ⟨p, ρ, c, ch, rl, rs, Post.imp ?_ (Post.bind q)⟩
  rintro x H1 ⟨ρ1, v1, ch1, e1, r1, rv1, q1⟩
  split at q1
  · rename_i hl
    refine ⟨isL_ty hl r1 rv1, p, ρ1, c, ch1, r1, rs.mono e1, Post.imp ?_ (Post.bind q1)⟩
    rintro y H2 ⟨ρ2, v2, ch2, e2, r2, rv2, q2⟩
    exact hs cl p ρ2 W Q x v1 y v2 ch2 H2 r2 (rv1.mono e2) rv2 q2
  · exact q1.elim
theorem xbm0 {o : Expr} {mo : ME} {name : Str} {id : String} {apos cpos : Pos} {r : V → List V → Hp → VK → Prop} {f : FM} (slot : Slot "list" name id) (hty : typeOf (.builtin id) = pure (.type "method_descriptor")) (hm : MtR X id r) (hs : MtS X.K r f) (ho : PE X o (tE X.K cl W mo))
    (hbase : attributeBase o name X.env (eval o X.env) = eval o X.env := by rfl) (hline : (apos.endLine == cpos.line) = true := by rfl) :
    PE X (.Call (.Attribute o name apos) [] [] cpos) (tE X.K cl W (mBM f mo mNil)) := by
  refine pe_imp (pe_bm0 PySem.F.plainAttrs_list slot hty hm ho hbase hline) fun σ H Q ⟨p, ρ, c, ch, rl, rs, q⟩ => ?_
  refine ⟨p, ρ, c, ch, rl, rs, Post.imp ?_ (Post.bind q)⟩
  rintro x H1 ⟨ρ1, v1, ch1, e1, r1, rv1, q1⟩
  split at q1
  · rename_i hl
    exact ⟨isL_ty hl r1 rv1, hs cl p ρ1 W Q x v1 [] [] ch1 H1 r1 rv1 .nil q1⟩
  · exact q1.elim
/-- the list at a place is another one -/
theorem wrote {p : Pa} {ρ : List Addr} {ch : CH} {H : Hp} {Q : VK} {o : CO} {u : HO} {n : Nat} {a : Addr} {v : CV} {w : V} (q : Post K cl p ρ W (RV p) Q (.ok v (ch.set n o))) (rl : Rel K p ρ ch H) (ea : ρ[n]? = some a) (ro : RO p ρ o u) (rv : RC p ρ v w) : Q w (upd H a u) :=
  q ρ _ _ (List.prefix_refl _) (rl.write ea ro) rv
def fAppend : FM := fun x vs h => match x, ownL h x, vs with
  | .ref n, some xs, [y] => if lineB xs.length = true then .ok .non (h.set n (.lst (xs ++ [y]))) else .st
  | _, _, _ => .st
theorem sAppend : MtS K rAppend fAppend := by
  intro cl p ρ W Q x vx vs cs ch H rl rx rc q
  unfold fAppend at q
  split at q
  · rename_i n xs y h1
    obtain ⟨n', a, zs, e, ea, rfl, hq, r⟩ := ownL_ok h1 rl rx
    cases e
    obtain ⟨z, rfl, rz⟩ := Prd.one rc
    split at q
    · rename_i hb
      exact ⟨a, zs, z, rfl, rfl, hq, by rw [← Prd.len r]; exact lineB_ok hb, wrote q rl ea ⟨_, rfl, Prd.append r (.cons rz .nil)⟩ rfl⟩
    · exact q.elim
  · exact q.elim
def fExtend : FM := fun x vs h => match x, ownL h x, vs with
  | .ref n, some xs, [y] => match ownL h y with
    | some ys => if lineB (xs.length + ys.length) = true then .ok .non (h.set n (.lst (xs ++ ys))) else .st
    | none => .st
  | _, _, _ => .st
theorem sExtend : MtS K rExtend fExtend := by
  intro cl p ρ W Q x vx vs cs ch H rl rx rc q
  unfold fExtend at q
  split at q
  · rename_i n xs y h1
    obtain ⟨n', a, zs, e, ea, rfl, hq, r⟩ := ownL_ok h1 rl rx
    cases e
    obtain ⟨z, rfl, rz⟩ := Prd.one rc
    split at q
    · rename_i ys h2
      obtain ⟨n', a', zs', rfl, ea', rfl, hq', r'⟩ := ownL_ok h2 rl rz
      split at q
      · rename_i hb
        exact ⟨a, a', zs, zs', rfl, rfl, hq, hq', by rw [← Prd.len r, ← Prd.len r']; exact Nat.le_of_lt (lineB_ok hb), wrote q rl ea ⟨_, rfl, Prd.append r r'⟩ rfl⟩
      · exact q.elim
    · exact q.elim
  · exact q.elim
def fPop : FM := fun x vs h => match x, ownL h x, vs with
  | .ref n, some xs, [] => match xs[xs.length - 1]? with
    | some y => .ok y (h.set n (.lst xs.dropLast))
    | none => .st
  | _, _, _ => .st
theorem sPop : MtS K rPop fPop := by
  intro cl p ρ W Q x vx vs cs ch H rl rx rc q
  unfold fPop at q
  split at q
  · rename_i n xs h1
    obtain ⟨n', a, zs, e, ea, rfl, hq, r⟩ := ownL_ok h1 rl rx
    cases e
    cases rc
    split at q
    · rename_i y hy
      obtain ⟨w, hw, rw'⟩ := Prd.get r hy
      rw [Prd.len r] at hw
      exact ⟨a, zs, w, rfl, rfl, hq, hw, wrote q rl ea ⟨_, rfl, Prd.dropLast r⟩ rw'⟩
    · exact q.elim
  · exact q.elim
end
end Xq
end

section
set_option Elab.async false
set_option linter.all false
set_option maxRecDepth 100000
set_option maxHeartbeats 2000000
namespace Xq
open PySem PySem.Spec PyProof.Rows L2
section
variable {X : Cx} {cl : Nat → Value} {W : WX} {K : PySem.W.Frag}
variable {a b c e : Expr} {es : List Expr} {ma mb mc me : ME} {mr : MA} {ta tb : MT} {pos : Pos}

/-! ### defs and their calls -/
structure Fd (P : Program) (w : World) (K : PySem.W.Frag) (mg : Str → Option Value) (base : Heap) (cl : Nat → Value) (x : Str) (k : Nat) (m : MF) (us : List CV) : Prop where
  ex : ∃ (f : Addr) (fd : FuncData) (ps : List Str) (dvs : List V) (ds : List Value), mg x = some (.ref f) ∧ PySem.W.keepIn K (.ref f) = true ∧ Binds K fd ps ds ∧ Vals dvs ds ∧ (∀ p ρ, RCs p ρ us dvs) ∧ FnOk P w K mg base (L2.CX P w) k f fd ps (spM K cl m)
def mCall (m : MF) (us : List CV) (a : MA) : ME := fun ns c h => (a ns c h).bind fun vs h1 => m ns (vs ++ us) h1
theorem PX.slot {p : Pa} {ρ : List Addr} {c : Nat} {u : Option CV} {ch : CH} (σ : St) (h : PX K cl p ρ W c u ch) : PX K cl p ρ (fun c d _ H => W c d σ H) c u ch := fun ρ' σ' H e r => by
  have z := h ρ' σ H e r
  cases u with
  | none => exact z
  | some u => exact z
theorem Post.slot {α β : Type} {p : Pa} {ρ : List Addr} {R : List Addr → α → β → Prop} {Q : β → Hp → Prop} (σ : St) : ∀ {o : Ou α}, Post K cl p ρ W R Q o → Post K cl p ρ (fun c d _ H => W c d σ H) R Q o
  | .ok _ _, h => h
  | .ex _ _ _, h => PX.slot σ h
  | .st, h => h
theorem xcall {x : Str} {k j : Nat} {m : MF} {us : List CV} {p : Pos} (F : Fd X.prog X.w X.K X.mg X.base cl x k m us) (hr : Room j X.A) (tk : Takes X W) (ha : PA X (e :: es) (tA X.K cl W mr)) (hk : k ≤ j := by decide) (hg : Gl X x := by rfl) (hdb : (x == ("__debug__" : Str)) = false := by decide)
    (he : starEach (e :: es) X.env = (false, eval e X.env) :: starEach es X.env := by rfl) (hpl : (backTo pos (starEach es X.env)).any (·.1) = false := by rfl) : PE X (.Call (.Name x p) (e :: es) [] pos) (tE X.K cl W (mCall m us mr)) := by
  obtain ⟨f, fd, ps, dvs, ds, hm, kp, hb, hd, hu, G⟩ := F.ex
  refine pe_imp (pe_callSD G (hr.mono hk) hg hm kp hb hd (fun σ => passAt tk σ) ha hdb he hpl) fun σ H Q ⟨p, ρ, c, ch, rl, rs, q⟩ => ?_
  refine ⟨p, ρ, c, ch, rl, rs, Post.imp ?_ (Post.bind q)⟩
  rintro vs H1 ⟨ρ1, v1, ch1, e1, r1, rv1, q1⟩
  exact ⟨p, ρ1, _, ch1, r1, Prd.append rv1 (hu p ρ1), Post.slot σ q1⟩
/-- a def's run by its body's -/
def mDef (n l : Nat) (b : MS) : MF := fun ns vs h => if vs.length = n then (match b ns (vs.map some ++ List.replicate (l - n) none) h with
  | .nx _ h' => .ok .non h'
  | .rt v h' => .ok v h'
  | .ex c u h' => .ex c u h'
  | _ => .st) else .st
theorem spM_len {n l : Nat} {b : MS} {vs : List V} {H : Hp} {Q : VK} {E : XK} (h : spM K cl (mDef n l b) vs H Q E) : vs.length = n := by
  obtain ⟨p, ρ, cs, ch, rl, rc, q⟩ := h
  unfold mDef at q
  split at q
  · rename_i e
    rw [← Prd.len rc]; exact e
  · exact q.elim
theorem RS.start {p : Pa} {ρ : List Addr} {N : List Str} {cs : List CV} {vs : List V} {n l : Nat} (rc : RCs p ρ cs vs) (hn : vs.length = n) (hl : N.length = l) : RS p ρ (cs.map some ++ List.replicate (l - n) none) (start N vs) := by
  subst hn hl
  have e := Prd.len rc
  refine ⟨by simp [L2.start, e], fun i v q => ?_⟩
  by_cases hi : i < cs.length
  · rw [List.getElem?_append_left (by simpa using hi), List.getElem?_map] at q
    cases z : cs[i]? with
    | none => rw [z] at q; cases q
    | some u =>
      rw [z] at q
      cases q
      obtain ⟨w, hw, r⟩ := Prd.get rc z
      refine ⟨w, ?_, r⟩
      unfold L2.start
      rw [List.getElem?_append_left (by simp; omega), List.getElem?_map, hw]; rfl
  · rw [List.getElem?_append_right (by simpa using Nat.le_of_not_lt hi)] at q
    rw [List.getElem?_replicate] at q
    split at q <;> cases q
theorem ok_def {P : Program} {w : World} {mg : Str → Option Value} {base : Heap} {x qual : Str} {params : Arguments} {body : List Stmt} {scope : Scope} {dvs : List V} {kws : List (Str × V)} {f : Addr} {fd : FuncData} {N ps : List Str} {k : Nat} {b : MS} (n l : Nat)
    (F : FunD K x qual params body scope dvs kws f fd) (S : FnScope N ps scope) (hn : ps.length = n) (hl : N.length = l)
    (hb : ∀ (cdv : Value) (A : Around) (outer : List Env) (s : Shared) (H : Hp) (E : XK), Room k (A.deeper (envOfC qual scope s.heap.objs.size f cdv)) →
      Takes (cxOf (L2.CX P w) P w K mg base N qual scope f cdv A outer s H E) (fun c d _ H => E c d H) →
      PassesOwn (model P w) (A.deeper (envOfC qual scope s.heap.objs.size f cdv)) (envOfC qual scope s.heap.objs.size f cdv) (cxOf (L2.CX P w) P w K mg base N qual scope f cdv A outer s H E).xe →
      PSs (cxOf (L2.CX P w) P w K mg base N qual scope f cdv A outer s H E) body (tS K cl (fun c d _ H => E c d H) b)) : FnOk P w K mg base (L2.CX P w) (k + 1) f fd ps (spM K cl (mDef n l b)) := by
  refine FunD.ok (CX := L2.CX P w) F S (fun vs H Q E h => (spM_len h).trans hn.symm) fun cdv A outer s H vs Q E hr h => ⟨_, hb cdv A outer s H E hr (takes_of rfl rfl rfl rfl) (passes_of (X := cxOf (L2.CX P w) P w K mg base N qual scope f cdv A outer s H E) rfl), ?_⟩
  have len := spM_len h
  obtain ⟨p, ρ, cs, ch, rl, rc, q⟩ := h
  refine ⟨p, ρ, _, ch, rl, RS.start rc len hl, ?_⟩
  unfold mDef at q
  rw [if_pos (by rw [Prd.len rc]; exact len)] at q
  split at q
  · rename_i c' h' e
    rw [e]
    exact fun ρ' σ H' e r _ => q ρ' _ H' e r rfl
  · rename_i v h' e
    rw [e]
    exact fun ρ' w H' e r rv => q ρ' w H' e r rv
  · rename_i c' u' h' e
    rw [e]
    exact q
  · exact q.elim

/-! ### statements -/
variable {st : Stmt} {rest : List Stmt} {m1 m2 : MS}
def mNext : MS := fun _ c h => .nx c h
def mSeq (a b : MS) : MS := fun ns c h => match a ns c h with
  | .nx c' h' => b ns c' h'
  | o => o
theorem xs_of {t : TS} {m : MS} (h : PS X st t) (f : ∀ p ρ c ch D σ H, Rel X.K p ρ ch H → RS p ρ c σ → PostS X.K cl p ρ W D (m p.ns c ch) → t D σ H) : PS X st (tS X.K cl W m) :=
  ps_imp h fun D σ H ⟨p, ρ, c, ch, r, rs, q⟩ => f p ρ c ch D σ H r rs q
theorem nxt {p : Pa} {ρ : List Addr} {D : Ends} {c : CS} {ch : CH} {σ : St} {H : Hp} (q : PostS K cl p ρ W D (.nx c ch)) (r : Rel K p ρ ch H) (rs : RS p ρ c σ) : D.nx σ H := q ρ σ H (List.prefix_refl _) r rs
theorem xss_nil : PSs X [] (tS X.K cl W mNext) := pss_imp pss_nil fun D σ H ⟨p, ρ, c, ch, r, rs, q⟩ => nxt q r rs
theorem PostS.seq {p : Pa} {ρ : List Addr} {D : Ends} {ns : List Int} {m : MS} {o : SO} (hp : p.ns = ns) (q : PostS K cl p ρ W D (match o with
  | .nx c' h' => m ns c' h'
  | o => o)) : PostS K cl p ρ W { D with nx := fun σ H => tS K cl W m D σ H } o := by
  subst hp
  cases o with
  | nx c' h' => exact fun ρ' σ H e r rs => ⟨p, ρ', c', h', r, rs, PostS.mono e q⟩
  | rt v h' => exact q
  | bk c h' => exact q
  | ct c h' => exact q
  | ex c u h' => exact q
  | st => exact q
theorem xss_cons (h1 : PS X st (tS X.K cl W m1)) (h2 : PSs X rest (tS X.K cl W m2)) : PSs X (st :: rest) (tS X.K cl W (mSeq m1 m2)) :=
  pss_imp (pss_cons h1 h2) fun D σ H ⟨p, ρ, c, ch, r, rs, q⟩ => ⟨p, ρ, c, ch, r, rs, PostS.seq rfl q⟩
theorem xss_one (h1 : PS X st (tS X.K cl W m1)) : PSs X [st] (tS X.K cl W m1) := pss_one h1
def mDrop (a : ME) : MS := fun ns c h => (a ns c h).stm fun _ h1 => .nx c h1
theorem xs_expr (h : PE X e (tE X.K cl W me)) (hs : swapsWith e none pos.line X.env = pure false := by rfl) : PS X (.Expr e pos) (tS X.K cl W (mDrop me)) := by
  refine xs_of (ps_expr h hs) fun p ρ c ch D σ H rl rs q => ?_
  refine ⟨p, ρ, c, ch, rl, rs, Post.imp ?_ (Post.stm q)⟩
  rintro x H1 ⟨ρ1, v1, ch1, e1, r1, rv1, q1⟩
  exact nxt q1 r1 (rs.mono e1)
def mRet (a : ME) : MS := fun ns c h => (a ns c h).stm fun v h1 => .rt v h1
theorem xs_ret (h : PE X e (tE X.K cl W me)) : PS X (.Return (some e) pos) (tS X.K cl W (mRet me)) := by
  refine xs_of (ps_ret h) fun p ρ c ch D σ H rl rs q => ?_
  refine ⟨p, ρ, c, ch, rl, rs, Post.imp ?_ (Post.stm q)⟩
  rintro x H1 ⟨ρ1, v1, ch1, e1, r1, rv1, q1⟩
  exact q1 ρ1 x H1 (List.prefix_refl _) r1 rv1
def mIf (t : MT) (a b : MS) : MS := fun ns c h => (t ns c h).stm fun k h1 => if k = true then a ns c h1 else b ns c h1
theorem xs_if {sa sb : List Stmt} (hc : PT X c (tT X.K cl W ta)) (ha : PSs X sa (tS X.K cl W m1)) (hb : PSs X sb (tS X.K cl W m2)) : PS X (.If c sa sb pos) (tS X.K cl W (mIf ta m1 m2)) := by
  refine xs_of (ps_if hc ha hb) fun p ρ c ch D σ H rl rs q => ?_
  refine ⟨p, ρ, c, ch, rl, rs, Post.imp ?_ (Post.stm q)⟩
  rintro x H1 ⟨ρ1, v1, ch1, e1, r1, rfl, q1⟩
  cases v1 with
  | true => exact ⟨p, ρ1, c, ch1, r1, rs.mono e1, q1⟩
  | false => exact ⟨p, ρ1, c, ch1, r1, rs.mono e1, q1⟩
def mSet (i : Nat) (a : ME) : MS := fun ns c h => (a ns c h).stm fun v h1 => .nx (c.set i (some v)) h1
theorem asg1 {i : Nat} {p : Pa} {ρ : List Addr} {c : CS} {ch : CH} {D : Ends} {σ : St} {H : Hp} (rl : Rel K p ρ ch H) (rs : RS p ρ c σ) (q : PostS K cl p ρ W D (mSet i me p.ns c ch)) : tAsg (tE K cl W me) (gName i) D σ H := by
  refine ⟨p, ρ, c, ch, rl, rs, Post.imp ?_ (Post.stm q)⟩
  rintro x H1 ⟨ρ1, v1, ch1, e1, r1, rv1, q1⟩
  exact nxt q1 r1 ((rs.mono e1).set i rv1)
theorem xs_set (i : Nat) {x : Str} {pos' : Pos} (hN : X.N.Nodup) (he : PE X e (tE X.K cl W me)) (hi : X.N[i]? = some x := by rfl) (hx : Loc X.env.scope x := by first | exact Or.inl rfl | exact Or.inr rfl) (hs : swapsWith e (some (.Name x pos')) pos.line X.env = pure false := by rfl) (hf : X.fn x = true ∨ X.env.scope.names.lookup x = some .local := by first | exact .inl rfl | exact .inr rfl) :
    PS X (.Assign [.Name x pos'] e pos) (tS X.K cl W (mSet i me)) := xs_of (ps_set hN hi hx he hs hf) fun p ρ c ch D σ H rl rs q => asg1 rl rs q
/-- name op= e -/
def mAug (i : Nat) (f : F2) (a : ME) : MS := fun ns c h => match c[i]? with
  | some (some v) => (a ns c h).stm fun u h1 => (f v u h1).stm fun z h2 => .nx (c.set i (some z)) h2
  | _ => .st
theorem xs_augAdd (i : Nat) {x : Str} {pos' : Pos} (hN : X.N.Nodup) (he : PE X e (tE X.K cl W me)) (hi : X.N[i]? = some x := by rfl) (hx : Loc X.env.scope x := by first | exact Or.inl rfl | exact Or.inr rfl) (hf : X.fn x = true ∨ X.env.scope.names.lookup x = some .local := by first | exact .inl rfl | exact .inr rfl) :
    PS X (.AugAssign (.Name x pos') .Add e pos) (tS X.K cl W (mAug i fAdd me)) := by
  refine xs_of (ps_aug hN hi hx he ip_add hf) fun p ρ c ch D σ H rl rs q => ?_
  unfold mAug at q
  split at q
  · rename_i v hv
    obtain ⟨w, hw, rw'⟩ := rs.at_ i v hv
    refine ⟨w, hw, p, ρ, c, ch, rl, rs, Post.imp ?_ (Post.stm q)⟩
    rintro x H1 ⟨ρ1, v1, ch1, e1, r1, rv1, q1⟩
    have fin : Post X.K cl p ρ1 W (RV p) (fun z H2 => D.nx (σ.set i (some z)) H2) (fAdd v v1 ch1) := by
      refine Post.imp ?_ (Post.stm q1)
      rintro z H2 ⟨ρ2, v2, ch2, e2, r2, rv2, q2⟩
      exact nxt q2 r2 ((rs.mono (e1.trans e2)).set i rv2)
    exact oAdd cl p ρ1 W _ w x v v1 ch1 H1 r1 (rw'.mono e1) rv1 fin
  · exact q.elim
theorem xs_augSub (i : Nat) {x : Str} {pos' : Pos} (hN : X.N.Nodup) (he : PE X e (tE X.K cl W me)) (hi : X.N[i]? = some x := by rfl) (hx : Loc X.env.scope x := by first | exact Or.inl rfl | exact Or.inr rfl) (hf : X.fn x = true ∨ X.env.scope.names.lookup x = some .local := by first | exact .inl rfl | exact .inr rfl) :
    PS X (.AugAssign (.Name x pos') .Sub e pos) (tS X.K cl W (mAug i fSub me)) := by
  refine xs_of (ps_aug hN hi hx he ip_sub hf) fun p ρ c ch D σ H rl rs q => ?_
  unfold mAug at q
  split at q
  · rename_i v hv
    obtain ⟨w, hw, rw'⟩ := rs.at_ i v hv
    refine ⟨w, hw, p, ρ, c, ch, rl, rs, Post.imp ?_ (Post.stm q)⟩
    rintro x H1 ⟨ρ1, v1, ch1, e1, r1, rv1, q1⟩
    have fin : Post X.K cl p ρ1 W (RV p) (fun z H2 => D.nx (σ.set i (some z)) H2) (fSub v v1 ch1) := by
      refine Post.imp ?_ (Post.stm q1)
      rintro z H2 ⟨ρ2, v2, ch2, e2, r2, rv2, q2⟩
      exact nxt q2 r2 ((rs.mono (e1.trans e2)).set i rv2)
    exact oSub cl p ρ1 W _ w x v v1 ch1 H1 r1 (rw'.mono e1) rv1 fin
  · exact q.elim
/-- xs[i] = e -/
def setC (o i v : CV) (h : CH) : Option CH := match o, ownL h o, i with
  | .ref n, some xs, .int k => match ixN xs.length k with
    | some j => some (h.set n (.lst (xs.set j v)))
    | none => none
  | _, _, _ => none
def mSetIx (o i v : ME) : MS := fun ns c h => (v ns c h).stm fun u h1 => (o ns c h1).stm fun x h2 => (i ns c h2).stm fun y h3 => match setC x y u h3 with
  | some h4 => .nx c h4
  | none => .st
theorem setC_ok {p : Pa} {ρ : List Addr} {ch ch' : CH} {H : Hp} {o i v : CV} {x y z : V} (h : setC o i v ch = some ch') (rl : Rel K p ρ ch H) (ro : RC p ρ o x) (ri : RC p ρ i y) (rv : RC p ρ v z) {Q : Hp → Prop} (q : ∀ H', Rel K p ρ ch' H' → Q H') : rSetL x y z H Q := by
  unfold setC at h
  split at h
  · rename_i n xs k h1
    obtain ⟨n', a, zs, e, ea, rfl, hq, r⟩ := ownL_ok h1 rl ro
    cases e
    split at h
    · rename_i j hj
      cases h
      cases ri
      rw [Prd.len r] at hj
      exact ⟨a, zs, k, j, rfl, rfl, hq, hj, q _ (rl.write ea ⟨_, rfl, Prd.set rv j r⟩)⟩
    · cases h
  · cases h
theorem xs_setix {o i : Expr} {mo mi : ME} {pos' : Pos} (hv : PE X e (tE X.K cl W me)) (ho : PE X o (tE X.K cl W mo)) (hi : PE X i (tE X.K cl W mi))
    (ha : ∀ v, assign (.Subscript o i pos') X.env v = (do
      let ov ← holding [v] (eval o X.env)
      let iv ← holding [v, ov] (eval i X.env)
      standAt pos'
      holding [v, ov, iv] (setItem ov iv v)
      release [v, ov, iv] []) := by intro _; rfl)
    (hs : swapsWithSole [.Subscript o i pos'] e pos.line X.env = pure false := by rfl) (hw : swappedStores [.Subscript o i pos'] e X.env = pure none := by rfl)
    (h1 : (assignEach [.Subscript o i pos'] X.env).map (·.2) = [assign (.Subscript o i pos') X.env] := by rfl) : PS X (.Assign [.Subscript o i pos'] e pos) (tS X.K cl W (mSetIx mo mi me)) := by
  refine xs_of (ps_asg hv (pg_sub ho hi set_list ha) hs hw h1) fun p ρ c ch D σ H rl rs q => ?_
  refine ⟨p, ρ, c, ch, rl, rs, Post.imp ?_ (Post.stm q)⟩
  rintro x H1 ⟨ρ1, v1, ch1, e1, r1, rv1, q1⟩
  refine ⟨p, ρ1, c, ch1, r1, rs.mono e1, Post.imp ?_ (Post.stm q1)⟩
  rintro y H2 ⟨ρ2, v2, ch2, e2, r2, rv2, q2⟩
  refine ⟨p, ρ2, c, ch2, r2, rs.mono (e1.trans e2), Post.imp ?_ (Post.stm q2)⟩
  rintro z H3 ⟨ρ3, v3, ch3, e3, r3, rv3, q3⟩
  split at q3
  · rename_i h4 hh
    exact setC_ok hh r3 (rv2.mono e3) rv3 (rv1.mono (e2.trans e3)) fun H' r' => nxt q3 r' (rs.mono (e1.trans (e2.trans e3)))
  · exact q3.elim

/-! ### dicts -/
def keyC (h : CH) : CV → Option (Key ⊕ List Key)
  | .int i => some (.inl (.inl i))
  | .str s => some (.inl (.inr s))
  | .ref n => match h[n]? with
    | some (.tup xs) => match intsC xs with
      | some l => some (.inr (l.map Sum.inl))
      | none => none
    | _ => none
  | _ => none
def valC {κ : Type} [DecidableEq κ] (kvs : List (κ × CV)) (k : κ) : Option CV := match kvs with
  | [] => none
  | p :: r => if p.1 = k then some p.2 else valC r k
def putC {κ : Type} [DecidableEq κ] (kvs : List (κ × CV)) (k : κ) (v : CV) : List (κ × CV) :=
  if (kvs.any fun kv => decide (kv.1 = k)) = true then kvs.map (fun kv => if kv.1 = k then (kv.1, v) else kv) else kvs ++ [(k, v)]
/-- what a dict holds at a key; none: no dict, no key -/
def dgetC (h : CH) (d y : CV) : Option (Option CV) := match objC h d, keyC h y with
  | some (.dK kvs), some (.inl k) => some (valC kvs k)
  | some (.dT kvs), some (.inr k) => some (valC kvs k)
  | _, _ => none
abbrev PK {κ : Type} (p : Pa) (ρ : List Addr) : List (κ × CV) → List (κ × V) → Prop := Paired fun a b => a.1 = b.1 ∧ RC p ρ a.2 b.2
inductive RCo (p : Pa) (ρ : List Addr) : Option CV → Option V → Prop
  | none : RCo p ρ none none
  | some {v : CV} {w : V} (r : RC p ρ v w) : RCo p ρ (some v) (some w)
theorem PK.val {κ : Type} [DecidableEq κ] {p : Pa} {ρ : List Addr} (k : κ) : ∀ {xs : List (κ × CV)} {ys : List (κ × V)}, PK p ρ xs ys → RCo p ρ (valC xs k) (valV ys k)
  | _, _, .nil => .none
  | x :: xs, y :: ys, .cons r t => by
    unfold valC
    by_cases e : x.1 = k
    · rw [if_pos e, valV_pos (r.1 ▸ e)]
      exact .some r.2
    · rw [if_neg e, valV_neg (fun z => e (r.1.trans z))]
      exact PK.val k t
theorem PK.any {κ : Type} [DecidableEq κ] {p : Pa} {ρ : List Addr} (k : κ) : ∀ {xs : List (κ × CV)} {ys : List (κ × V)}, PK p ρ xs ys → (xs.any fun kv => decide (kv.1 = k)) = ys.any fun kv => decide (kv.1 = k)
  | _, _, .nil => rfl
  | x :: xs, y :: ys, .cons r t => by
    rw [List.any_cons, List.any_cons, PK.any k t, r.1]
theorem PK.put {κ : Type} [DecidableEq κ] {p : Pa} {ρ : List Addr} {k : κ} {v : CV} {w : V} (rv : RC p ρ v w) {xs : List (κ × CV)} {ys : List (κ × V)} (h : PK p ρ xs ys) : PK p ρ (putC xs k v) (putK ys k w) := by
  have mp : ∀ {xs : List (κ × CV)} {ys : List (κ × V)}, PK p ρ xs ys → PK p ρ (xs.map fun kv => if kv.1 = k then (kv.1, v) else kv) (ys.map fun kv => if kv.1 = k then (kv.1, w) else kv) := by
    intro xs ys h
    induction h with
    | nil => exact .nil
    | cons r t ih =>
      rename_i x y _ _
      rw [List.map_cons, List.map_cons]
      refine .cons ?_ ih
      by_cases e : x.1 = k
      · rw [if_pos e, if_pos (r.1 ▸ e)]
        exact ⟨r.1, rv⟩
      · rw [if_neg e, if_neg (fun z => e (r.1.trans z))]
        exact r
  unfold putC putK
  rw [PK.any k h]
  split
  · exact mp h
  · exact Prd.append h (.cons ⟨rfl, rv⟩ .nil)
theorem PK.keys {κ : Type} {p : Pa} {ρ : List Addr} : ∀ {xs : List (κ × CV)} {ys : List (κ × V)}, PK p ρ xs ys → xs.map (·.1) = ys.map (·.1)
  | _, _, .nil => rfl
  | x :: xs, y :: ys, .cons r t => by rw [List.map_cons, List.map_cons, PK.keys t, r.1]
end
end Xq
end

section
set_option Elab.async false
set_option linter.all false
set_option maxRecDepth 100000
set_option maxHeartbeats 2000000
namespace Xq
open PySem PySem.Spec PyProof.Rows L2
section
variable {X : Cx} {cl : Nat → Value} {W : WX} {K : PySem.W.Frag}
variable {a b c e : Expr} {es : List Expr} {ma mb mc me : ME} {mr : MA} {ta tb : MT} {pos : Pos} {st : Stmt} {rest : List Stmt} {m1 m2 : MS}

def KeyIs (H : Hp) (x : V) : Key ⊕ List Key → Prop
  | .inl k => x = kV k
  | .inr ks => ∃ b, x = .ref b ∧ H b = some (.tup (ks.map kV))
theorem keyC_ok {p : Pa} {ρ : List Addr} {ch : CH} {H : Hp} {v : CV} {x : V} {k : Key ⊕ List Key} (h : keyC ch v = some k) (rl : Rel K p ρ ch H) (rv : RC p ρ v x) : KeyIs H x k := by
  unfold keyC at h
  split at h
  · cases h; exact rv
  · cases h; exact rv
  · rename_i n
    split at h
    · rename_i xs e
      split at h
      · rename_i l hl
        cases h
        obtain ⟨a, ea, rfl⟩ := rv
        obtain ⟨u, hu, ys, rfl, r⟩ := rl.at_ ea e
        have e1 := intsC_ok hl
        subst e1
        have e2 := Prd.ints r
        subst e2
        refine ⟨a, rfl, ?_⟩
        rw [hu, List.map_map]
        rfl
      · cases h
    · cases h
  · cases h
theorem dgetC_ok {p : Pa} {ρ : List Addr} {ch : CH} {H : Hp} {d y : CV} {x z : V} {o : Option CV} (h : dgetC ch d y = some o) (rl : Rel K p ρ ch H) (rd : RC p ρ d x) (ry : RC p ρ y z) : ∃ a o', x = .ref a ∧ DGet H a z o' ∧ RCo p ρ o o' := by
  unfold dgetC at h
  split at h
  · rename_i kvs k h1 h2
    cases h
    have hk := keyC_ok h2 rl ry
    unfold objC at h1
    split at h1
    · obtain ⟨a, ea, rfl⟩ := rd
      obtain ⟨u, hu, ys, rfl, r⟩ := rl.at_ ea h1
      have hk : z = kV k := hk
      subst hk
      exact ⟨a, _, rfl, DGet.k hu, PK.val k r⟩
    · cases h1
  · rename_i kvs k h1 h2
    cases h
    have hk := keyC_ok h2 rl ry
    unfold objC at h1
    split at h1
    · obtain ⟨a, ea, rfl⟩ := rd
      obtain ⟨u, hu, ys, rfl, r⟩ := rl.at_ ea h1
      obtain ⟨b, rfl, hb⟩ := hk
      exact ⟨a, _, rfl, DGet.t hu hb, PK.val k r⟩
    · cases h1
  · cases h
def dputC (h : CH) (d y v : CV) : Option CH := match d, objC h d, keyC h y with
  | .ref n, some (.dK kvs), some (.inl k) => if lineB kvs.length = true then some (h.set n (.dK (putC kvs k v))) else none
  | .ref n, some (.dT kvs), some (.inr k) => if lineB kvs.length = true then some (h.set n (.dT (putC kvs k v))) else none
  | _, _, _ => none
theorem dputC_ok {p : Pa} {ρ : List Addr} {ch ch' : CH} {H : Hp} {d y v : CV} {x z w : V} (h : dputC ch d y v = some ch') (rl : Rel K p ρ ch H) (rd : RC p ρ d x) (ry : RC p ρ y z) (rv : RC p ρ v w) : ∃ a H', x = .ref a ∧ DPut H a z w H' ∧ Rel K p ρ ch' H' := by
  unfold dputC at h
  split at h
  · rename_i n kvs k h2 h1
    split at h
    · rename_i hb
      cases h
      have hk : z = kV k := keyC_ok h2 rl ry
      subst hk
      obtain ⟨a, ea, rfl⟩ := rd
      obtain ⟨u, hu, ys, rfl, r⟩ := rl.at_ ea h1
      exact ⟨a, _, rfl, DPut.k hu (by rw [← Prd.len r]; exact lineB_ok hb), rl.write ea ⟨_, rfl, PK.put rv r⟩⟩
    · cases h
  · rename_i n kvs k h2 h1
    split at h
    · rename_i hb
      cases h
      obtain ⟨b, rfl, hb'⟩ := keyC_ok h2 rl ry
      obtain ⟨a, ea, rfl⟩ := rd
      obtain ⟨u, hu, ys, rfl, r⟩ := rl.at_ ea h1
      exact ⟨a, _, rfl, DPut.t hu hb' (by rw [← Prd.len r]; exact lineB_ok hb), rl.write ea ⟨_, rfl, PK.put rv r⟩⟩
    · cases h
  · cases h
def mNewK : ME := fun _ _ h => new (.dK []) h
def mNewT : ME := fun _ _ h => new (.dT []) h
theorem xnewK : PE X (.Dict [] [] pos) (tE X.K cl W mNewK) := xe_of pe_dnewK fun p ρ c ch σ H Q rl rs q => made q rl ⟨[], rfl, .nil⟩
theorem xnewT : PE X (.Dict [] [] pos) (tE X.K cl W mNewT) := xe_of pe_dnewT fun p ρ c ch σ H Q rl rs q => made q rl ⟨[], rfl, .nil⟩
def mDIn (g : Bool → Bool) (y d : ME) : ME := fun ns c h => (y ns c h).bind fun k h1 => (d ns c h1).bind fun x h2 => match dgetC h2 x k with
  | some o => .ok (.bl (g o.isSome)) h2
  | none => .st
theorem RCo.some_eq {p : Pa} {ρ : List Addr} {o : Option CV} {o' : Option V} (r : RCo p ρ o o') : o.isSome = o'.isSome := by cases r <;> rfl
theorem din {g : Bool → Bool} {σ : St} {H : Hp} {Q : VK} (h : tE X.K cl W (mDIn g ma mb) σ H Q) : tE X.K cl W ma σ H fun y H1 => tE X.K cl W mb σ H1 fun x H2 => ∃ a o, x = .ref a ∧ DGet H2 a y o ∧ Q (.bl (g o.isSome)) H2 := by
  obtain ⟨p, ρ, c, ch, rl, rs, q⟩ := h
  refine ⟨p, ρ, c, ch, rl, rs, Post.imp ?_ (Post.bind q)⟩
  rintro x H1 ⟨ρ1, v1, ch1, e1, r1, rv1, q1⟩
  refine ⟨p, ρ1, c, ch1, r1, rs.mono e1, Post.imp ?_ (Post.bind q1)⟩
  rintro y H2 ⟨ρ2, v2, ch2, e2, r2, rv2, q2⟩
  split at q2
  · rename_i o ho
    obtain ⟨a, o', rfl, hd, ro⟩ := dgetC_ok ho r2 rv2 (rv1.mono e2)
    exact ⟨a, o', rfl, hd, here q2 r2 (by show V.bl _ = V.bl _; rw [ro.some_eq])⟩
  · exact q2.elim
theorem xdinT (hu : X.A.units + 1 < cLine) (ha : PE X a (tE X.K cl W ma)) (hb : PE X b (tE X.K cl W mb)) (h1 : behindInMarks .In b = false := by rfl) : PT X (.Compare a [.In] [b] pos) (tT X.K cl W (mTst (mDIn (fun k => k) ma mb))) :=
  pt_imp (pt_cmp (pc_din hu ha hb) h1) fun σ H Q h => din (tst h)
theorem xdnotinT (hu : X.A.units + 1 < cLine) (ha : PE X a (tE X.K cl W ma)) (hb : PE X b (tE X.K cl W mb)) (h1 : behindInMarks .NotIn b = false := by rfl) : PT X (.Compare a [.NotIn] [b] pos) (tT X.K cl W (mTst (mDIn (!·) ma mb))) :=
  pt_imp (pt_cmp (pc_dnotin hu ha hb) h1) fun σ H Q h => din (tst h)
def mDGet (d y : ME) : ME := fun ns c h => (d ns c h).bind fun x h1 => (y ns c h1).bind fun k h2 => match dgetC h2 x k with
  | some (some v) => .ok v h2
  | _ => .st
theorem xdget (hu : X.A.units + 1 < cLine) (ha : PE X a (tE X.K cl W ma)) (hb : PE X b (tE X.K cl W mb)) (hs : NoSl b := by exact fun _ _ => rfl) : PE X (.Subscript a b pos) (tE X.K cl W (mDGet ma mb)) := by
  refine pe_imp (pe_dget hu ha hb hs) fun σ H Q ⟨p, ρ, c, ch, rl, rs, q⟩ => ?_
  refine ⟨p, ρ, c, ch, rl, rs, Post.imp ?_ (Post.bind q)⟩
  rintro x H1 ⟨ρ1, v1, ch1, e1, r1, rv1, q1⟩
  refine ⟨p, ρ1, c, ch1, r1, rs.mono e1, Post.imp ?_ (Post.bind q1)⟩
  rintro y H2 ⟨ρ2, v2, ch2, e2, r2, rv2, q2⟩
  split at q2
  · rename_i v ho
    obtain ⟨a, o', rfl, hd, ro⟩ := dgetC_ok ho r2 (rv1.mono e2) rv2
    cases ro with
    | some r => exact ⟨a, _, rfl, hd, here q2 r2 r⟩
  · exact q2.elim
def mDPut (d y v : ME) : MS := fun ns c h => (v ns c h).stm fun u h1 => (d ns c h1).stm fun x h2 => (y ns c h2).stm fun k h3 => match dputC h3 x k u with
  | some h4 => .nx c h4
  | none => .st
theorem xs_dput {pos' : Pos} (hu : X.A.units + 1 < cLine) (hv : PE X e (tE X.K cl W me)) (ha : PE X a (tE X.K cl W ma)) (hb : PE X b (tE X.K cl W mb)) (hs : swapsWith e (some (.Subscript a b pos')) pos.line X.env = pure false := by rfl) : PS X (.Assign [.Subscript a b pos'] e pos) (tS X.K cl W (mDPut ma mb me)) := by
  refine xs_of (ps_dput hu ha hb hv hs) fun p ρ c ch D σ H rl rs q => ?_
  refine ⟨p, ρ, c, ch, rl, rs, Post.imp ?_ (Post.stm q)⟩
  rintro v H1 ⟨ρ1, v1, ch1, e1, r1, rv1, q1⟩
  refine ⟨p, ρ1, c, ch1, r1, rs.mono e1, Post.imp ?_ (Post.stm q1)⟩
  rintro x H2 ⟨ρ2, v2, ch2, e2, r2, rv2, q2⟩
  refine ⟨p, ρ2, c, ch2, r2, rs.mono (e1.trans e2), Post.imp ?_ (Post.stm q2)⟩
  rintro y H3 ⟨ρ3, v3, ch3, e3, r3, rv3, q3⟩
  split at q3
  · rename_i h4 hh
    obtain ⟨d, H4, rfl, hp, r4⟩ := dputC_ok hh r3 (rv2.mono e3) rv3 (rv1.mono (e2.trans e3))
    exact ⟨d, H4, rfl, hp, nxt q3 r4 (rs.mono (e1.trans (e2.trans e3)))⟩
  · exact q3.elim

/-! ### what is walked -/
inductive Nx where
  | stop | item (v : CV) (h : CH) | st
abbrev IN := Nat → CH → Nx
def NxS (K : PySem.W.Frag) (p : Pa) (ρ : List Addr) (J : It) (i : Nat) (H : Hp) : Nx → Prop
  | .stop => J.stop i H
  | .item v ch' => J.go i H ∧ ∀ x H', J.yld i H x H' → ∃ ρ2, ρ <+: ρ2 ∧ Rel K p ρ2 ch' H' ∧ RC p ρ2 v x
  | .st => True
def ItS (K : PySem.W.Frag) (p : Pa) (ρ : List Addr) (N : IN) (J : It) : Prop := ∀ ρ' ch H i, ρ <+: ρ' → Rel K p ρ' ch H → NxS K p ρ' J i H (N i ch)
theorem ItS.mono {p : Pa} {ρ ρ' : List Addr} {N : IN} {J : It} (e : ρ <+: ρ') (h : ItS K p ρ N J) : ItS K p ρ' N J := fun ρ2 ch H i e2 r => h ρ2 ch H i (e.trans e2) r
abbrev MI := MX IN
def tI (K : PySem.W.Frag) (cl : Nat → Value) (W : WX) (m : MI) : TI := fun σ H R => ∃ p ρ c ch, Rel K p ρ ch H ∧ RS p ρ c σ ∧ Post K cl p ρ W (fun ρ N J => ItS K p ρ N J) R (m p.ns c ch)
theorem pi_imp {X : Cx} {tg it : Expr} {t t' : TI} (h : PI X tg it t) (f : ∀ σ H R, t' σ H R → t σ H R) : PI X tg it t' := ⟨fun pins s σ H R I q => h.run pins s σ H R I (f σ H R q)⟩
def nxR (lo : Int) (n : Nat) : IN := fun i h => if Nat.blt i n = true then .item (.int (lo + i)) h else .stop
def nxL (ns : List Int) (v : CV) : IN := fun i h => match lstC ns h v with
  | some xs => match xs[i]? with
    | some x => .item x h
    | none => .stop
  | none => .st
def nxT (v : CV) : IN := fun i h => match tupC h v with
  | some xs => match xs[i]? with
    | some x => .item x h
    | none => .stop
  | none => .st
theorem nxR_ok {p : Pa} {ρ : List Addr} {lo : Int} {n : Nat} : ItS K p ρ (nxR lo n) (Itr lo n) := by
  intro ρ' ch H i e r
  unfold nxR
  by_cases h : i < n
  · rw [if_pos (by simpa [Nat.blt_eq] using h)]
    exact ⟨h, fun x H' ⟨e1, e2⟩ => ⟨ρ', List.prefix_refl _, by rw [e1]; exact r, e2⟩⟩
  · rw [if_neg (by simpa [Nat.blt_eq] using h)]
    exact Nat.le_of_not_lt h
theorem lstC_iter {p : Pa} {ρ : List Addr} {ch0 : CH} {H0 : Hp} {v : CV} {x : V} {xs0 : List CV} (h0 : lstC p.ns ch0 v = some xs0) (r0 : Rel K p ρ ch0 H0) (rv : RC p ρ v x) : ∃ a, x = .ref a ∧ (∃ ys, SqL K H0 a ys) ∧ ItS K p ρ (nxL p.ns v) (Itl K a) := by
  obtain ⟨a, ys, rfl, hq, rr⟩ := lstC_ok h0 r0 rv
  refine ⟨a, rfl, ⟨ys, hq⟩, fun ρ' ch H i e r => ?_⟩
  unfold nxL
  cases hl : lstC p.ns ch v with
  | none => exact True.intro
  | some xs =>
    obtain ⟨a', zs, ea, hz, rz⟩ := lstC_ok hl r (rv.mono e)
    cases ea
    dsimp only
    cases hy : xs[i]? with
    | none =>
      refine ⟨zs, hz, ?_⟩
      rw [← Prd.len rz]
      exact List.getElem?_eq_none_iff.mp hy
    | some y =>
      obtain ⟨w, hw, rw'⟩ := Prd.get rz hy
      exact ⟨⟨zs, w, hz, hw⟩, fun x H' ⟨e1, e2⟩ => ⟨ρ', List.prefix_refl _, by rw [e1]; exact r, by
        have := e2 zs hz
        rw [hw] at this; cases this; exact rw'⟩⟩
theorem tupC_iter {p : Pa} {ρ : List Addr} {ch0 : CH} {H0 : Hp} {v : CV} {x : V} {xs0 : List CV} (h0 : tupC ch0 v = some xs0) (r0 : Rel K p ρ ch0 H0) (rv : RC p ρ v x) : ∃ a, x = .ref a ∧ (∃ ys, SqT K H0 a ys) ∧ ItS K p ρ (nxT v) (Itt K a) := by
  obtain ⟨a, ys, rfl, hq, rr⟩ := tupC_ok h0 r0 rv
  refine ⟨a, rfl, ⟨ys, SqT.of hq⟩, fun ρ' ch H i e r => ?_⟩
  unfold nxT
  cases hl : tupC ch v with
  | none => exact True.intro
  | some xs =>
    obtain ⟨a', zs, ea, hz, rz⟩ := tupC_ok hl r (rv.mono e)
    cases ea
    dsimp only
    cases hy : xs[i]? with
    | none =>
      refine ⟨zs, SqT.of hz, ?_⟩
      rw [← Prd.len rz]
      exact List.getElem?_eq_none_iff.mp hy
    | some y =>
      obtain ⟨w, hw, rw'⟩ := Prd.get rz hy
      exact ⟨⟨zs, w, SqT.of hz, hw⟩, fun x H' ⟨e1, e2⟩ => ⟨ρ', List.prefix_refl _, by rw [e1]; exact r, by
        have := e2 zs (SqT.of hz)
        rw [hw] at this; cases this; exact rw'⟩⟩
def mIList (a : ME) : MI := fun ns c h => (a ns c h).bind fun x h1 => match lstC ns h1 x with
  | some _ => .ok (nxL ns x) h1
  | none => .st
def mITup (a : ME) : MI := fun ns c h => (a ns c h).bind fun x h1 => match tupC h1 x with
  | some _ => .ok (nxT x) h1
  | none => .st
variable {tg : Expr}
theorem xi_list (ha : PE X a (tE X.K cl W ma)) : PI X tg a (tI X.K cl W (mIList ma)) := by
  refine pi_imp (pi_list ha) fun σ H R ⟨p, ρ, c, ch, rl, rs, q⟩ => ?_
  refine ⟨p, ρ, c, ch, rl, rs, Post.imp ?_ (Post.bind q)⟩
  rintro x H1 ⟨ρ1, v1, ch1, e1, r1, rv1, q1⟩
  split at q1
  · rename_i xs hl
    obtain ⟨a, rfl, h1, h2⟩ := lstC_iter hl r1 rv1
    exact ⟨a, rfl, h1, here q1 r1 h2⟩
  · exact q1.elim
theorem xi_tup (ha : PE X a (tE X.K cl W ma)) : PI X tg a (tI X.K cl W (mITup ma)) := by
  refine pi_imp (pi_tup ha) fun σ H R ⟨p, ρ, c, ch, rl, rs, q⟩ => ?_
  refine ⟨p, ρ, c, ch, rl, rs, Post.imp ?_ (Post.bind q)⟩
  rintro x H1 ⟨ρ1, v1, ch1, e1, r1, rv1, q1⟩
  split at q1
  · rename_i xs hl
    obtain ⟨a, rfl, h1, h2⟩ := tupC_iter hl r1 rv1
    exact ⟨a, rfl, h1, here q1 r1 h2⟩
  · exact q1.elim
def r62 : Int → Bool
  | .ofNat a => Nat.ble a 1000000000000
  | .negSucc a => Nat.ble a 1000000000000
theorem r62_ok : ∀ {i : Int}, r62 i = true → -(2 ^ 62) ≤ i ∧ i < 2 ^ 62
  | .ofNat a, h => by
    rw [show r62 (.ofNat a) = Nat.ble a 1000000000000 from rfl, Nat.ble_eq] at h
    show -(2 ^ 62) ≤ (a : Int) ∧ (a : Int) < 2 ^ 62
    omega
  | .negSucc a, h => by
    rw [show r62 (.negSucc a) = Nat.ble a 1000000000000 from rfl, Nat.ble_eq] at h
    omega
def mIR1 (a : ME) : MI := fun ns c h => (a ns c h).bind fun x h1 => match x with
  | .int j => if r62 j = true then .ok (nxR 0 j.toNat) h1 else .st
  | _ => .st
def mIR2 (a b : ME) : MI := fun ns c h => (a ns c h).bind fun x h1 => (b ns c h1).bind fun y h2 => match x, y with
  | .int i, .int j => if (r62 i && r62 j) = true then .ok (nxR i (j - i).toNat) h2 else .st
  | _, _ => .st
theorem xi_r1 {p pos : Pos} (hm : X.mg "range" = none) (ha : PE X a (tE X.K cl W ma)) (hg : Gl X "range" := by rfl) (hs : starEach [a] X.env = [(false, eval a X.env)] := by rfl) (hs' : starEach (a :: []) X.env = (false, eval a X.env) :: starEach [] X.env := by rfl) : PI X tg (.Call (.Name "range" p) [a] [] pos) (tI X.K cl W (mIR1 ma)) := by
  refine pi_imp (pi_range1 hg hm (pa_cons ha pa_nil hs') hs) fun σ H R ⟨p, ρ, c, ch, rl, rs, q⟩ => ?_
  refine ⟨p, ρ, c, ch, rl, rs, Post.imp ?_ (Post.bind q)⟩
  rintro x H1 ⟨ρ1, v1, ch1, e1, r1, rv1, q1⟩
  split at q1
  · rename_i j
    split at q1
    · rename_i hb
      obtain ⟨b1, b2⟩ := r62_ok hb
      cases rv1
      exact ⟨j, rfl, b1, b2, here q1 r1 nxR_ok⟩
    · exact q1.elim
  · exact q1.elim
theorem xi_r2 {p pos : Pos} (hm : X.mg "range" = none) (ha : PE X a (tE X.K cl W ma)) (hb : PE X b (tE X.K cl W mb)) (hg : Gl X "range" := by rfl) (hs : starEach [a, b] X.env = [(false, eval a X.env), (false, eval b X.env)] := by rfl) (hs2 : starEach [b] X.env = [(false, eval b X.env)] := by rfl)
    (hs' : starEach (b :: []) X.env = (false, eval b X.env) :: starEach [] X.env := by rfl) (hs3 : starEach (a :: [b]) X.env = (false, eval a X.env) :: starEach [b] X.env := by rfl) : PI X tg (.Call (.Name "range" p) [a, b] [] pos) (tI X.K cl W (mIR2 ma mb)) := by
  refine pi_imp (pi_range2 hg hm (pa_cons ha (pa_cons hb pa_nil hs') hs3) hs hs2) fun σ H R ⟨p, ρ, c, ch, rl, rs, q⟩ => ?_
  refine ⟨p, ρ, c, ch, rl, rs, Post.imp ?_ (Post.bind q)⟩
  rintro x H1 ⟨ρ1, v1, ch1, e1, r1, rv1, q1⟩
  refine ⟨p, ρ1, c, ch1, r1, rs.mono e1, Post.imp ?_ (Post.bind q1)⟩
  rintro y H2 ⟨ρ2, v2, ch2, e2, r2, rv2, q2⟩
  split at q2
  · rename_i i j
    split at q2
    · rename_i hb
      have ⟨h1, h2⟩ := Bool.and_eq_true _ _ |>.mp hb
      obtain ⟨b1, b2⟩ := r62_ok h1
      obtain ⟨b3, b4⟩ := r62_ok h2
      cases rv1
      cases rv2
      exact ⟨i, j, rfl, ⟨b1, b2, b3, b4⟩, here q2 r2 nxR_ok⟩
    · exact q2.elim
  · exact q2.elim

/-! ### targets -/
abbrev GC := CV → CS → CH → Option CS
theorem wipe_set0 {i : Nat} {x : Option V} : ∀ {vs : List Nat} {σ : St}, (wipe (σ.set i x) vs).set i none = (wipe σ vs).set i none
  | [], σ => by unfold wipe; rw [List.set_set]
  | v :: vs, σ => by
    unfold wipe
    by_cases e : v = i
    · subst e; rw [List.set_set, List.set_set, wipe_set0]
    · rw [List.set_comm _ _ e, wipe_set0, List.set_comm _ _ (Ne.symm e)]
theorem wipe_set {i : Nat} {x : Option V} : ∀ {vs : List Nat} {σ : St}, i ∈ vs → wipe (σ.set i x) vs = wipe σ vs
  | [], _, h => by simp at h
  | v :: vs, σ, h => by
    unfold wipe
    by_cases e : i ∈ vs
    · rw [wipe_set e]
    · rcases List.mem_cons.mp h with q | q
      · subst q; exact wipe_set0
      · exact absurd q e
theorem wipe_wipe : ∀ {vs : List Nat} {σ : St}, wipe (wipe σ vs) vs = wipe σ vs
  | [], _ => rfl
  | v :: vs, σ => by
    show (wipe ((wipe σ vs).set v none) vs).set v none = (wipe σ vs).set v none
    rw [wipe_set0, wipe_wipe]
/-- σ' is σ but at sl -/
def But (sl : List Nat) (σ σ' : St) : Prop := ∀ vs : List Nat, (∀ i ∈ sl, i ∈ vs) → wipe σ' vs = wipe σ vs
def GS (K : PySem.W.Frag) (g : TG) (f : GC) (sl : List Nat) : Prop := ∀ p ρ v x c σ c' ch H, Rel K p ρ ch H → RS p ρ c σ → RC p ρ v x → f v c ch = some c' → ∀ Q : St → Hp → Prop, (∀ σ', RS p ρ c' σ' → But sl σ σ' → Q σ' H) → g x σ H Q
def gN (i : Nat) : GC := fun v c _ => some (c.set i (some v))
theorem gs_name {i : Nat} : GS K (gName i) (gN i) [i] := fun p ρ v x c σ c' ch H rl rs rv h Q q => by
  cases h
  exact q _ (rs.set i rv) fun vs hv => wipe_set (hv i (by simp))
def gT2 (i j : Nat) : GC := fun v c h => match tupC h v with
  | some [x, y] => some ((c.set i (some x)).set j (some y))
  | _ => none
theorem gs_tup2 {i j : Nat} : GS K (gTup K 2 (gCons (gName i) (gCons (gName j) gNil))) (gT2 i j) [i, j] := fun p ρ v x c σ c' ch H rl rs rv h Q q => by
  unfold gT2 at h
  split at h
  · rename_i a b hl
    cases h
    obtain ⟨t, ys, rfl, hq, r⟩ := tupC_ok hl rl rv
    obtain ⟨y, y', rfl, r1, r2⟩ := Prd.two r
    exact ⟨t, _, rfl, SqT.of hq, rfl, y, _, rfl, y', _, rfl, rfl, q _ ((rs.set i r1).set j r2) fun vs hv => by rw [wipe_set (hv j (by simp)), wipe_set (hv i (by simp))]⟩
  · cases h
def gT3 (i j k : Nat) : GC := fun v c h => match tupC h v with
  | some [x, y, z] => some (((c.set i (some x)).set j (some y)).set k (some z))
  | _ => none
theorem gs_tup3 {i j k : Nat} : GS K (gTup K 3 (gCons (gName i) (gCons (gName j) (gCons (gName k) gNil)))) (gT3 i j k) [i, j, k] := fun p ρ v x c σ c' ch H rl rs rv h Q q => by
  unfold gT3 at h
  split at h
  · rename_i a b d hl
    cases h
    obtain ⟨t, ys, rfl, hq, r⟩ := tupC_ok hl rl rv
    cases r with
    | cons r1 r =>
      obtain ⟨y, y', rfl, r2, r3⟩ := Prd.two r
      exact ⟨t, _, rfl, SqT.of hq, rfl, _, _, rfl, y, _, rfl, y', _, rfl, rfl, q _ (((rs.set i r1).set j r2).set k r3) fun vs hv => by rw [wipe_set (hv k (by simp)), wipe_set (hv j (by simp)), wipe_set (hv i (by simp))]⟩
  · cases h
/-- a, b = e -/
def mAsg (f : GC) (a : ME) : MS := fun ns c h => (a ns c h).stm fun v h1 => match f v c h1 with
  | some c' => .nx c' h1
  | none => .st
theorem xs_asg {g : TG} {f : GC} {sl : List Nat} (he : PE X e (tE X.K cl W me)) (hg : PG X tg g) (gs : GS X.K g f sl) (hs : swapsWithSole [tg] e pos.line X.env = pure false := by rfl) (hw : swappedStores [tg] e X.env = pure none := by rfl)
    (h1 : (assignEach [tg] X.env).map (·.2) = [assign tg X.env] := by rfl) : PS X (.Assign [tg] e pos) (tS X.K cl W (mAsg f me)) := by
  refine xs_of (ps_asg he hg hs hw h1) fun p ρ c ch D σ H rl rs q => ?_
  refine ⟨p, ρ, c, ch, rl, rs, Post.imp ?_ (Post.stm q)⟩
  rintro x H1 ⟨ρ1, v1, ch1, e1, r1, rv1, q1⟩
  split at q1
  · rename_i c' hc
    exact gs p ρ1 v1 x c σ c' ch1 H1 r1 (rs.mono e1) rv1 hc _ fun σ' rs' _ => nxt q1 r1 rs'
  · exact q1.elim

/-! ### for, while -/
def loopN (N : IN) (g : GC) (b : CS → CH → SO) : Nat → Nat → CS → CH → SO
  | 0, _, _, _ => .st
  | f + 1, i, c, h => match N i h with
    | .stop => .nx c h
    | .st => .st
    | .item v h1 => match g v c h1 with
      | none => .st
      | some c1 => match b c1 h1 with
        | .nx c2 h2 => loopN N g b f (i + 1) c2 h2
        | .ct c2 h2 => loopN N g b f (i + 1) c2 h2
        | .bk c2 h2 => .nx c2 h2
        | o => o
def mFor (fuel : Nat) (it : MI) (g : GC) (b : MS) : MS := fun ns c h => (it ns c h).stm fun N h1 => loopN N g (b ns) fuel 0 c h1
theorem xs_for {iter : Expr} {body : List Stmt} {g : TG} {f : GC} {sl : List Nat} {mi : MI} (fuel : Nat) (hp : PassesOwn (model X.prog X.w) X.A X.env X.xe) (hi : PI X tg iter (tI X.K cl W mi)) (hg : PG X tg g) (gs : GS X.K g f sl) (hb : PSs X body (tS X.K cl W m1)) (hc : X.calm = true := by rfl)
    (hs : ∀ x, foldedSetIterable iter X.env x = pure x := by intro _; rfl) : PS X (.For tg iter body [] pos) (tS X.K cl W (mFor fuel mi f m1)) := by
  refine xs_of (ps_for hp hc hi hg hb hs) fun p ρ c ch D σ H rl rs q => ?_
  refine ⟨p, ρ, c, ch, rl, rs, Post.imp ?_ (Post.stm q)⟩
  rintro J H1 ⟨ρ1, N, ch1, e1, r1, rN, q1⟩
  refine ⟨fun i m σ H => ∃ ρ' c ch, ρ1 <+: ρ' ∧ Rel X.K p ρ' ch H ∧ RS p ρ' c σ ∧ PostS X.K cl p ρ' W D (loopN N f (m1 p.ns) m i c ch), ⟨fuel, ρ1, c, ch1, List.prefix_refl _, r1, rs.mono e1, q1⟩, ?_⟩
  rintro i m σ2 H2 ⟨ρ2, c2, ch2, e2, r2, rs2, q2⟩
  cases m with
  | zero => exact q2.elim
  | succ m =>
    have nx := rN ρ2 ch2 H2 i e2 r2
    unfold loopN at q2
    cases hN : N i ch2 with
    | stop =>
      rw [hN] at nx q2
      exact .inl ⟨nx, nxt q2 r2 rs2⟩
    | st => rw [hN] at q2; exact q2.elim
    | item v h1 =>
      rw [hN] at nx q2
      obtain ⟨go, yl⟩ := nx
      refine .inr ⟨go, fun σ H => ∃ ρ' c ch, ρ1 <+: ρ' ∧ Rel X.K p ρ' ch H ∧ RS p ρ' c σ ∧ PostS X.K cl p ρ' W D (loopN N f (m1 p.ns) m (i + 1) c ch), fun σ' H' z => ⟨m, Nat.lt_succ_self m, z⟩, fun x H' y => ?_⟩
      obtain ⟨ρ3, e3, r3, rv3⟩ := yl x H' y
      dsimp only at q2
      cases hg' : f v c2 h1 with
      | none => rw [hg'] at q2; exact q2.elim
      | some c3 =>
        rw [hg'] at q2
        refine gs p ρ3 v x c2 σ2 c3 h1 H' r3 (rs2.mono e3) rv3 hg' _ fun σ3 rs3 _ => ⟨p, ρ3, c3, h1, r3, rs3, ?_⟩
        have q3 := PostS.mono e3 q2
        dsimp only at q3
        cases hb' : m1 p.ns c3 h1 with
        | nx c4 h4 =>
          rw [hb'] at q3
          exact fun ρ4 σ4 H4 e4 r4 rs4 => ⟨ρ4, c4, h4, e2.trans (e3.trans e4), r4, rs4, PostS.mono e4 q3⟩
        | ct c4 h4 =>
          rw [hb'] at q3
          exact fun ρ4 σ4 H4 e4 r4 rs4 => ⟨ρ4, c4, h4, e2.trans (e3.trans e4), r4, rs4, PostS.mono e4 q3⟩
        | bk c4 h4 =>
          rw [hb'] at q3
          exact q3
        | rt v4 h4 => rw [hb'] at q3; exact q3
        | ex c4 u4 h4 => rw [hb'] at q3; exact q3
        | st => rw [hb'] at q3; exact q3
def loopW (t : CS → CH → Ou Bool) (b : CS → CH → SO) : Nat → CS → CH → SO
  | 0, _, _ => .st
  | f + 1, c, h => (t c h).stm fun k h1 => if k = true then (match b c h1 with
      | .nx c2 h2 => loopW t b f c2 h2
      | .ct c2 h2 => loopW t b f c2 h2
      | .bk c2 h2 => .nx c2 h2
      | o => o) else .nx c h1
def mWhile (fuel : Nat) (t : MT) (b : MS) : MS := fun ns c h => loopW (t ns) (b ns) fuel c h
theorem xs_while {body : List Stmt} (fuel : Nat) (hp : PassesOwn (model X.prog X.w) X.A X.env X.xe) (ht : PT X e (tT X.K cl W ta)) (hb : PSs X body (tS X.K cl W m1)) : PS X (.While e body [] pos) (tS X.K cl W (mWhile fuel ta m1)) := by
  refine xs_of (ps_while hp ht hb) fun p ρ c ch D σ H rl rs q => ?_
  refine ⟨fun m σ H => ∃ ρ' c ch, ρ <+: ρ' ∧ Rel X.K p ρ' ch H ∧ RS p ρ' c σ ∧ PostS X.K cl p ρ' W D (loopW (ta p.ns) (m1 p.ns) m c ch), ⟨fuel, ρ, c, ch, List.prefix_refl _, rl, rs, q⟩, ?_⟩
  rintro m σ2 H2 ⟨ρ2, c2, ch2, e2, r2, rs2, q2⟩
  cases m with
  | zero => exact q2.elim
  | succ m =>
    unfold loopW at q2
    refine ⟨p, ρ2, c2, ch2, r2, rs2, Post.imp ?_ (Post.stm q2)⟩
    rintro k H3 ⟨ρ3, k', ch3, e3, r3, rfl, q3⟩
    cases k' with
    | false =>
      rw [if_neg Bool.false_ne_true]
      rw [if_neg Bool.false_ne_true] at q3
      exact nxt q3 r3 (rs2.mono e3)
    | true =>
      rw [if_pos rfl]
      rw [if_pos rfl] at q3
      refine ⟨fun σ H => ∃ ρ' c ch, ρ <+: ρ' ∧ Rel X.K p ρ' ch H ∧ RS p ρ' c σ ∧ PostS X.K cl p ρ' W D (loopW (ta p.ns) (m1 p.ns) m c ch), fun σ' H' z => ⟨m, Nat.lt_succ_self m, z⟩, p, ρ3, c2, ch3, r3, rs2.mono e3, ?_⟩
      cases hb' : m1 p.ns c2 ch3 with
      | nx c4 h4 =>
        rw [hb'] at q3
        exact fun ρ4 σ4 H4 e4 r4 rs4 => ⟨ρ4, c4, h4, e2.trans (e3.trans e4), r4, rs4, PostS.mono e4 q3⟩
      | ct c4 h4 =>
        rw [hb'] at q3
        exact fun ρ4 σ4 H4 e4 r4 rs4 => ⟨ρ4, c4, h4, e2.trans (e3.trans e4), r4, rs4, PostS.mono e4 q3⟩
      | bk c4 h4 =>
        rw [hb'] at q3
        exact q3
      | rt v4 h4 => rw [hb'] at q3; exact q3
      | ex c4 u4 h4 => rw [hb'] at q3; exact q3
      | st => rw [hb'] at q3; exact q3
end
end Xq
end

section
set_option Elab.async false
set_option linter.all false
set_option maxRecDepth 100000
set_option maxHeartbeats 2000000
namespace Xq
open PySem PySem.Spec PyProof.Rows L2
section
variable {X : Cx} {cl : Nat → Value} {W : WX} {K : PySem.W.Frag}
variable {a b c e : Expr} {es : List Expr} {ma mb mc me : ME} {mr : MA} {ta tb : MT} {pos : Pos} {st : Stmt} {rest : List Stmt} {m1 m2 : MS}

/-! ### comprehensions -/
abbrev W0 : WX := fun _ _ _ _ => False
def wipeC (c : CS) : List Nat → CS
  | [] => c
  | v :: vs => (wipeC c vs).set v none
theorem RS.wipe {p : Pa} {ρ : List Addr} {c : CS} {σ : St} (h : RS p ρ c σ) : ∀ vs : List Nat, RS p ρ (wipeC c vs) (wipe σ vs)
  | [] => h
  | v :: vs => by
    have ih := RS.wipe h vs
    refine ⟨by show ((wipeC c vs).set v none).length = ((L2.wipe σ vs).set v none).length; rw [List.length_set, List.length_set]; exact ih.len, fun i u q => ?_⟩
    have q : ((wipeC c vs).set v none)[i]? = some (some u) := q
    show ∃ w, ((L2.wipe σ vs).set v none)[i]? = some (some w) ∧ RC p ρ u w
    by_cases e : v = i
    · subst e
      rw [List.getElem?_set] at q
      rw [if_pos rfl] at q
      split at q <;> cases q
    · rw [List.getElem?_set_ne e] at q ⊢
      exact ih.at_ i u q
def loopC (N : IN) (g : GC) (t : CS → CH → Ou Bool) (e : CS → CH → Ou CV) (cw : CS) (d : Nat) : Nat → Nat → CH → Ou CV
  | 0, _, _ => .st
  | f + 1, i, h => match N i h with
    | .stop => .ok (.ref d) h
    | .st => .st
    | .item v h1 => match g v cw h1 with
      | none => .st
      | some c1 => match t c1 h1 with
        | .ok k h2 => if k = true then (match e c1 h2 with
            | .ok y h3 => (match h3[d]? with
              | some (.lst acc) => if lineB acc.length = true then loopC N g t e cw d f (i + 1) (h3.set d (.lst (acc ++ [y]))) else .st
              | _ => .st)
            | _ => .st) else loopC N g t e cw d f (i + 1) h2
        | _ => .st
def mLc (fuel : Nat) (vs : List Nat) (it : MI) (g : GC) (t : MT) (e : ME) : ME := fun ns c h => (it ns c h).bind fun N h1 => loopC N g (t ns) (e ns) (wipeC c vs) h1.length fuel 0 (h1 ++ [.lst []])
def mYes : MT := fun _ _ h => .ok true h
theorem xts_nil : PTs X [] (tT X.K cl W mYes) := pts_imp pts_nil fun σ H Q ⟨p, ρ, c, ch, rl, rs, q⟩ => here q rl rfl
theorem xts_one (h : PT X c (tT X.K cl W ta)) : PTs X [c] (tT X.K cl W ta) := pts_one h
theorem lc_run {fuel : Nat} {vs sl : List Nat} {mi : MI} {g : TG} {f : GC} {mt : MT} {me : ME} (gs : GS K g f sl) (hsl : ∀ i ∈ sl, i ∈ vs) {p : Pa} {ρ : List Addr} {c : CS} {ch : CH} {σ : St} {H : Hp} {Q : VK} (rl : Rel K p ρ ch H) (rs : RS p ρ c σ) (q : Post K cl p ρ W (RV p) Q (mLc fuel vs mi f mt me p.ns c ch)) :
    tLc (tI K cl W mi) g (tT K cl W0 mt) (tE K cl W0 me) vs σ H Q := by
  refine ⟨p, ρ, c, ch, rl, rs, Post.imp ?_ (Post.bind q)⟩
  rintro J H1 ⟨ρ1, N, ch1, e1, r1, rN, q1⟩ D nD
  have rD : Rel K p (ρ1 ++ [D]) (ch1 ++ [.lst []]) (upd H1 D (.lst [])) := r1.alloc nD ⟨[], rfl, .nil⟩
  have exD : ρ1 <+: ρ1 ++ [D] := List.prefix_append _ _
  have atD : (ρ1 ++ [D])[ch1.length]? = some D := by rw [← r1.len]; simp
  refine ⟨fun i m H => ∃ ρ' ch, (ρ1 ++ [D]) <+: ρ' ∧ Rel K p ρ' ch H ∧ Post K cl p ρ' W (RV p) Q (loopC N f (mt p.ns) (me p.ns) (wipeC c vs) ch1.length m i ch), ⟨fuel, _, _, List.prefix_refl _, rD, Post.mono exD q1⟩, ?_⟩
  rintro i m H2 ⟨ρ2, ch2, e2, r2, q2⟩
  cases m with
  | zero => exact q2.elim
  | succ m =>
    have nx := rN ρ2 ch2 H2 i (exD.trans e2) r2
    unfold loopC at q2
    cases hN : N i ch2 with
    | stop =>
      rw [hN] at nx q2
      exact .inl ⟨nx, here q2 r2 ⟨D, pre_at e2 atD, rfl⟩⟩
    | st => rw [hN] at q2; exact q2.elim
    | item v h1 =>
      rw [hN] at nx q2
      obtain ⟨go, yl⟩ := nx
      refine .inr ⟨go, fun H => ∃ ρ' ch, (ρ1 ++ [D]) <+: ρ' ∧ Rel K p ρ' ch H ∧ Post K cl p ρ' W (RV p) Q (loopC N f (mt p.ns) (me p.ns) (wipeC c vs) ch1.length m (i + 1) ch), fun H' z => ⟨m, Nat.lt_succ_self m, z⟩, fun x H' y => ?_⟩
      obtain ⟨ρ3, e3, r3, rv3⟩ := yl x H' y
      have E3 := e2.trans e3
      have rs3 : RS p ρ3 (wipeC c vs) (wipe σ vs) := ((rs.mono e1).mono (exD.trans E3)).wipe vs
      dsimp only at q2
      cases hg' : f v (wipeC c vs) h1 with
      | none => rw [hg'] at q2; exact q2.elim
      | some c3 =>
        rw [hg'] at q2
        refine gs p ρ3 v x (wipeC c vs) (wipe σ vs) c3 h1 H' r3 rs3 rv3 hg' _ fun σ3 rs3 bt => ⟨?_, p, ρ3, c3, h1, r3, rs3, ?_⟩
        · rw [bt vs hsl, wipe_wipe]
        · have q3 := Post.mono e3 q2
          dsimp only at q3
          cases ht' : mt p.ns c3 h1 with
          | st => rw [ht'] at q3; exact q3.elim
          | ex c4 u4 h4 => rw [ht'] at q3; exact q3.elim
          | ok k h2 =>
            rw [ht'] at q3
            rintro ρ4 k' H4 e4 r4 rfl
            dsimp only at q3
            cases k with
            | false =>
              rw [if_neg Bool.false_ne_true]
              rw [if_neg Bool.false_ne_true] at q3
              exact ⟨ρ4, h2, E3.trans e4, r4, Post.mono e4 q3⟩
            | true =>
              rw [if_pos rfl]
              rw [if_pos rfl] at q3
              refine ⟨p, ρ4, c3, h2, r4, rs3.mono e4, ?_⟩
              have q4 := Post.mono e4 q3
              cases he' : me p.ns c3 h2 with
              | st => rw [he'] at q4; exact q4.elim
              | ex c4 u4 h4 => rw [he'] at q4; exact q4.elim
              | ok y h3 =>
                rw [he'] at q4
                rintro ρ5 z H5 e5 r5 rz
                dsimp only at q4
                split at q4
                · rename_i acc hacc
                  have aD := pre_at (E3.trans (e4.trans e5)) atD
                  obtain ⟨u, hu, ys, rfl, ry⟩ := r5.at_ aD hacc
                  split at q4
                  · rename_i hb
                    refine ⟨ys, hu, by rw [← Prd.len ry]; exact lineB_ok hb, ρ5, _, E3.trans (e4.trans e5), r5.write (c := .lst (acc ++ [y])) aD ⟨_, rfl, Prd.append ry (.cons rz .nil)⟩, Post.mono e5 q4⟩
                  · exact q4.elim
                · exact q4.elim
variable {elt tg iter : Expr} {ifs : List Expr} {scope : Scope} {own : List (Str × Nat)} {mi : MI} {g : TG} {f : GC} {mt : MT} {sl : List Nat}
theorem xlc (fuel : Nat) (hN : X.N.Nodup) (hi : PI X tg iter (tI X.K cl W mi)) (ok : blkC X.N X.env.scope scope own = true)
    (hg : ∀ (s : Shared) (H : Hp) (C : Addr) (cl : List (Str × Addr)) (fp : List Addr), PG (X.blk s H scope (compEnvC scope cl C X.env) fp) tg g) (gs : GS X.K g f sl) (hsl : ∀ i ∈ sl, i ∈ own.map (·.2))
    (ht : ∀ (s : Shared) (H : Hp) (C : Addr) (cl' : List (Str × Addr)) (fp : List Addr), PTs (X.blk s H scope (compEnvC scope cl' C X.env) fp) ifs (tT X.K cl W0 mt))
    (he : ∀ (s : Shared) (H : Hp) (C : Addr) (cl' : List (Str × Addr)) (fp : List Addr), PE (X.blk s H scope (compEnvC scope cl' C X.env) fp) elt (tE X.K cl W0 me)) (hc : X.calm = true := by rfl) (hs : ∀ x, foldedSetIterable iter X.env x = pure x := by intro _; rfl) :
    PE X (.ListComp elt [⟨tg, iter, ifs, 0⟩] scope pos) (tE X.K cl W (mLc fuel (own.map (·.2)) mi f mt me)) :=
  xe_of (pe_lc hc hN hi (blkOk_by ok) hg ht he hs) fun p ρ c ch σ H Q rl rs q => lc_run gs hsl rl rs q
theorem xs_setLc (fuel : Nat) (i : Nat) {y : Str} {py spos : Pos} (hN : X.N.Nodup) (hsw : swapsWith (.ListComp elt [⟨tg, iter, ifs, 0⟩] scope pos) (some (.Name y py)) spos.line X.env = pure true) (hi : PI X tg iter (tI X.K cl W mi)) (ok : blkC X.N X.env.scope scope own = true)
    (hg : ∀ (s : Shared) (H : Hp) (C : Addr) (cl : List (Str × Addr)) (fp : List Addr), PG (X.blk s H scope (compEnvC scope cl C X.env) fp) tg g) (gs : GS X.K g f sl) (hsl : ∀ i ∈ sl, i ∈ own.map (·.2))
    (ht : ∀ (s : Shared) (H : Hp) (C : Addr) (cl' : List (Str × Addr)) (fp : List Addr), PTs (X.blk s H scope (compEnvC scope cl' C X.env) fp) ifs (tT X.K cl W0 mt))
    (he : ∀ (s : Shared) (H : Hp) (C : Addr) (cl' : List (Str × Addr)) (fp : List Addr), PE (X.blk s H scope (compEnvC scope cl' C X.env) fp) elt (tE X.K cl W0 me)) (hy : X.N[i]? = some y := by rfl) (hyl : X.env.scope.names.lookup y = some .local := by rfl) (hc : X.calm = true := by rfl) (hs : ∀ x, foldedSetIterable iter X.env x = pure x := by intro _; rfl) :
    PS X (.Assign [.Name y py] (.ListComp elt [⟨tg, iter, ifs, 0⟩] scope pos) spos) (tS X.K cl W (mSet i (mLc fuel (own.map (·.2)) mi f mt me))) := by
  refine xs_of (ps_setLc hc hN hy hyl hsw hi (blkOk_by ok) hg ht he hs) fun p ρ c ch D σ H rl rs q => ?_
  refine lc_run (fuel := fuel) gs hsl rl rs (Post.imp ?_ (Post.stm q))
  rintro x H1 ⟨ρ1, v1, ch1, e1, r1, rv1, q1⟩
  exact nxt q1 r1 ((rs.mono e1).set i rv1)
end
end Xq
end

section
set_option Elab.async false
set_option linter.all false
set_option maxRecDepth 100000
set_option maxHeartbeats 2000000
namespace Xq
open PySem PySem.Spec PyProof.Rows L2
section
variable {prog : Program} {w : World} {A : Around} {E : Value → Shared → Prop} {s : Shared} {l : Addr} {its : List Value} {ns : List Int} {Q : Value → Shared → Prop}
theorem sum_rawT (hh : A.handled = none) (hl : s.heap.IsTuple l its.toArray) (hi : IntsAre its ns)
    (h : ∀ h' tk t', (∀ b o, s.heap.get? b = some o → h'.get? b = some o) → Q (.int ns.sum t') { s with heap := h', toks := tk }) : wpAny (model prog w) A (call (.builtin "sum") [.ref l]) Q E s := by
  obtain ⟨xs, e⟩ := hi.allInts.items
  have hn : numsOf (intItems xs).toList = ns := by rw [← e]; exact hi.numsOf
  rw [nums_intItems] at hn
  rw [e] at hl
  have hlt : l < s.heap.objs.size := by obtain ⟨_, e, _⟩ := hl; exact Heap.lt_size e
  refine call_sum_walkG (wpAny_pyIter_tuple hl ?_)
  refine ⟨_, _, _, _, _, _, numAt xs, rfl, Walks.tuple (A := A.in1) hh _ l (Nat.ne_of_lt hlt) (intItems xs), ⟨⟨_, Heap.get?_push_size _ rfl, rfl, rfl⟩, hl.push _⟩, fun b hb => ?_, (fun _ _ => intItems_at), fun h' tk t' hk => ?_⟩
  · show b < (s.heap.push _).objs.size
    rw [Heap.size_push]
    rcases List.mem_cons.mp hb with rfl | hb
    · exact Nat.lt_succ_self _
    · rcases List.mem_cons.mp hb with rfl | hb
      · exact Nat.lt_succ_of_lt hlt
      · cases hb
  · have := h h' tk t' fun b o e => by
      refine hk b o (fun hm => ?_) (Heap.get?_push_of_some _ e)
      rcases List.mem_cons.mp hm with e1 | hm
      · exact absurd (e1 ▸ Heap.lt_size e) (Nat.lt_irrefl _)
      · cases hm
    have e2 : preSum (numAt xs) (intItems xs).size = ns.sum := by
      have z : (intItems xs).size = xs.size := by simp [intItems]
      rw [z, preSum_eq, List.take_of_length_le (by simp), hn]
    rw [e2]; exact this
end
section
variable {X : Cx} {cl : Nat → Value} {W : WX} {K : PySem.W.Frag}
def rSumT (K : PySem.W.Frag) : List V → Hp → VK → Prop := fun vs H Q => ∃ (a : Addr) (ns : List Int), vs = [V.ref a] ∧ SqT K H a (ns.map V.int) ∧ Q (.int ns.sum) H
theorem cr_sumT (hc : X.calm = true) : CallR X (.builtin "sum") (rSumT X.K) := by
  intro pins s σ H vs us Q I r h
  obtain ⟨a, ns, rfl, hs, q⟩ := h
  obtain ⟨its, rv, hl, _⟩ := I.tuple hs
  rw [Vals.ref1 r]
  exact sum_rawT (I.ok.hd hc) hl rv.ints fun h' tk t' hk => ⟨.int _, H, I.kept hk, ⟨_, rfl⟩, q⟩
def fSumT : FC := fun _ xs h => match xs with
  | [x] => match tupC h x with
    | some ys => match intsC ys with
      | some l => .ok (.int l.sum) h
      | none => .st
    | none => .st
  | _ => .st
theorem sSumT : CallS K (rSumT K) fSumT := by
  intro cl p ρ W Q vs cs ch H rl rc q
  unfold fSumT at q
  split at q
  · obtain ⟨y, rfl, ry⟩ := Prd.one rc
    split at q
    · rename_i ys hl
      obtain ⟨a, zs, rfl, hq, r⟩ := tupC_ok hl rl ry
      split at q
      · rename_i l hi
        have e := intsC_ok hi
        subst e
        have e2 := Prd.ints r
        subst e2
        exact ⟨a, l, rfl, SqT.of hq, here q rl rfl⟩
      · exact q.elim
    · exact q.elim
  · exact q.elim
/-! ### zip of two lists -/
def nxZ (ns : List Int) (v u : CV) : IN := fun i h => match lstC ns h v, lstC ns h u with
  | some xs, some ys => match xs[i]?, ys[i]? with
    | some x, some y => .item (.ref h.length) (h ++ [.tup [x, y]])
    | _, _ => .stop
  | _, _ => .st
theorem zip_iter {p : Pa} {ρ : List Addr} {v u : CV} {a b : Addr} (rv : RC p ρ v (.ref a)) (ru : RC p ρ u (.ref b)) : ItS K p ρ (nxZ p.ns v u) (Itz K a b) := by
  intro ρ' ch H i e r
  unfold nxZ
  cases hl : lstC p.ns ch v with
  | none => exact True.intro
  | some xs =>
    cases hm : lstC p.ns ch u with
    | none => exact True.intro
    | some ys =>
      obtain ⟨a', zs, ea, hz, rz⟩ := lstC_ok hl r (rv.mono e)
      cases ea
      obtain ⟨b', ws, eb, hw, rw'⟩ := lstC_ok hm r (ru.mono e)
      cases eb
      dsimp only
      cases hx : xs[i]? with
      | none =>
        refine ⟨zs, ws, hz, hw, .inl ?_⟩
        rw [← Prd.len rz]
        exact List.getElem?_eq_none_iff.mp hx
      | some x =>
        cases hy : ys[i]? with
        | none =>
          refine ⟨zs, ws, hz, hw, .inr ?_⟩
          rw [← Prd.len rw']
          exact List.getElem?_eq_none_iff.mp hy
        | some y =>
          obtain ⟨x', hx', rx⟩ := Prd.get rz hx
          obtain ⟨y', hy', ry⟩ := Prd.get rw' hy
          refine ⟨⟨zs, ws, x', y', hz, hw, hx', hy'⟩, ?_⟩
          rintro z H' ⟨T, x2, y2, rfl, nT, rfl, q1, q2⟩
          have e1 := q1 zs hz
          have e2 := q2 ws hw
          rw [hx'] at e1
          rw [hy'] at e2
          cases e1
          cases e2
          have ex : ρ' <+: ρ' ++ [T] := List.prefix_append _ _
          exact ⟨ρ' ++ [T], ex, r.alloc nT ⟨_, rfl, .cons rx (.cons ry .nil)⟩, T, by rw [← r.len]; simp, rfl⟩
def mIZip (a b : ME) : MI := fun ns c h => (a ns c h).bind fun x h1 => (b ns c h1).bind fun y h2 => match lstC ns h2 x, lstC ns h2 y with
  | some _, some _ => .ok (nxZ ns x y) h2
  | _, _ => .st
theorem xi_zip {a b : Expr} {ma mb : ME} {p pos tpos : Pos} {elts : List Expr} {kk : Nat} (hm : X.mg "zip" = none) (ha : PE X a (tE X.K cl W ma)) (hb : PE X b (tE X.K cl W mb)) (hg : Gl X "zip" := by rfl)
    (hs : starEach [a, b] X.env = (false, eval a X.env) :: starEach [b] X.env := by rfl) (hpl : (backTo pos (starEach [b] X.env)).any (·.1) = false := by rfl)
    (hs' : starEach (b :: []) X.env = (false, eval b X.env) :: starEach [] X.env := by rfl) : PI X (.Tuple elts kk tpos) (.Call (.Name "zip" p) [a, b] [] pos) (tI X.K cl W (mIZip ma mb)) := by
  refine pi_imp (pi_zip hg hm (pa_cons ha (pa_cons hb pa_nil hs') hs) hs hpl) fun σ H R ⟨p, ρ, c, ch, rl, rs, q⟩ => ?_
  refine ⟨p, ρ, c, ch, rl, rs, Post.imp ?_ (Post.bind q)⟩
  rintro x H1 ⟨ρ1, v1, ch1, e1, r1, rv1, q1⟩
  refine ⟨p, ρ1, c, ch1, r1, rs.mono e1, Post.imp ?_ (Post.bind q1)⟩
  rintro y H2 ⟨ρ2, v2, ch2, e2, r2, rv2, q2⟩
  split at q2
  · rename_i xs ys hl hm'
    obtain ⟨a', zs, rfl, hz, rz⟩ := lstC_ok hl r2 (rv1.mono e2)
    obtain ⟨b', ws, rfl, hw, rw'⟩ := lstC_ok hm' r2 rv2
    exact ⟨a', b', zs, ws, rfl, hz, hw, here q2 r2 (zip_iter (rv1.mono e2) rv2)⟩
  · exact q2.elim
/-- code that no run comes to -/
def mStop : MS := fun _ _ _ => .st
theorem xs_never {st : Stmt} : PS X st (tS X.K cl W mStop) := ps_imp ps_never fun D σ H ⟨_, _, _, _, _, _, q⟩ => q
end
end Xq
end

section
set_option Elab.async false
set_option linter.all false
set_option maxRecDepth 100000
set_option maxHeartbeats 2000000
/-! runs in plain Lean: what loops come to, places -/
namespace Xq
open PySem L2
theorem atI_int {α : Type} {xs : List α} {i : Int} {v : α} (h0 : 0 ≤ i) (h : xs[i.toNat]? = some v) : atI xs i = some v := by
  have e : i = (i.toNat : Int) := by omega
  rw [e]
  exact atI_nat h
theorem atI_nth {α : Type} {xs : List α} {i : Int} (d : α) (h0 : 0 ≤ i) (h : i < xs.length) : atI xs i = some (xs.getD i.toNat d) := by
  refine atI_int h0 ?_
  have z : i.toNat < xs.length := by omega
  rw [List.getElem?_eq_getElem z]
  simp [List.getD, z]
theorem lstC_ref {ns : List Int} {h : CH} {n : Nat} {xs : List CV} (e : h[n]? = some (.lst xs)) : lstC ns h (.ref n) = some xs := by
  show (match h[n]? with
    | some (.lst xs) => some xs
    | _ => none) = some xs
  rw [e]
theorem ownL_ref {h : CH} {n : Nat} {xs : List CV} (e : h[n]? = some (.lst xs)) : ownL h (.ref n) = some xs := by
  show (match h[n]? with
    | some (.lst xs) => some xs
    | _ => none) = some xs
  rw [e]
theorem tupC_ref {h : CH} {n : Nat} {xs : List CV} (e : h[n]? = some (.tup xs)) : tupC h (.ref n) = some xs := by
  show (match h[n]? with
    | some (.tup xs) => some xs
    | _ => none) = some xs
  rw [e]
theorem lstC_tup {ns : List Int} {h : CH} {n : Nat} {xs : List CV} (e : h[n]? = some (.tup xs)) : lstC ns h (.ref n) = none := by
  show (match h[n]? with
    | some (.lst xs) => some xs
    | _ => none) = none
  rw [e]
theorem fIxL_at {ns : List Int} {h : CH} {n : Nat} {xs : List CV} {i : Int} {v : CV} (e : h[n]? = some (.lst xs)) (a : atI xs i = some v) : fIxL ns (.ref n) (.int i) h = .ok v h := by
  unfold fIxL
  rw [lstC_ref e]
  dsimp only
  rw [a]
theorem fIxL_scr {ns : List Int} {h : CH} {i : Int} {v : CV} (a : atI (ns.map CV.int) i = some v) : fIxL ns .scr (.int i) h = .ok v h := by
  unfold fIxL lstC
  dsimp only
  rw [a]
theorem fIxT_at {ns : List Int} {h : CH} {n : Nat} {xs : List CV} {i : Int} {v : CV} (e : h[n]? = some (.tup xs)) (a : atI xs i = some v) : fIxT ns (.ref n) (.int i) h = .ok v h := by
  unfold fIxT
  rw [tupC_ref e]
  dsimp only
  rw [a]
theorem fLen_lst {ns : List Int} {h : CH} {n : Nat} {xs : List CV} (e : h[n]? = some (.lst xs)) : fLen ns [.ref n] h = .ok (.int xs.length) h := by
  unfold fLen
  dsimp only
  rw [lstC_ref e]
theorem fLen_tup {ns : List Int} {h : CH} {n : Nat} {xs : List CV} (e : h[n]? = some (.tup xs)) : fLen ns [.ref n] h = .ok (.int xs.length) h := by
  unfold fLen
  dsimp only
  rw [lstC_tup e, tupC_ref e]
theorem fLen_scr {ns : List Int} {h : CH} : fLen ns [.scr] h = .ok (.int ns.length) h := by
  unfold fLen lstC
  simp
theorem fListOf_lst {ns : List Int} {h : CH} {n : Nat} {xs : List CV} (e : h[n]? = some (.lst xs)) : fListOf ns [.ref n] h = .ok (.ref h.length) (h ++ [.lst xs]) := by
  unfold fListOf
  dsimp only
  rw [lstC_ref e]; rfl
theorem fTupOf_lst {ns : List Int} {h : CH} {n : Nat} {xs : List CV} (e : h[n]? = some (.lst xs)) : fTupOf ns [.ref n] h = .ok (.ref h.length) (h ++ [.tup xs]) := by
  unfold fTupOf
  dsimp only
  rw [lstC_ref e]; rfl
theorem lineB_of {n : Nat} (l : n ≤ 1000000) : lineB n = true := Nat.ble_eq_true_of_le l
theorem fAppend_at {h : CH} {n : Nat} {xs : List CV} {y : CV} (e : h[n]? = some (.lst xs)) (l : xs.length ≤ 1000000) : fAppend (.ref n) [y] h = .ok .non (h.set n (.lst (xs ++ [y]))) := by
  unfold fAppend
  rw [ownL_ref e]
  dsimp only
  rw [if_pos (lineB_of l)]
theorem isL_at {h : CH} {n : Nat} {xs : List CV} (e : h[n]? = some (.lst xs)) : isL h (.ref n) = true := by
  unfold isL
  rw [ownL_ref e]
theorem setC_at {h : CH} {n : Nat} {xs : List CV} {i : Int} {v : CV} (e : h[n]? = some (.lst xs)) (h0 : 0 ≤ i) (h1 : i < xs.length) : setC (.ref n) (.int i) v h = some (h.set n (.lst (xs.set i.toNat v))) := by
  unfold setC
  rw [ownL_ref e]
  dsimp only
  unfold ixN
  rw [if_pos h0, if_pos h1]
theorem len_new {h : CH} {o : CO} : (h ++ [o])[h.length]? = some o := by simp
theorem pre_get {h h' : CH} {n : Nat} {o : CO} (p : h <+: h') (e : h[n]? = some o) : h'[n]? = some o := by
  obtain ⟨t, rfl⟩ := p
  have z := (List.getElem?_eq_some_iff.mp e).1
  rw [List.getElem?_append_left z]; exact e
theorem pre_new {h h' : CH} {o : CO} (p : h <+: h') : h <+: h' ++ [o] := p.trans (List.prefix_append _ _)
theorem pre_set {h h' : CH} {n : Nat} {o : CO} (p : h <+: h') (l : h.length ≤ n) : h <+: h'.set n o := by
  obtain ⟨t, rfl⟩ := p
  rw [List.set_append_right _ _ l]
  exact List.prefix_append _ _
theorem pre_len {h h' : CH} (p : h <+: h') : h.length ≤ h'.length := p.length_le
theorem get_lt {h : CH} {n : Nat} {o : CO} (e : h[n]? = some o) : n < h.length := (List.getElem?_eq_some_iff.mp e).1
theorem set_get {h : CH} {n : Nat} {o o' : CO} (e : h[n]? = some o) : (h.set n o')[n]? = some o' := List.getElem?_set_self (get_lt e)
theorem set_ne {h : CH} {n m : Nat} {o o' : CO} (e : h[m]? = some o) (d : n ≠ m) : (h.set n o')[m]? = some o := by
  rw [List.getElem?_set_ne d]; exact e
theorem intsC_map : ∀ l : List Int, intsC (l.map CV.int) = some l
  | [] => rfl
  | i :: r => by
    show (match intsC (r.map CV.int) with
      | some l => some (i :: l)
      | none => none) = some (i :: r)
    rw [intsC_map r]

/-! ### for over range(n) -/
theorem nxR_lt {lo : Int} {n i : Nat} {h : CH} (l : i < n) : nxR lo n i h = .item (.int (lo + i)) h := by
  unfold nxR
  rw [if_pos (by simpa [Nat.blt_eq] using l)]
theorem nxR_ge {lo : Int} {n i : Nat} {h : CH} (l : ¬ i < n) : nxR lo n i h = .stop := by
  unfold nxR
  rw [if_neg (by simpa [Nat.blt_eq] using l)]
theorem loopN_nx {N : IN} {g : GC} {b : CS → CH → SO} {n : Nat} (I : Nat → CS → CH → Prop)
    (stop : ∀ c h, I n c h → N n h = .stop)
    (step : ∀ i c h, i < n → I i c h → ∃ v h1 c1 c' h', N i h = .item v h1 ∧ g v c h1 = some c1 ∧ b c1 h1 = .nx c' h' ∧ I (i + 1) c' h') :
    ∀ (k f i : Nat) (c : CS) (h : CH), i + k = n → k < f → I i c h → ∃ c' h', loopN N g b f i c h = .nx c' h' ∧ I n c' h'
  | 0, f + 1, i, c, h, e, hf, q => by
    have e : i = n := e
    subst e
    refine ⟨c, h, ?_, q⟩
    unfold loopN
    rw [stop c h q]
  | k + 1, f + 1, i, c, h, e, hf, q => by
    obtain ⟨v, h1, c1, c', h', e1, e2, e3, q'⟩ := step i c h (by omega) q
    obtain ⟨c2, h2, e4, q2⟩ := loopN_nx I stop step k f (i + 1) c' h' (by omega) (by omega) q'
    refine ⟨c2, h2, ?_, q2⟩
    unfold loopN
    rw [e1]
    dsimp only
    rw [e2]
    dsimp only
    rw [e3]
    exact e4
  | k, 0, _, _, _, _, hf, _ => absurd hf (Nat.not_lt_zero _)
theorem forR {b : CS → CH → SO} {lo : Int} {n s f : Nat} {c : CS} {h : CH} (I : Nat → CS → CH → Prop) (hf : n < f) (h0 : I 0 c h)
    (step : ∀ i c h, i < n → I i c h → ∃ c' h', b (c.set s (some (.int (lo + i)))) h = .nx c' h' ∧ I (i + 1) c' h') : ∃ c' h', loopN (nxR lo n) (gN s) b f 0 c h = .nx c' h' ∧ I n c' h' :=
  loopN_nx I (fun c h _ => nxR_ge (Nat.lt_irrefl n)) (fun i c h hi q => let ⟨c', h', e, q'⟩ := step i c h hi q; ⟨_, _, _, c', h', nxR_lt hi, rfl, e, q'⟩) n f 0 c h (by omega) hf h0
theorem nxL_at {ns : List Int} {h : CH} {v : CV} {xs : List CV} {i : Nat} {x : CV} (e : lstC ns h v = some xs) (hx : xs[i]? = some x) : nxL ns v i h = .item x h := by
  unfold nxL
  rw [e]
  dsimp only
  rw [hx]
theorem nxL_end {ns : List Int} {h : CH} {v : CV} {xs : List CV} {i : Nat} (e : lstC ns h v = some xs) (hx : xs.length ≤ i) : nxL ns v i h = .stop := by
  unfold nxL
  rw [e]
  dsimp only
  rw [List.getElem?_eq_none_iff.mpr hx]
theorem forL {ns : List Int} {v : CV} {xs : List CV} {b : CS → CH → SO} {s f : Nat} {c : CS} {h : CH} (I : Nat → CS → CH → Prop) (hf : xs.length < f) (h0 : I 0 c h) (hl : ∀ i c h, I i c h → lstC ns h v = some xs)
    (step : ∀ i c h x, xs[i]? = some x → I i c h → ∃ c' h', b (c.set s (some x)) h = .nx c' h' ∧ I (i + 1) c' h') : ∃ c' h', loopN (nxL ns v) (gN s) b f 0 c h = .nx c' h' ∧ I xs.length c' h' :=
  loopN_nx I (fun c h q => nxL_end (hl _ _ _ q) (Nat.le_refl _)) (fun i c h hi q => by
    have hx : xs[i]? = some xs[i] := List.getElem?_eq_getElem hi
    obtain ⟨c', h', e, q'⟩ := step i c h _ hx q
    exact ⟨_, _, _, c', h', nxL_at (hl _ _ _ q) hx, rfl, e, q'⟩) xs.length f 0 c h (by omega) hf h0
/-- with a way out -/
theorem loopN_rt {N : IN} {g : GC} {b : CS → CH → SO} {n : Nat} (I : Nat → CS → CH → Prop) (R : SO → Prop) (hR : ∀ o, R o → (∃ v h, o = .rt v h) ∨ ∃ c v h, o = .ex c v h)
    (stop : ∀ c h, I n c h → N n h = .stop)
    (step : ∀ i c h, i < n → I i c h → ∃ v h1 c1, N i h = .item v h1 ∧ g v c h1 = some c1 ∧ ((∃ c' h', b c1 h1 = .nx c' h' ∧ I (i + 1) c' h') ∨ R (b c1 h1))) :
    ∀ (k f i : Nat) (c : CS) (h : CH), i + k = n → k < f → I i c h → (∃ c' h', loopN N g b f i c h = .nx c' h' ∧ I n c' h') ∨ R (loopN N g b f i c h)
  | 0, f + 1, i, c, h, e, hf, q => by
    have e : i = n := e
    subst e
    refine .inl ⟨c, h, ?_, q⟩
    unfold loopN
    rw [stop c h q]
  | k + 1, f + 1, i, c, h, e, hf, q => by
    obtain ⟨v, h1, c1, e1, e2, q'⟩ := step i c h (by omega) q
    have un : loopN N g b (f + 1) i c h = match b c1 h1 with
        | .nx c2 h2 => loopN N g b f (i + 1) c2 h2
        | .ct c2 h2 => loopN N g b f (i + 1) c2 h2
        | .bk c2 h2 => .nx c2 h2
        | o => o := by
      conv => lhs; unfold loopN
      rw [e1]
      dsimp only
      rw [e2] <;> rfl
    rw [un]
    rcases q' with ⟨c', h', e3, q'⟩ | q'
    · rw [e3]
      exact loopN_rt I R hR stop step k f (i + 1) c' h' (by omega) (by omega) q'
    · rcases hR _ q' with ⟨v, h', e3⟩ | ⟨d, v, h', e3⟩
      · rw [e3] at q' ⊢
        exact .inr q'
      · rw [e3] at q' ⊢
        exact .inr q'
  | k, 0, _, _, _, _, hf, _ => absurd hf (Nat.not_lt_zero _)
theorem forR_rt {b : CS → CH → SO} {lo : Int} {n s f : Nat} {c : CS} {h : CH} (I : Nat → CS → CH → Prop) (R : SO → Prop) (hR : ∀ o, R o → (∃ v h, o = .rt v h) ∨ ∃ c v h, o = .ex c v h) (hf : n < f) (h0 : I 0 c h)
    (step : ∀ i c h, i < n → I i c h → (∃ c' h', b (c.set s (some (.int (lo + i)))) h = .nx c' h' ∧ I (i + 1) c' h') ∨ R (b (c.set s (some (.int (lo + i)))) h)) :
    (∃ c' h', loopN (nxR lo n) (gN s) b f 0 c h = .nx c' h' ∧ I n c' h') ∨ R (loopN (nxR lo n) (gN s) b f 0 c h) :=
  loopN_rt I R hR (fun c h _ => nxR_ge (Nat.lt_irrefl n)) (fun i c h hi q => ⟨_, _, _, nxR_lt hi, rfl, step i c h hi q⟩) n f 0 c h (by omega) hf h0
/-! ### comprehensions -/
theorem loopC_run {N : IN} {g : GC} {t : CS → CH → Ou Bool} {e : CS → CH → Ou CV} {cw : CS} {d n : Nat} (I : Nat → CH → List CV → Prop)
    (stop : ∀ h acc, I n h acc → N n h = .stop)
    (step : ∀ i h acc, i < n → h[d]? = some (.lst acc) → I i h acc → ∃ v h1 c1 h2 y h3, N i h = .item v h1 ∧ g v cw h1 = some c1 ∧ t c1 h1 = .ok true h2 ∧ e c1 h2 = .ok y h3 ∧ h3[d]? = some (.lst acc) ∧ acc.length ≤ 1000000 ∧ I (i + 1) (h3.set d (.lst (acc ++ [y]))) (acc ++ [y])) :
    ∀ (k f i : Nat) (h : CH) (acc : List CV), i + k = n → k < f → h[d]? = some (.lst acc) → I i h acc → ∃ h' acc', loopC N g t e cw d f i h = .ok (.ref d) h' ∧ h'[d]? = some (.lst acc') ∧ I n h' acc'
  | 0, f + 1, i, h, acc, en, hf, hd, q => by
    have en : i = n := en
    subst en
    refine ⟨h, acc, ?_, hd, q⟩
    unfold loopC
    rw [stop h acc q]
  | k + 1, f + 1, i, h, acc, en, hf, hd, q => by
    obtain ⟨v, h1, c1, h2, y, h3, e1, e2, e3, e4, e5, e6, q'⟩ := step i h acc (by omega) hd q
    obtain ⟨h', acc', z1, z2, z3⟩ := loopC_run I stop step k f (i + 1) _ _ (by omega) (by omega) (set_get e5) q'
    refine ⟨h', acc', ?_, z2, z3⟩
    unfold loopC
    rw [e1]
    dsimp only
    rw [e2]
    dsimp only
    rw [e3]
    dsimp only
    rw [if_pos rfl, e4]
    dsimp only
    rw [e5]
    dsimp only
    rw [if_pos (lineB_of e6)]
    exact z1
  | k, 0, _, _, _, _, hf, _, _ => absurd hf (Nat.not_lt_zero _)
/-- a comprehension over a range whose element leaves the heap's old part -/
theorem lcR {ns : List Int} {c : CS} {vs : List Nat} {e : ME} {s n f : Nat} {lo : Int} {h0 : CH} {it : MI} (hi : it ns c h0 = .ok (nxR lo n) h0) (hf : n < f) (hn : n ≤ 1000000) (y : Nat → CV) (P : CH → Prop)
    (h0P : P (h0 ++ [.lst []])) (hs : ∀ h o, P h → h.length > h0.length → P (h.set h0.length o))
    (he : ∀ i h, i < n → h0.length < h.length → P h → ∃ h', e ns ((wipeC c vs).set s (some (.int (lo + i)))) h = .ok (y i) h' ∧ h <+: h' ∧ P h') :
    ∃ h', mLc f vs it (gN s) mYes e ns c h0 = .ok (.ref h0.length) h' ∧ h'[h0.length]? = some (.lst ((List.range n).map y)) ∧ P h' := by
  unfold mLc
  rw [hi]
  show ∃ h', loopC (nxR lo n) (gN s) (mYes ns) (e ns) (wipeC c vs) h0.length f 0 (h0 ++ [.lst []]) = .ok (.ref h0.length) h' ∧ h'[h0.length]? = some (.lst ((List.range n).map y)) ∧ P h'
  obtain ⟨h', acc', z1, z2, z3, z4⟩ := loopC_run (N := nxR lo n) (g := gN s) (t := mYes ns) (e := e ns) (cw := wipeC c vs) (d := h0.length) (n := n)
    (fun i h acc => acc = (List.range i).map y ∧ P h) (fun h acc _ => nxR_ge (Nat.lt_irrefl n)) (fun i h acc hi hd q => by
      obtain ⟨rfl, p⟩ := q
      obtain ⟨h', e1, e2, p'⟩ := he i h hi (get_lt hd) p
      refine ⟨_, _, _, _, _, h', nxR_lt hi, rfl, rfl, e1, pre_get e2 hd, by simp; omega, by rw [List.range_succ, List.map_append]; rfl, hs _ _ p' (Nat.lt_of_lt_of_le (get_lt hd) (pre_len e2))⟩)
    n f 0 _ [] (by omega) hf len_new ⟨rfl, h0P⟩
  refine ⟨h', z1, ?_, z4⟩
  rw [z2, z3]
theorem wipe1 (c : CS) (i : Nat) : wipeC c [i] = c.set i none := rfl
end Xq
end

section
set_option Elab.async false
set_option linter.all false
set_option maxRecDepth 100000
namespace K15
open PySem L2 Xq
def FUEL : Nat := 100000
/-! ### is_whole -/
def m_is_whole : MF := mDef 1 1
    (mSeq (mIf (mOrT (mTst (mOp fIsB (mVar 0) (mC (.bl true)))) (mTst (mOp fIsB (mVar 0) (mC (.bl false))))) (mRet (mC (.bl false))) mNext)
    (mRet (mIsi "int" (mVar 0))))
/-! ### is_sign -/
def m_is_sign : MF := mDef 2 2
    (mRet (mAndV (mCall m_is_whole [] (mCons (mVar 0) mNil)) (mChain fLe fLt (mC (.int 0)) (mVar 0) (mVar 1))))
/-! ### ask_word -/
def m_ask_word_b1 : MS := (mIf (mNotT (mTst (mCall m_is_sign [] (mCons (mIx fIxL (mVar 0) (mVar 3)) (mCons (mVar 1) mNil))))) mStop mNext)
def m_ask_word : MF := mDef 3 4
    (mSeq (mFor FUEL (mIR1 (mArg fLen (mCons (mVar 0) mNil))) (gN 3) m_ask_word_b1)
    (mIf (mTst (mOp fLt (mArg fLen (mCons (mVar 0) mNil)) (mVar 2))) mStop mNext))
/-! ### value -/
def m_value_b1 : MS := (mSet 2 (mOp fAdd (mOp fMul (mVar 2) (mVar 1)) (mVar 3)))
def m_value : MF := mDef 2 4
    (mSeq (mSet 2 (mC (.int 0)))
    (mSeq (mFor FUEL (mIList (mVar 0)) (gN 3) m_value_b1)
    (mRet (mVar 2))))
/-! ### exponent -/
def m_exponent_b1 : MS := (mSeq (mSet 3 (mOp fMul (mVar 3) (mVar 0)))
    (mAug 2 fAdd (mC (.int 1))))
def m_exponent : MF := mDef 2 4
    (mSeq (mSet 2 (mC (.int 1)))
    (mSeq (mSet 3 (mVar 0))
    (mSeq (mWhile FUEL (mTst (mOp fLt (mVar 3) (mVar 1))) m_exponent_b1)
    (mSeq (mIf (mTst (mOp fEq (mVar 3) (mVar 1))) (mRet (mVar 2)) mNext)
    (mRet (mC (.int 0)))))))
/-! ### places -/
def m_places : MF := mDef 1 1
    (mRet (mCall m_exponent [] (mCons (mIx fIxT (mVar 0) (mC (.int 0))) (mCons (mArg fLen (mCons (mIx fIxT (mVar 0) (mC (.int 2))) mNil)) mNil))))
/-! ### sign_told -/
def m_sign_told : MF := mDef 2 2
    (mRet (mIx fIxT (mIx fIxT (mVar 0) (mC (.int 2))) (mCall m_value [] (mCons (mVar 1) (mCons (mIx fIxT (mVar 0) (mC (.int 0))) mNil)))))
/-! ### led_ring -/
def m_led_ring_e1 : ME := (mIx fIxL (mVar 1) (mOp fMod (mOp fAdd (mOp fAdd (mVar 4) (mVar 6)) (mVar 8)) (mVar 3)))
def m_led_ring_b2 : MS := (mSeq (mSet 7 (mLc FUEL [8] (mIR1 (mVar 2)) (gN 8) mYes m_led_ring_e1))
    (mDrop (mBM fAppend (mVar 5) (mCons (mCall m_sign_told [] (mCons (mVar 0) (mCons (mVar 7) mNil))) mNil))))
def m_led_ring : MF := mDef 2 9
    (mSeq (mDrop (mCall m_ask_word [] (mCons (mVar 1) (mCons (mIx fIxT (mVar 0) (mC (.int 0))) (mCons (mC (.int 1)) mNil)))))
    (mSeq (mSet 2 (mCall m_places [] (mCons (mVar 0) mNil)))
    (mSeq (mSet 3 (mArg fLen (mCons (mVar 1) mNil)))
    (mSeq (mSet 4 (mOp fMod (mIx fIxT (mVar 0) (mC (.int 1))) (mVar 3)))
    (mSeq (mSet 5 (mLst mNil))
    (mSeq (mFor FUEL (mIR1 (mVar 3)) (gN 6) m_led_ring_b2)
    (mRet (mVar 5))))))))
/-! ### comes_again -/
def m_comes_again_b1 : MS := (mSeq (mIf (mTst (mDIn (fun k => k) (mArg fTupOf (mCons (mVar 4) mNil)) (mVar 3))) (mSeq (mSet 6 (mDGet (mVar 3) (mArg fTupOf (mCons (mVar 4) mNil))))
    (mRet (mTup (mCons (mVar 6) (mCons (mOp fSub (mVar 5) (mVar 6)) mNil))))) mNext)
    (mSeq (mDPut (mVar 3) (mArg fTupOf (mCons (mVar 4) mNil)) (mVar 5))
    (mSet 4 (mCall m_led_ring [] (mCons (mVar 0) (mCons (mVar 4) mNil))))))
def m_comes_again : MF := mDef 3 7
    (mSeq (mDrop (mCall m_ask_word [] (mCons (mVar 1) (mCons (mIx fIxT (mVar 0) (mC (.int 0))) (mCons (mC (.int 1)) mNil)))))
    (mSeq (mSet 3 mNewT)
    (mSeq (mSet 4 (mArg fListOf (mCons (mVar 1) mNil)))
    (mSeq (mFor FUEL (mIR1 (mOp fAdd (mVar 2) (mC (.int 1)))) (gN 5) m_comes_again_b1)
    (mRet (mC .non))))))
/-! ### _law_whole -/
def m__law_whole : MF := mDef 1 1
    (mRet (mAndV (mIsi "int" (mVar 0)) (mNotV (mIsi "bool" (mVar 0)))))
/-! ### _law_cell_at -/
def m__law_cell_at : MF := mDef 2 2
    (mSeq (mIf (mTst (mOp fLt (mVar 1) (mArg fLen (mCons (mVar 0) mNil)))) (mRet (mIx fIxL (mVar 0) (mVar 1))) mNext)
    (mRet (mC (.int 0))))
/-! ### _law_stream -/
def m__law_stream_b1 : MS := (mSeq (mDrop (mBM fAppend (mVar 2) (mCons (mOp fMod (mVar 3) (mC (.int 306783379))) mNil)))
    (mSet 3 (mOp fDiv (mVar 3) (mC (.int 306783379)))))
def m__law_stream_b2 : MS := (mSeq (mSet 5 (mOp fMod (mOp fAdd (mOp fAdd (mOp fMul (mVar 5) (mC (.int 48271))) (mOp fMul (mVar 4) (mVar 4))) (mC (.int 11))) (mC (.int 2147483647))))
    (mSeq (mSet 6 (mOp fAdd (mOp fAdd (mOp fMul (mOp fDiv (mVar 5) (mC (.int 977))) (mC (.int 16807))) (mOp fMul (mVar 5) (mOp fAdd (mOp fMul (mVar 4) (mVar 4)) (mC (.int 7))))) (mVar 4)))
    (mSetIx (mVar 2) (mVar 4) (mOp fDiv (mOp fMod (mVar 6) (mC (.int 2147483587))) (mC (.int 7))))))
def m__law_stream : MF := mDef 2 7
    (mSeq (mSet 2 (mLst mNil))
    (mSeq (mSet 3 (mVar 0))
    (mSeq (mFor FUEL (mIR1 (mVar 1)) (gN 4) m__law_stream_b1)
    (mSeq (mIf (mTst (mOp fGt (mVar 3) (mC (.int 0)))) (mRet (mVar 2)) mNext)
    (mSeq (mSet 5 (mOp fAdd (mOp fMod (mVar 0) (mC (.int 2147483647))) (mC (.int 48271))))
    (mSeq (mFor FUEL (mIR1 (mVar 1)) (gN 4) m__law_stream_b2)
    (mRet (mVar 2))))))))
/-! ### _law_word -/
def m__law_word_b1 : MS := (mSeq (mSet 3 (mOp fCat (mLst (mCons (mOp fMod (mVar 0) (mVar 1)) mNil)) (mVar 3)))
    (mSet 0 (mOp fDiv (mVar 0) (mVar 1))))
def m__law_word : MF := mDef 3 5
    (mSeq (mSet 3 (mLst mNil))
    (mSeq (mFor FUEL (mIR1 (mVar 2)) (gN 4) m__law_word_b1)
    (mRet (mVar 3))))
/-! ### _law_told -/
def m__law_told_e1 : ME := (mOp fMul (mVar 5) (mOp fMod (mVar 6) (mVar 1)))
def m__law_told : MF := mDef 4 7
    (mSeq (mIf (mTst (mOp fEq (mVar 0) (mC (.int 0)))) (mSeq (mSet 4 (mLc FUEL [5, 6] (mIZip (mVar 2) (mSl fSlL (mVar 3) (mPart (mC (.int 1))) mNo)) (gT2 5 6) mYes m__law_told_e1))
    (mRet (mOp fMod (mOp fAdd (mArg fSum (mCons (mVar 4) mNil)) (mIx fIxL (mVar 3) (mC (.int 0)))) (mVar 1)))) mNext)
    (mSeq (mIf (mTst (mOp fEq (mVar 0) (mC (.int 1)))) (mRet (mOp fMod (mOp fAdd (mIx fIxL (mVar 2) (mOp fMod (mIx fIxL (mVar 3) (mC (.int 0))) (mArg fLen (mCons (mVar 2) mNil)))) (mIx fIxL (mVar 3) (mC (.int 1)))) (mVar 1))) mNext)
    (mRet (mIx fIxL (mLst (mCons (mArg fMax (mCons (mVar 2) mNil)) (mCons (mArg fMin (mCons (mVar 2) mNil)) mNil))) (mOp fMod (mIx fIxL (mVar 3) (mC (.int 0))) (mC (.int 2)))))))
/-! ### _law_table -/
def m__law_table_b1 : MS := (mSet 4 (mOp fMul (mVar 4) (mVar 1)))
def m__law_table_e2 : ME := (mCall m__law_word [] (mCons (mVar 7) (mCons (mVar 1) (mCons (mVar 2) mNil))))
def m__law_table_e3 : ME := (mCall m__law_told [] (mCons (mVar 0) (mCons (mVar 1) (mCons (mVar 8) (mCons (mVar 3) mNil)))))
def m__law_table : MF := mDef 4 9
    (mSeq (mSet 4 (mC (.int 1)))
    (mSeq (mFor FUEL (mIR1 (mVar 2)) (gN 5) m__law_table_b1)
    (mSeq (mSet 6 (mLc FUEL [7] (mIR1 (mVar 4)) (gN 7) mYes m__law_table_e2))
    (mRet (mLc FUEL [8] (mIList (mVar 6)) (gN 8) mYes m__law_table_e3)))))
/-! ### _law_low -/
def m__law_low : MF := mDef 1 1
    (mSeq (mIf (mTst (mOp fEq (mOp fMod (mVar 0) (mC (.int 2))) (mC (.int 1)))) (mRet (mOp fSub (mOp fMod (mOp fDiv (mVar 0) (mC (.int 2))) (mC (.int 19))) (mC (.int 9)))) mNext)
    (mRet (mOp fAdd (mOp fSub (mOp fMod (mOp fDiv (mVar 0) (mC (.int 2))) (mOp fSub (mOp fMul (mC (.int 2)) (mOp fPow (mC (.int 10)) (mC (.int 60)))) (mC (.int 1)))) (mOp fPow (mC (.int 10)) (mC (.int 60)))) (mC (.int 1)))))
/-! ### _law_ring -/
def m__law_ring_e1 : ME := (mOp fMod (mIx fIxL (mVar 4) (mOp fMod (mVar 7) (mVar 5))) (mVar 1))
def m__law_ring_b2 : MS := (mSeq (mSet 8 (mOp fMod (mOp fMul (mVar 7) (mC (.int 7919))) (mVar 2)))
    (mSetIx (mVar 6) (mVar 8) (mOp fMod (mOp fAdd (mIx fIxL (mVar 6) (mVar 8)) (mIx fIxL (mVar 0) (mVar 7))) (mVar 1))))
def m__law_ring : MF := mDef 4 9
    (mSeq (mSet 4 (mCall m__law_stream [] (mCons (mCall m__law_cell_at [] (mCons (mVar 0) (mCons (mC (.int 3)) mNil))) (mCons (mOp fAdd (mVar 2) (mC (.int 2))) mNil))))
    (mSeq (mSet 5 (mVar 2))
    (mSeq (mIf (mTst (mOp fEq (mOp fMod (mIx fIxL (mVar 4) (mUn fNeg (mC (.int 1)))) (mC (.int 3))) (mC (.int 0)))) (mSet 5 (mOp fAdd (mC (.int 1)) (mOp fMod (mIx fIxL (mVar 4) (mUn fNeg (mC (.int 2)))) (mVar 2)))) mNext)
    (mSeq (mSet 6 (mLc FUEL [7] (mIR1 (mVar 2)) (gN 7) mYes m__law_ring_e1))
    (mSeq (mIf (mTst (mOp fEq (mVar 3) (mC (.int 2)))) (mSeq (mSet 6 (mOp fRep (mLst (mCons (mOp fMod (mIx fIxL (mVar 4) (mUn fNeg (mC (.int 2)))) (mVar 1)) mNil)) (mVar 2)))
    (mSetIx (mVar 6) (mOp fMod (mIx fIxL (mVar 4) (mC (.int 0))) (mVar 2)) (mOp fMod (mIx fIxL (mVar 4) (mC (.int 1))) (mVar 1)))) mNext)
    (mSeq (mFor FUEL (mIR2 (mC (.int 5)) (mArg fMin2 (mCons (mArg fLen (mCons (mVar 0) mNil)) (mCons (mC (.int 63)) mNil)))) (gN 7) m__law_ring_b2)
    (mRet (mVar 6))))))))
/-! ### _law_once -/
def m__law_once_b1 : MS := (mSeq (mSet 8 (mOp fMod (mOp fAdd (mOp fAdd (mVar 4) (mVar 5)) (mVar 7)) (mArg fLen (mCons (mVar 2) mNil))))
    (mSet 6 (mOp fAdd (mOp fMul (mVar 6) (mIx fIxT (mVar 0) (mC (.int 0)))) (mIx fIxL (mVar 2) (mVar 8)))))
def m__law_once_b2 : MS := (mSeq (mSet 6 (mC (.int 0)))
    (mSeq (mFor FUEL (mIR1 (mVar 1)) (gN 7) m__law_once_b1)
    (mDrop (mBM fAppend (mVar 3) (mCons (mIx fIxT (mIx fIxT (mVar 0) (mC (.int 2))) (mVar 6)) mNil)))))
def m__law_once : MF := mDef 3 9
    (mSeq (mSet 3 (mLst mNil))
    (mSeq (mSet 4 (mOp fMod (mIx fIxT (mVar 0) (mC (.int 1))) (mArg fLen (mCons (mVar 2) mNil))))
    (mSeq (mFor FUEL (mIR1 (mArg fLen (mCons (mVar 2) mNil))) (gN 5) m__law_once_b2)
    (mRet (mVar 3)))))
/-! ### _law_due -/
def m__law_due_b1 : MS := (mSeq (mIf (mTst (mDIn (fun k => k) (mArg fTupOf (mCons (mVar 2) mNil)) (mVar 3))) (mRet (mTup (mCons (mDGet (mVar 3) (mArg fTupOf (mCons (mVar 2) mNil))) (mCons (mOp fSub (mVar 4) (mDGet (mVar 3) (mArg fTupOf (mCons (mVar 2) mNil)))) mNil)))) mNext)
    (mSeq (mDPut (mVar 3) (mArg fTupOf (mCons (mVar 2) mNil)) (mVar 4))
    (mSet 2 (mCall m__law_once [] (mCons (mVar 0) (mCons (mVar 1) (mCons (mVar 2) mNil)))))))
def m__law_due : MF := mDef 3 5
    (mSeq (mSet 3 mNewT)
    (mSeq (mFor FUEL (mIR1 (mC (.int 1001))) (gN 4) m__law_due_b1)
    (mRet (mC .non))))
/-! ### _law_says -/
def m__law_says : MF := mDef 4 6
    (mSeq (mSet 4 (mArg fListOf (mCons (mVar 1) mNil)))
    (mSeq (mSet 5 (mCall m_comes_again [] (mCons (mVar 0) (mCons (mVar 4) (mCons (mVar 2) mNil)))))
    (mSeq (mIf (mTst (mIx fNeD (mVar 4) (mVar 1))) (mRet (mC (.bl false))) mNext)
    (mSeq (mIf (mTst (mOp fIsN (mVar 3) (mC .non))) (mRet (mOp fIsN (mVar 5) (mC .non))) mNext)
    (mSeq (mIf (mOrT (mNotT (mTst (mIsi "tuple" (mVar 5)))) (mTst (mOp fNe (mArg fLen (mCons (mVar 5) mNil)) (mC (.int 2))))) (mRet (mC (.bl false))) mNext)
    (mRet (mAndV (mCall m__law_whole [] (mCons (mIx fIxT (mVar 5) (mC (.int 0))) mNil)) (mAndV (mCall m__law_whole [] (mCons (mIx fIxT (mVar 5) (mC (.int 1))) mNil)) (mIx fEqD (mVar 5) (mVar 3))))))))))
/-! ### law -/
def m_law_e1 : ME := (mIx fIxL (mVar 6) (mOp fDiv (mVar 13) (mVar 3)))
def m_law : MF := mDef 1 14
    (mSeq (mSet 1 (mCall m__law_stream [] (mCons (mCall m__law_cell_at [] (mCons (mVar 0) (mCons (mC (.int 0)) mNil))) (mCons (mC (.int 12)) mNil))))
    (mSeq (mSet 2 (mOp fMod (mIx fIxL (mVar 1) (mC (.int 8))) (mC (.int 3))))
    (mSeq (mSet 3 (mOp fAdd (mC (.int 2)) (mOp fMod (mIx fIxL (mVar 1) (mC (.int 9))) (mC (.int 8)))))
    (mSeq (mSet 4 (mOp fAdd (mC (.int 2)) (mOp fMul (mOp fMod (mIx fIxL (mVar 1) (mC (.int 10))) (mC (.int 2))) (mArg fInt1 (mCons (mOp fLt (mVar 3) (mC (.int 7))) mNil)))))
    (mSeq (mSet 5 (mOp fAdd (mC (.int 1)) (mOp fMod (mCall m__law_cell_at [] (mCons (mVar 0) (mCons (mC (.int 4)) mNil))) (mIx fIxL (mLst (mCons (mC (.int 14)) (mCons (mC (.int 40)) (mCons (mC (.int 120)) mNil)))) (mVar 2)))))
    (mSeq (mIf (mAndT (mTst (mOp fEq (mVar 2) (mC (.int 1)))) (mTst (mOp fEq (mOp fMod (mIx fIxL (mVar 1) (mC (.int 11))) (mC (.int 2))) (mC (.int 0))))) (mSeq (mSet 5 (mOp fAdd (mC (.int 1)) (mOp fMod (mCall m__law_cell_at [] (mCons (mVar 0) (mCons (mC (.int 4)) mNil))) (mC (.int 120)))))
    (mSetIx (mVar 1) (mC (.int 1)) (mC (.int 0)))) mNext)
    (mSeq (mSet 6 (mCall m__law_table [] (mCons (mVar 2) (mCons (mVar 3) (mCons (mVar 4) (mCons (mVar 1) mNil))))))
    (mSeq (mSet 7 (mTup (mCons (mVar 3) (mCons (mCall m__law_low [] (mCons (mCall m__law_cell_at [] (mCons (mVar 0) (mCons (mC (.int 1)) mNil))) mNil)) (mCons (mArg fTupOf (mCons (mVar 6) mNil)) mNil)))))
    (mSeq (mSet 8 (mVar 7))
    (mSeq (mSet 9 (mOp fMod (mCall m__law_cell_at [] (mCons (mVar 0) (mCons (mC (.int 2)) mNil))) (mC (.int 6))))
    (mSeq (mIf (mAndT (mTst (mOp fEq (mVar 9) (mC (.int 1)))) (mTst (mOp fLe (mOp fMul (mArg fLen (mCons (mVar 6) mNil)) (mVar 3)) (mC (.int 256))))) (mSet 8 (mTup (mCons (mVar 3) (mCons (mOp fSub (mIx fIxT (mVar 7) (mC (.int 1))) (mC (.int 1))) (mCons (mArg fTupOf (mCons (mOp fRep (mVar 6) (mVar 3)) mNil)) mNil))))) mNext)
    (mSeq (mIf (mAndT (mTst (mOp fEq (mVar 9) (mC (.int 4)))) (mTst (mOp fLe (mOp fMul (mArg fLen (mCons (mVar 6) mNil)) (mVar 3)) (mC (.int 256))))) (mSeq (mSet 10 (mLc FUEL [13] (mIR1 (mOp fMul (mArg fLen (mCons (mVar 6) mNil)) (mVar 3))) (gN 13) mYes m_law_e1))
    (mSet 8 (mTup (mCons (mVar 3) (mCons (mIx fIxT (mVar 7) (mC (.int 1))) (mCons (mArg fTupOf (mCons (mVar 10) mNil)) mNil)))))) mNext)
    (mSeq (mSet 11 (mCall m__law_ring [] (mCons (mVar 0) (mCons (mVar 3) (mCons (mVar 5) (mCons (mVar 2) mNil))))))
    (mSeq (mSet 12 (mCall m__law_due [] (mCons (mVar 7) (mCons (mVar 4) (mCons (mVar 11) mNil)))))
    (mSeq (mIf (mNotT (mTst (mCall m__law_says [] (mCons (mVar 8) (mCons (mVar 11) (mCons (mC (.int 1000)) (mCons (mVar 12) mNil))))))) (mRet (mC (.bl false))) mNext)
    (mSeq (mIf (mTst (mOp fIsN (mVar 12) (mC .non))) (mRet (mC (.bl true))) mNext)
    (mRet (mAndV (mCall m__law_says [] (mCons (mVar 8) (mCons (mVar 11) (mCons (mArg fSumT (mCons (mVar 12) mNil)) (mCons (mVar 12) mNil))))) (mCall m__law_says [] (mCons (mVar 8) (mCons (mVar 11) (mCons (mOp fSub (mArg fSumT (mCons (mVar 12) mNil)) (mC (.int 1))) (mCons (mC .non) mNil)))))))))))))))))))))))
end K15
end

section
set_option Elab.async false
set_option linter.all false
set_option maxRecDepth 100000
set_option maxHeartbeats 4000000
namespace K15
open PySem PySem.Spec PyProof.Rows L2 Xq
def top (i : Nat) : Stmt := PySem.Challenge.pw_rowrules_k15_rings_that_come_late.main.body.getD i (.Pass ⟨0, 0, 0, 0⟩)
abbrev FnP (K : PySem.W.Frag) (x : Str) (st : Stmt) (dvs : List V) (f : Addr) (fd : FuncData) : Prop := FunD K x x (defArgs st) (defBody st) (defScope st) dvs [] f fd
structure Txt (mg : Str → Option Value) : Prop where
  b_bool : mg "bool" = none
  b_int : mg "int" = none
  b_isinstance : mg "isinstance" = none
  b_len : mg "len" = none
  b_list : mg "list" = none
  b_max : mg "max" = none
  b_min : mg "min" = none
  b_range : mg "range" = none
  b_sum : mg "sum" = none
  b_tuple : mg "tuple" = none
  b_zip : mg "zip" = none
section
variable {P : Program} {w : World} {K : PySem.W.Frag} {mg : Str → Option Value} {base : Heap} {cl : Nat → Value}
abbrev s_is_whole : Stmt := top 4
theorem sc_is_whole : FnScope ["thing"] ["thing"] (defScope s_is_whole) := ⟨rfl, rfl, rfl, by decide +kernel, rfl, by decide +kernel, by decide +kernel⟩
theorem ok_is_whole {f : Addr} {fd : FuncData} (F : FnP K "is_whole" s_is_whole [] f fd) (T : Txt mg)  : FnOk P w K mg base (L2.CX P w) 1 f fd ["thing"] (spM K cl m_is_whole) := by
  refine ok_def 1 1 F sc_is_whole rfl rfl fun cdv A outer s H E hr tk hp => ?_
  exact (xss_cons (xs_if (PW.pt (xor' (xcmpT op_isBX oIsB (xv 0) xbl) (xor1 (xcmpT op_isBX oIsB (xv 0) xbl)))) (xss_one (xs_ret xbl)) xss_nil)
    (xss_one (xs_ret (xisi T.b_isinstance T.b_int boot_int (xv 0)))))
abbrev s_is_sign : Stmt := top 5
theorem sc_is_sign : FnScope ["thing", "signs"] ["thing", "signs"] (defScope s_is_sign) := ⟨rfl, rfl, rfl, by decide +kernel, rfl, by decide +kernel, by decide +kernel⟩
theorem ok_is_sign {f : Addr} {fd : FuncData} (F : FnP K "is_sign" s_is_sign [] f fd) (T : Txt mg) (F_is_whole : Fd P w K mg base cl "is_whole" 1 m_is_whole []) : FnOk P w K mg base (L2.CX P w) 2 f fd ["thing", "signs"] (spM K cl m_is_sign) := by
  refine ok_def 2 2 F sc_is_sign rfl rfl fun cdv A outer s H E hr tk hp => ?_
  exact (xss_one (xs_ret (xandV (xcall F_is_whole hr tk (xcons (xv 0) xnil)) (xone (xchain op_le oLe op_lt oLt xint (xv 0) (xv 1))))))
abbrev s_ask_word : Stmt := top 6
theorem sc_ask_word : FnScope ["word", "signs", "least", "k"] ["word", "signs", "least"] (defScope s_ask_word) := ⟨rfl, rfl, rfl, by decide +kernel, rfl, by decide +kernel, by decide +kernel⟩
theorem ok_ask_word {f : Addr} {fd : FuncData} (F : FnP K "ask_word" s_ask_word [V.int 0] f fd) (T : Txt mg) (F_is_sign : Fd P w K mg base cl "is_sign" 2 m_is_sign []) : FnOk P w K mg base (L2.CX P w) 3 f fd ["word", "signs", "least"] (spM K cl m_ask_word) := by
  refine ok_def 3 4 F sc_ask_word rfl rfl fun cdv A outer s H E hr tk hp => ?_
  exact (xss_cons (xs_for FUEL hp (xi_r1 T.b_range (xcallB call_len_seq sLen T.b_len boot_len (xcons (xv 0) xnil))) (pg_name (i := 3) sc_ask_word.nd rfl (by first | exact Or.inl rfl | exact Or.inr rfl)) gs_name (xss_one (xs_if (xnot (xval (xcall F_is_sign hr tk (xcons (xix ix_list oIxL (xv 0) (xv 3)) (xcons (xv 1) xnil))))) (xss_one xs_never) xss_nil)))
    (xss_one (xs_if (xcmpT op_lt oLt (xcallB call_len_seq sLen T.b_len boot_len (xcons (xv 0) xnil)) (xv 2)) (xss_one xs_never) xss_nil)))
abbrev s_value : Stmt := top 7
theorem sc_value : FnScope ["word", "signs", "number", "sign"] ["word", "signs"] (defScope s_value) := ⟨rfl, rfl, rfl, by decide +kernel, rfl, by decide +kernel, by decide +kernel⟩
theorem ok_value {f : Addr} {fd : FuncData} (F : FnP K "value" s_value [] f fd) (T : Txt mg)  : FnOk P w K mg base (L2.CX P w) 1 f fd ["word", "signs"] (spM K cl m_value) := by
  refine ok_def 2 4 F sc_value rfl rfl fun cdv A outer s H E hr tk hp => ?_
  exact (xss_cons (xs_set 2 sc_value.nd xint)
    (xss_cons (xs_for FUEL hp (xi_list (xv 0)) (pg_name (i := 3) sc_value.nd rfl (by first | exact Or.inl rfl | exact Or.inr rfl)) gs_name (xss_one (xs_set 2 sc_value.nd (xop op_add oAdd (xop op_mul oMul (xv 2) (xv 1)) (xv 3)))))
    (xss_one (xs_ret (xv 2)))))
abbrev s_exponent : Stmt := top 9
theorem sc_exponent : FnScope ["signs", "size", "many", "found"] ["signs", "size"] (defScope s_exponent) := ⟨rfl, rfl, rfl, by decide +kernel, rfl, by decide +kernel, by decide +kernel⟩
theorem ok_exponent {f : Addr} {fd : FuncData} (F : FnP K "exponent" s_exponent [] f fd) (T : Txt mg)  : FnOk P w K mg base (L2.CX P w) 1 f fd ["signs", "size"] (spM K cl m_exponent) := by
  refine ok_def 2 4 F sc_exponent rfl rfl fun cdv A outer s H E hr tk hp => ?_
  exact (xss_cons (xs_set 2 sc_exponent.nd xint)
    (xss_cons (xs_set 3 sc_exponent.nd (xv 0))
    (xss_cons (xs_while FUEL hp (xcmpT op_lt oLt (xv 3) (xv 1)) (xss_cons (xs_set 3 sc_exponent.nd (xop op_mul oMul (xv 3) (xv 0)))
    (xss_one (xs_augAdd 2 sc_exponent.nd xint))))
    (xss_cons (xs_if (xcmpT op_eq oEq (xv 3) (xv 1)) (xss_one (xs_ret (xv 2))) xss_nil)
    (xss_one (xs_ret xint))))))
abbrev s_places : Stmt := top 10
theorem sc_places : FnScope ["one"] ["one"] (defScope s_places) := ⟨rfl, rfl, rfl, by decide +kernel, rfl, by decide +kernel, by decide +kernel⟩
theorem ok_places {f : Addr} {fd : FuncData} (F : FnP K "places" s_places [] f fd) (T : Txt mg) (F_exponent : Fd P w K mg base cl "exponent" 1 m_exponent []) : FnOk P w K mg base (L2.CX P w) 2 f fd ["one"] (spM K cl m_places) := by
  refine ok_def 1 1 F sc_places rfl rfl fun cdv A outer s H E hr tk hp => ?_
  exact (xss_one (xs_ret (xcall F_exponent hr tk (xcons (xix ix_tup oIxT (xv 0) xint) (xcons (xcallB call_len_seq sLen T.b_len boot_len (xcons (xix ix_tup oIxT (xv 0) xint) xnil)) xnil)))))
abbrev s_sign_told : Stmt := top 12
theorem sc_sign_told : FnScope ["one", "word"] ["one", "word"] (defScope s_sign_told) := ⟨rfl, rfl, rfl, by decide +kernel, rfl, by decide +kernel, by decide +kernel⟩
theorem ok_sign_told {f : Addr} {fd : FuncData} (F : FnP K "sign_told" s_sign_told [] f fd) (T : Txt mg) (F_value : Fd P w K mg base cl "value" 1 m_value []) : FnOk P w K mg base (L2.CX P w) 2 f fd ["one", "word"] (spM K cl m_sign_told) := by
  refine ok_def 2 2 F sc_sign_told rfl rfl fun cdv A outer s H E hr tk hp => ?_
  exact (xss_one (xs_ret (xix ix_tup oIxT (xix ix_tup oIxT (xv 0) xint) (xcall F_value hr tk (xcons (xv 1) (xcons (xix ix_tup oIxT (xv 0) xint) xnil))))))
abbrev s_led_ring : Stmt := top 13
theorem sc_led_ring : FnScope ["one", "ring", "many", "size", "begin", "found", "k", "word", "j"] ["one", "ring"] (defScope s_led_ring) := ⟨rfl, rfl, rfl, by decide +kernel, rfl, by decide +kernel, by decide +kernel⟩
theorem ok_led_ring {f : Addr} {fd : FuncData} (F : FnP K "led_ring" s_led_ring [] f fd) (T : Txt mg) (F_ask_word : Fd P w K mg base cl "ask_word" 3 m_ask_word []) (F_places : Fd P w K mg base cl "places" 2 m_places []) (F_sign_told : Fd P w K mg base cl "sign_told" 2 m_sign_told []) : FnOk P w K mg base (L2.CX P w) 4 f fd ["one", "ring"] (spM K cl m_led_ring) := by
  refine ok_def 2 9 F sc_led_ring rfl rfl fun cdv A outer s H E hr tk hp => ?_
  exact (xss_cons (xs_expr (xcall F_ask_word hr tk (xcons (xv 1) (xcons (xix ix_tup oIxT (xv 0) xint) (xcons xint xnil)))))
    (xss_cons (xs_set 2 sc_led_ring.nd (xcall F_places hr tk (xcons (xv 0) xnil)))
    (xss_cons (xs_set 3 sc_led_ring.nd (xcallB call_len_seq sLen T.b_len boot_len (xcons (xv 1) xnil)))
    (xss_cons (xs_set 4 sc_led_ring.nd (xop op_mod oMod (xix ix_tup oIxT (xv 0) xint) (xv 3)))
    (xss_cons (xs_set 5 sc_led_ring.nd (xlst xnil))
    (xss_cons (xs_for FUEL hp (xi_r1 T.b_range (xv 3)) (pg_name (i := 6) sc_led_ring.nd rfl (by first | exact Or.inl rfl | exact Or.inr rfl)) gs_name (xss_cons (xs_setLc FUEL (own := [("j", 8)]) 7 sc_led_ring.nd (sw_true rfl rfl rfl (by decide +kernel)) (xi_r1 T.b_range (xv 2)) (by show blkC ["one", "ring", "many", "size", "begin", "found", "k", "word", "j"] (defScope s_led_ring) _ _ = true; decide +kernel) (fun _ _ _ _ _ => (pg_name (i := 8) sc_led_ring.nd rfl (by first | exact Or.inl rfl | exact Or.inr rfl))) gs_name (by decide) (fun _ _ _ _ _ => xts_nil) (fun _ _ _ _ _ => (xix ix_list oIxL (xv 1) (xop op_mod oMod (xop op_add oAdd (xop op_add oAdd (xv 4) (xv 6)) (xv 8)) (xv 3)))))
    (xss_one (xs_expr (xbm PySem.F.slot_list_append PySem.F.type_list_append mt_append sAppend (xv 5) (xcons (xcall F_sign_told hr tk (xcons (xv 0) (xcons (xv 7) xnil))) xnil))))))
    (xss_one (xs_ret (xv 5)))))))))
abbrev s_comes_again : Stmt := top 14
theorem sc_comes_again : FnScope ["one", "ring", "most", "seen", "here", "k", "ahead"] ["one", "ring", "most"] (defScope s_comes_again) := ⟨rfl, rfl, rfl, by decide +kernel, rfl, by decide +kernel, by decide +kernel⟩
theorem ok_comes_again {f : Addr} {fd : FuncData} (F : FnP K "comes_again" s_comes_again [V.int 64] f fd) (T : Txt mg) (F_ask_word : Fd P w K mg base cl "ask_word" 3 m_ask_word []) (F_led_ring : Fd P w K mg base cl "led_ring" 4 m_led_ring []) : FnOk P w K mg base (L2.CX P w) 5 f fd ["one", "ring", "most"] (spM K cl m_comes_again) := by
  refine ok_def 3 7 F sc_comes_again rfl rfl fun cdv A outer s H E hr tk hp => ?_
  exact (xss_cons (xs_expr (xcall F_ask_word hr tk (xcons (xv 1) (xcons (xix ix_tup oIxT (xv 0) xint) (xcons xint xnil)))))
    (xss_cons (xs_set 3 sc_comes_again.nd xnewT)
    (xss_cons (xs_set 4 sc_comes_again.nd (xcallTy call_list_of sListOf T.b_list boot_list (xcons (xv 1) xnil)))
    (xss_cons (xs_for FUEL hp (xi_r1 T.b_range (xop op_add oAdd (xv 2) xint)) (pg_name (i := 5) sc_comes_again.nd rfl (by first | exact Or.inl rfl | exact Or.inr rfl)) gs_name (xss_cons (xs_if (xdinT (hu_of hr) (xcallTy call_tuple_of sTupOf T.b_tuple boot_tuple (xcons (xv 4) xnil)) (xv 3)) (xss_cons (xs_set 6 sc_comes_again.nd (xdget (hu_of hr) (xv 3) (xcallTy call_tuple_of sTupOf T.b_tuple boot_tuple (xcons (xv 4) xnil))))
    (xss_one (xs_ret (xtup (xcons (xv 6) (xcons (xop op_sub oSub (xv 5) (xv 6)) xnil)))))) xss_nil)
    (xss_cons (xs_dput (hu_of hr) (xv 5) (xv 3) (xcallTy call_tuple_of sTupOf T.b_tuple boot_tuple (xcons (xv 4) xnil)))
    (xss_one (xs_set 4 sc_comes_again.nd (xcall F_led_ring hr tk (xcons (xv 0) (xcons (xv 4) xnil))))))))
    (xss_one (xs_ret xnon))))))
abbrev s__law_whole : Stmt := top 16
theorem sc__law_whole : FnScope ["found"] ["found"] (defScope s__law_whole) := ⟨rfl, rfl, rfl, by decide +kernel, rfl, by decide +kernel, by decide +kernel⟩
theorem ok__law_whole {f : Addr} {fd : FuncData} (F : FnP K "_law_whole" s__law_whole [] f fd) (T : Txt mg)  : FnOk P w K mg base (L2.CX P w) 1 f fd ["found"] (spM K cl m__law_whole) := by
  refine ok_def 1 1 F sc__law_whole rfl rfl fun cdv A outer s H E hr tk hp => ?_
  exact (xss_one (xs_ret (xandV (xisi T.b_isinstance T.b_int boot_int (xv 0)) (xone (xnotV (xisi T.b_isinstance T.b_bool boot_bool (xv 0)))))))
abbrev s__law_cell_at : Stmt := top 17
theorem sc__law_cell_at : FnScope ["script", "k"] ["script", "k"] (defScope s__law_cell_at) := ⟨rfl, rfl, rfl, by decide +kernel, rfl, by decide +kernel, by decide +kernel⟩
theorem ok__law_cell_at {f : Addr} {fd : FuncData} (F : FnP K "_law_cell_at" s__law_cell_at [] f fd) (T : Txt mg)  : FnOk P w K mg base (L2.CX P w) 1 f fd ["script", "k"] (spM K cl m__law_cell_at) := by
  refine ok_def 2 2 F sc__law_cell_at rfl rfl fun cdv A outer s H E hr tk hp => ?_
  exact (xss_cons (xs_if (xcmpT op_lt oLt (xv 1) (xcallB call_len_seq sLen T.b_len boot_len (xcons (xv 0) xnil))) (xss_one (xs_ret (xix ix_list oIxL (xv 0) (xv 1)))) xss_nil)
    (xss_one (xs_ret xint)))
abbrev s__law_stream : Stmt := top 18
theorem sc__law_stream : FnScope ["cell", "many", "found", "rest", "k", "number", "mixed"] ["cell", "many"] (defScope s__law_stream) := ⟨rfl, rfl, rfl, by decide +kernel, rfl, by decide +kernel, by decide +kernel⟩
theorem ok__law_stream {f : Addr} {fd : FuncData} (F : FnP K "_law_stream" s__law_stream [] f fd) (T : Txt mg)  : FnOk P w K mg base (L2.CX P w) 1 f fd ["cell", "many"] (spM K cl m__law_stream) := by
  refine ok_def 2 7 F sc__law_stream rfl rfl fun cdv A outer s H E hr tk hp => ?_
  exact (xss_cons (xs_set 2 sc__law_stream.nd (xlst xnil))
    (xss_cons (xs_set 3 sc__law_stream.nd (xv 0))
    (xss_cons (xs_for FUEL hp (xi_r1 T.b_range (xv 1)) (pg_name (i := 4) sc__law_stream.nd rfl (by first | exact Or.inl rfl | exact Or.inr rfl)) gs_name (xss_cons (xs_expr (xbm PySem.F.slot_list_append PySem.F.type_list_append mt_append sAppend (xv 2) (xcons (xop op_mod oMod (xv 3) xint) xnil)))
    (xss_one (xs_set 3 sc__law_stream.nd (xop op_fdiv oDiv (xv 3) xint)))))
    (xss_cons (xs_if (xcmpT op_gt oGt (xv 3) xint) (xss_one (xs_ret (xv 2))) xss_nil)
    (xss_cons (xs_set 5 sc__law_stream.nd (xop op_add oAdd (xop op_mod oMod (xv 0) xint) xint))
    (xss_cons (xs_for FUEL hp (xi_r1 T.b_range (xv 1)) (pg_name (i := 4) sc__law_stream.nd rfl (by first | exact Or.inl rfl | exact Or.inr rfl)) gs_name (xss_cons (xs_set 5 sc__law_stream.nd (xop op_mod oMod (xop op_add oAdd (xop op_add oAdd (xop op_mul oMul (xv 5) xint) (xop op_mul oMul (xv 4) (xv 4))) xint) xint))
    (xss_cons (xs_set 6 sc__law_stream.nd (xop op_add oAdd (xop op_add oAdd (xop op_mul oMul (xop op_fdiv oDiv (xv 5) xint) xint) (xop op_mul oMul (xv 5) (xop op_add oAdd (xop op_mul oMul (xv 4) (xv 4)) xint))) (xv 4)))
    (xss_one (xs_setix (xop op_fdiv oDiv (xop op_mod oMod (xv 6) xint) xint) (xv 2) (xv 4))))))
    (xss_one (xs_ret (xv 2)))))))))
abbrev s__law_word : Stmt := top 19
theorem sc__law_word : FnScope ["number", "signs", "many", "word", "k"] ["number", "signs", "many"] (defScope s__law_word) := ⟨rfl, rfl, rfl, by decide +kernel, rfl, by decide +kernel, by decide +kernel⟩
theorem ok__law_word {f : Addr} {fd : FuncData} (F : FnP K "_law_word" s__law_word [] f fd) (T : Txt mg)  : FnOk P w K mg base (L2.CX P w) 1 f fd ["number", "signs", "many"] (spM K cl m__law_word) := by
  refine ok_def 3 5 F sc__law_word rfl rfl fun cdv A outer s H E hr tk hp => ?_
  exact (xss_cons (xs_set 3 sc__law_word.nd (xlst xnil))
    (xss_cons (xs_for FUEL hp (xi_r1 T.b_range (xv 2)) (pg_name (i := 4) sc__law_word.nd rfl (by first | exact Or.inl rfl | exact Or.inr rfl)) gs_name (xss_cons (xs_set 3 sc__law_word.nd (xop op_cat oCat (xlst (xcons (xop op_mod oMod (xv 0) (xv 1)) xnil)) (xv 3)))
    (xss_one (xs_set 0 sc__law_word.nd (xop op_fdiv oDiv (xv 0) (xv 1))))))
    (xss_one (xs_ret (xv 3)))))
abbrev s__law_told : Stmt := top 20
theorem sc__law_told : FnScope ["way", "signs", "word", "xs", "parts", "sign", "x"] ["way", "signs", "word", "xs"] (defScope s__law_told) := ⟨rfl, rfl, rfl, by decide +kernel, rfl, by decide +kernel, by decide +kernel⟩
theorem ok__law_told {f : Addr} {fd : FuncData} (F : FnP K "_law_told" s__law_told [] f fd) (T : Txt mg)  : FnOk P w K mg base (L2.CX P w) 1 f fd ["way", "signs", "word", "xs"] (spM K cl m__law_told) := by
  refine ok_def 4 7 F sc__law_told rfl rfl fun cdv A outer s H E hr tk hp => ?_
  exact (xss_cons (xs_if (xcmpT op_eq oEq (xv 0) xint) (xss_cons (xs_setLc FUEL (own := [("sign", 5), ("x", 6)]) 4 sc__law_told.nd (sw_true rfl rfl rfl (by decide +kernel)) (xi_zip T.b_zip (xv 2) (xsl sl_list sSlL (xv 3) (xpart xint) xno)) (by show blkC ["way", "signs", "word", "xs", "parts", "sign", "x"] (defScope s__law_told) _ _ = true; decide +kernel) (fun _ _ _ _ _ => (pg_tup rfl (pgs_cons (pg_name (i := 5) sc__law_told.nd rfl (by first | exact Or.inl rfl | exact Or.inr rfl)) (pgs_cons (pg_name (i := 6) sc__law_told.nd rfl (by first | exact Or.inl rfl | exact Or.inr rfl)) pgs_nil)))) gs_tup2 (by decide) (fun _ _ _ _ _ => xts_nil) (fun _ _ _ _ _ => (xop op_mul oMul (xv 5) (xop op_mod oMod (xv 6) (xv 1)))))
    (xss_one (xs_ret (xop op_mod oMod (xop op_add oAdd (xcallB (cr_sum rfl) sSum T.b_sum boot_sum (xcons (xv 4) xnil)) (xix ix_list oIxL (xv 3) xint)) (xv 1))))) xss_nil)
    (xss_cons (xs_if (xcmpT op_eq oEq (xv 0) xint) (xss_one (xs_ret (xop op_mod oMod (xop op_add oAdd (xix ix_list oIxL (xv 2) (xop op_mod oMod (xix ix_list oIxL (xv 3) xint) (xcallB call_len_seq sLen T.b_len boot_len (xcons (xv 2) xnil)))) (xix ix_list oIxL (xv 3) xint)) (xv 1)))) xss_nil)
    (xss_one (xs_ret (xix ix_list oIxL (xlst (xcons (xcallB (cr_max rfl) sMax T.b_max boot_max (xcons (xv 2) xnil)) (xcons (xcallB (cr_min rfl) sMin T.b_min boot_min (xcons (xv 2) xnil)) xnil))) (xop op_mod oMod (xix ix_list oIxL (xv 3) xint) xint))))))
abbrev s__law_table : Stmt := top 21
theorem sc__law_table : FnScope ["way", "signs", "many", "xs", "size", "k", "words", "number", "word"] ["way", "signs", "many", "xs"] (defScope s__law_table) := ⟨rfl, rfl, rfl, by decide +kernel, rfl, by decide +kernel, by decide +kernel⟩
theorem ok__law_table {f : Addr} {fd : FuncData} (F : FnP K "_law_table" s__law_table [] f fd) (T : Txt mg) (F__law_told : Fd P w K mg base cl "_law_told" 1 m__law_told []) (F__law_word : Fd P w K mg base cl "_law_word" 1 m__law_word []) : FnOk P w K mg base (L2.CX P w) 2 f fd ["way", "signs", "many", "xs"] (spM K cl m__law_table) := by
  refine ok_def 4 9 F sc__law_table rfl rfl fun cdv A outer s H E hr tk hp => ?_
  exact (xss_cons (xs_set 4 sc__law_table.nd xint)
    (xss_cons (xs_for FUEL hp (xi_r1 T.b_range (xv 2)) (pg_name (i := 5) sc__law_table.nd rfl (by first | exact Or.inl rfl | exact Or.inr rfl)) gs_name (xss_one (xs_set 4 sc__law_table.nd (xop op_mul oMul (xv 4) (xv 1)))))
    (xss_cons (xs_setLc FUEL (own := [("number", 7)]) 6 sc__law_table.nd (sw_true rfl rfl rfl (by decide +kernel)) (xi_r1 T.b_range (xv 4)) (by show blkC ["way", "signs", "many", "xs", "size", "k", "words", "number", "word"] (defScope s__law_table) _ _ = true; decide +kernel) (fun _ _ _ _ _ => (pg_name (i := 7) sc__law_table.nd rfl (by first | exact Or.inl rfl | exact Or.inr rfl))) gs_name (by decide) (fun _ _ _ _ _ => xts_nil) (fun _ _ _ _ _ => (xcall F__law_word hr takes0 (xcons (xv 7) (xcons (xv 1) (xcons (xv 2) xnil))))))
    (xss_one (xs_ret (xlc FUEL (own := [("word", 8)]) sc__law_table.nd (xi_list (xv 6)) (by show blkC ["way", "signs", "many", "xs", "size", "k", "words", "number", "word"] (defScope s__law_table) _ _ = true; decide +kernel) (fun _ _ _ _ _ => (pg_name (i := 8) sc__law_table.nd rfl (by first | exact Or.inl rfl | exact Or.inr rfl))) gs_name (by decide) (fun _ _ _ _ _ => xts_nil) (fun _ _ _ _ _ => (xcall F__law_told hr takes0 (xcons (xv 0) (xcons (xv 1) (xcons (xv 8) (xcons (xv 3) xnil))))))))))))
abbrev s__law_low : Stmt := top 22
theorem sc__law_low : FnScope ["cell"] ["cell"] (defScope s__law_low) := ⟨rfl, rfl, rfl, by decide +kernel, rfl, by decide +kernel, by decide +kernel⟩
theorem ok__law_low {f : Addr} {fd : FuncData} (F : FnP K "_law_low" s__law_low [] f fd) (T : Txt mg)  : FnOk P w K mg base (L2.CX P w) 1 f fd ["cell"] (spM K cl m__law_low) := by
  refine ok_def 1 1 F sc__law_low rfl rfl fun cdv A outer s H E hr tk hp => ?_
  exact (xss_cons (xs_if (xcmpT op_eq oEq (xop op_mod oMod (xv 0) xint) xint) (xss_one (xs_ret (xop op_sub oSub (xop op_mod oMod (xop op_fdiv oDiv (xv 0) xint) xint) xint))) xss_nil)
    (xss_one (xs_ret (xop op_add oAdd (xop op_sub oSub (xop op_mod oMod (xop op_fdiv oDiv (xv 0) xint) (xop op_sub oSub (xop op_mul oMul xint (xop op_pow oPow xint xint)) xint)) (xop op_pow oPow xint xint)) xint))))
abbrev s__law_ring : Stmt := top 23
theorem sc__law_ring : FnScope ["script", "signs", "size", "way", "xs", "part", "ring", "k", "at"] ["script", "signs", "size", "way"] (defScope s__law_ring) := ⟨rfl, rfl, rfl, by decide +kernel, rfl, by decide +kernel, by decide +kernel⟩
theorem ok__law_ring {f : Addr} {fd : FuncData} (F : FnP K "_law_ring" s__law_ring [] f fd) (T : Txt mg) (F__law_cell_at : Fd P w K mg base cl "_law_cell_at" 1 m__law_cell_at []) (F__law_stream : Fd P w K mg base cl "_law_stream" 1 m__law_stream []) : FnOk P w K mg base (L2.CX P w) 2 f fd ["script", "signs", "size", "way"] (spM K cl m__law_ring) := by
  refine ok_def 4 9 F sc__law_ring rfl rfl fun cdv A outer s H E hr tk hp => ?_
  exact (xss_cons (xs_set 4 sc__law_ring.nd (xcall F__law_stream hr tk (xcons (xcall F__law_cell_at hr tk (xcons (xv 0) (xcons xint xnil))) (xcons (xop op_add oAdd (xv 2) xint) xnil))))
    (xss_cons (xs_set 5 sc__law_ring.nd (xv 2))
    (xss_cons (xs_if (xcmpT op_eq oEq (xop op_mod oMod (xix ix_list oIxL (xv 4) (xneg xint)) xint) xint) (xss_one (xs_set 5 sc__law_ring.nd (xop op_add oAdd xint (xop op_mod oMod (xix ix_list oIxL (xv 4) (xneg xint)) (xv 2))))) xss_nil)
    (xss_cons (xs_setLc FUEL (own := [("k", 7)]) 6 sc__law_ring.nd (sw_true rfl rfl rfl (by decide +kernel)) (xi_r1 T.b_range (xv 2)) (by show blkC ["script", "signs", "size", "way", "xs", "part", "ring", "k", "at"] (defScope s__law_ring) _ _ = true; decide +kernel) (fun _ _ _ _ _ => (pg_name (i := 7) sc__law_ring.nd rfl (by first | exact Or.inl rfl | exact Or.inr rfl))) gs_name (by decide) (fun _ _ _ _ _ => xts_nil) (fun _ _ _ _ _ => (xop op_mod oMod (xix ix_list oIxL (xv 4) (xop op_mod oMod (xv 7) (xv 5))) (xv 1))))
    (xss_cons (xs_if (xcmpT op_eq oEq (xv 3) xint) (xss_cons (xs_set 6 sc__law_ring.nd (xop op_rep oRep (xlst (xcons (xop op_mod oMod (xix ix_list oIxL (xv 4) (xneg xint)) (xv 1)) xnil)) (xv 2)))
    (xss_one (xs_setix (xop op_mod oMod (xix ix_list oIxL (xv 4) xint) (xv 1)) (xv 6) (xop op_mod oMod (xix ix_list oIxL (xv 4) xint) (xv 2))))) xss_nil)
    (xss_cons (xs_for FUEL hp (xi_r2 T.b_range xint (xcallB (call_min2 rfl) sMin2 T.b_min boot_min (xcons (xcallB call_len_seq sLen T.b_len boot_len (xcons (xv 0) xnil)) (xcons xint xnil)))) (pg_name (i := 7) sc__law_ring.nd rfl (by first | exact Or.inl rfl | exact Or.inr rfl)) gs_name (xss_cons (xs_set 8 sc__law_ring.nd (xop op_mod oMod (xop op_mul oMul (xv 7) xint) (xv 2)))
    (xss_one (xs_setix (xop op_mod oMod (xop op_add oAdd (xix ix_list oIxL (xv 6) (xv 8)) (xix ix_list oIxL (xv 0) (xv 7))) (xv 1)) (xv 6) (xv 8)))))
    (xss_one (xs_ret (xv 6)))))))))
abbrev s__law_once : Stmt := top 24
theorem sc__law_once : FnScope ["one", "many", "ring", "due", "begin", "i", "at", "j", "spot"] ["one", "many", "ring"] (defScope s__law_once) := ⟨rfl, rfl, rfl, by decide +kernel, rfl, by decide +kernel, by decide +kernel⟩
theorem ok__law_once {f : Addr} {fd : FuncData} (F : FnP K "_law_once" s__law_once [] f fd) (T : Txt mg)  : FnOk P w K mg base (L2.CX P w) 1 f fd ["one", "many", "ring"] (spM K cl m__law_once) := by
  refine ok_def 3 9 F sc__law_once rfl rfl fun cdv A outer s H E hr tk hp => ?_
  exact (xss_cons (xs_set 3 sc__law_once.nd (xlst xnil))
    (xss_cons (xs_set 4 sc__law_once.nd (xop op_mod oMod (xix ix_tup oIxT (xv 0) xint) (xcallB call_len_seq sLen T.b_len boot_len (xcons (xv 2) xnil))))
    (xss_cons (xs_for FUEL hp (xi_r1 T.b_range (xcallB call_len_seq sLen T.b_len boot_len (xcons (xv 2) xnil))) (pg_name (i := 5) sc__law_once.nd rfl (by first | exact Or.inl rfl | exact Or.inr rfl)) gs_name (xss_cons (xs_set 6 sc__law_once.nd xint)
    (xss_cons (xs_for FUEL hp (xi_r1 T.b_range (xv 1)) (pg_name (i := 7) sc__law_once.nd rfl (by first | exact Or.inl rfl | exact Or.inr rfl)) gs_name (xss_cons (xs_set 8 sc__law_once.nd (xop op_mod oMod (xop op_add oAdd (xop op_add oAdd (xv 4) (xv 5)) (xv 7)) (xcallB call_len_seq sLen T.b_len boot_len (xcons (xv 2) xnil))))
    (xss_one (xs_set 6 sc__law_once.nd (xop op_add oAdd (xop op_mul oMul (xv 6) (xix ix_tup oIxT (xv 0) xint)) (xix ix_list oIxL (xv 2) (xv 8)))))))
    (xss_one (xs_expr (xbm PySem.F.slot_list_append PySem.F.type_list_append mt_append sAppend (xv 3) (xcons (xix ix_tup oIxT (xix ix_tup oIxT (xv 0) xint) (xv 6)) xnil)))))))
    (xss_one (xs_ret (xv 3))))))
abbrev s__law_due : Stmt := top 25
theorem sc__law_due : FnScope ["one", "many", "ring", "seen", "k"] ["one", "many", "ring"] (defScope s__law_due) := ⟨rfl, rfl, rfl, by decide +kernel, rfl, by decide +kernel, by decide +kernel⟩
theorem ok__law_due {f : Addr} {fd : FuncData} (F : FnP K "_law_due" s__law_due [] f fd) (T : Txt mg) (F__law_once : Fd P w K mg base cl "_law_once" 1 m__law_once []) : FnOk P w K mg base (L2.CX P w) 2 f fd ["one", "many", "ring"] (spM K cl m__law_due) := by
  refine ok_def 3 5 F sc__law_due rfl rfl fun cdv A outer s H E hr tk hp => ?_
  exact (xss_cons (xs_set 3 sc__law_due.nd xnewT)
    (xss_cons (xs_for FUEL hp (xi_r1 T.b_range xint) (pg_name (i := 4) sc__law_due.nd rfl (by first | exact Or.inl rfl | exact Or.inr rfl)) gs_name (xss_cons (xs_if (xdinT (hu_of hr) (xcallTy call_tuple_of sTupOf T.b_tuple boot_tuple (xcons (xv 2) xnil)) (xv 3)) (xss_one (xs_ret (xtup (xcons (xdget (hu_of hr) (xv 3) (xcallTy call_tuple_of sTupOf T.b_tuple boot_tuple (xcons (xv 2) xnil))) (xcons (xop op_sub oSub (xv 4) (xdget (hu_of hr) (xv 3) (xcallTy call_tuple_of sTupOf T.b_tuple boot_tuple (xcons (xv 2) xnil)))) xnil))))) xss_nil)
    (xss_cons (xs_dput (hu_of hr) (xv 4) (xv 3) (xcallTy call_tuple_of sTupOf T.b_tuple boot_tuple (xcons (xv 2) xnil)))
    (xss_one (xs_set 2 sc__law_due.nd (xcall F__law_once hr tk (xcons (xv 0) (xcons (xv 1) (xcons (xv 2) xnil)))))))))
    (xss_one (xs_ret xnon))))
abbrev s__law_says : Stmt := top 26
theorem sc__law_says : FnScope ["one", "ring", "most", "due", "handed", "found"] ["one", "ring", "most", "due"] (defScope s__law_says) := ⟨rfl, rfl, rfl, by decide +kernel, rfl, by decide +kernel, by decide +kernel⟩
theorem ok__law_says {f : Addr} {fd : FuncData} (F : FnP K "_law_says" s__law_says [] f fd) (T : Txt mg) (F__law_whole : Fd P w K mg base cl "_law_whole" 1 m__law_whole []) (F_comes_again : Fd P w K mg base cl "comes_again" 5 m_comes_again []) : FnOk P w K mg base (L2.CX P w) 6 f fd ["one", "ring", "most", "due"] (spM K cl m__law_says) := by
  refine ok_def 4 6 F sc__law_says rfl rfl fun cdv A outer s H E hr tk hp => ?_
  exact (xss_cons (xs_set 4 sc__law_says.nd (xcallTy call_list_of sListOf T.b_list boot_list (xcons (xv 1) xnil)))
    (xss_cons (xs_set 5 sc__law_says.nd (xcall F_comes_again hr tk (xcons (xv 0) (xcons (xv 4) (xcons (xv 2) xnil)))))
    (xss_cons (xs_if (xcmpNT (op_neD hr.units) oNeD (xv 4) (xv 1)) (xss_one (xs_ret xbl)) xss_nil)
    (xss_cons (xs_if (xcmpT op_isN oIsN (xv 3) xnon) (xss_one (xs_ret (xcmp op_isN oIsN (xv 5) xnon))) xss_nil)
    (xss_cons (xs_if (PW.pt (xor' (xnot (xval (xisi T.b_isinstance T.b_tuple boot_tuple (xv 5)))) (xor1 (xcmpT op_ne oNe (xcallB call_len_seq sLen T.b_len boot_len (xcons (xv 5) xnil)) xint)))) (xss_one (xs_ret xbl)) xss_nil)
    (xss_one (xs_ret (xandV (xcall F__law_whole hr tk (xcons (xix ix_tup oIxT (xv 5) xint) xnil)) (xandV (xcall F__law_whole hr tk (xcons (xix ix_tup oIxT (xv 5) xint) xnil)) (xone (xcmpN (op_eqD hr.units) oEqD (xv 5) (xv 3))))))))))))
abbrev s_law : Stmt := top 27
theorem sc_law : FnScope ["script", "xs", "way", "signs", "many", "size", "table", "one", "told", "wider", "wide", "ring", "due", "k"] ["script"] (defScope s_law) := ⟨rfl, rfl, rfl, by decide +kernel, rfl, by decide +kernel, by decide +kernel⟩
theorem ok_law {f : Addr} {fd : FuncData} (F : FnP K "law" s_law [] f fd) (T : Txt mg) (F__law_cell_at : Fd P w K mg base cl "_law_cell_at" 1 m__law_cell_at []) (F__law_due : Fd P w K mg base cl "_law_due" 2 m__law_due []) (F__law_low : Fd P w K mg base cl "_law_low" 1 m__law_low []) (F__law_ring : Fd P w K mg base cl "_law_ring" 2 m__law_ring []) (F__law_says : Fd P w K mg base cl "_law_says" 6 m__law_says []) (F__law_stream : Fd P w K mg base cl "_law_stream" 1 m__law_stream []) (F__law_table : Fd P w K mg base cl "_law_table" 2 m__law_table []) : FnOk P w K mg base (L2.CX P w) 7 f fd ["script"] (spM K cl m_law) := by
  refine ok_def 1 14 F sc_law rfl rfl fun cdv A outer s H E hr tk hp => ?_
  exact (xss_cons (xs_set 1 sc_law.nd (xcall F__law_stream hr tk (xcons (xcall F__law_cell_at hr tk (xcons (xv 0) (xcons xint xnil))) (xcons xint xnil))))
    (xss_cons (xs_set 2 sc_law.nd (xop op_mod oMod (xix ix_list oIxL (xv 1) xint) xint))
    (xss_cons (xs_set 3 sc_law.nd (xop op_add oAdd xint (xop op_mod oMod (xix ix_list oIxL (xv 1) xint) xint)))
    (xss_cons (xs_set 4 sc_law.nd (xop op_add oAdd xint (xop op_mul oMul (xop op_mod oMod (xix ix_list oIxL (xv 1) xint) xint) (xcallTy call_int1 sInt1 T.b_int boot_int (xcons (xcmp op_lt oLt (xv 3) xint) xnil)))))
    (xss_cons (xs_set 5 sc_law.nd (xop op_add oAdd xint (xop op_mod oMod (xcall F__law_cell_at hr tk (xcons (xv 0) (xcons xint xnil))) (xix ix_list oIxL (xlst (xcons xint (xcons xint (xcons xint xnil)))) (xv 2)))))
    (xss_cons (xs_if (PW.pt (xand (xcmpT op_eq oEq (xv 2) xint) (xand1 (xcmpT op_eq oEq (xop op_mod oMod (xix ix_list oIxL (xv 1) xint) xint) xint)))) (xss_cons (xs_set 5 sc_law.nd (xop op_add oAdd xint (xop op_mod oMod (xcall F__law_cell_at hr tk (xcons (xv 0) (xcons xint xnil))) xint)))
    (xss_one (xs_setix xint (xv 1) xint))) xss_nil)
    (xss_cons (xs_set 6 sc_law.nd (xcall F__law_table hr tk (xcons (xv 2) (xcons (xv 3) (xcons (xv 4) (xcons (xv 1) xnil))))))
    (xss_cons (xs_set 7 sc_law.nd (xtup (xcons (xv 3) (xcons (xcall F__law_low hr tk (xcons (xcall F__law_cell_at hr tk (xcons (xv 0) (xcons xint xnil))) xnil)) (xcons (xcallTy call_tuple_of sTupOf T.b_tuple boot_tuple (xcons (xv 6) xnil)) xnil)))))
    (xss_cons (xs_set 8 sc_law.nd (xv 7))
    (xss_cons (xs_set 9 sc_law.nd (xop op_mod oMod (xcall F__law_cell_at hr tk (xcons (xv 0) (xcons xint xnil))) xint))
    (xss_cons (xs_if (PW.pt (xand (xcmpT op_eq oEq (xv 9) xint) (xand1 (xcmpT op_le oLe (xop op_mul oMul (xcallB call_len_seq sLen T.b_len boot_len (xcons (xv 6) xnil)) (xv 3)) xint)))) (xss_one (xs_set 8 sc_law.nd (xtup (xcons (xv 3) (xcons (xop op_sub oSub (xix ix_tup oIxT (xv 7) xint) xint) (xcons (xcallTy call_tuple_of sTupOf T.b_tuple boot_tuple (xcons (xop op_rep oRep (xv 6) (xv 3)) xnil)) xnil)))))) xss_nil)
    (xss_cons (xs_if (PW.pt (xand (xcmpT op_eq oEq (xv 9) xint) (xand1 (xcmpT op_le oLe (xop op_mul oMul (xcallB call_len_seq sLen T.b_len boot_len (xcons (xv 6) xnil)) (xv 3)) xint)))) (xss_cons (xs_setLc FUEL (own := [("k", 13)]) 10 sc_law.nd (sw_true rfl rfl rfl (by decide +kernel)) (xi_r1 T.b_range (xop op_mul oMul (xcallB call_len_seq sLen T.b_len boot_len (xcons (xv 6) xnil)) (xv 3))) (by show blkC ["script", "xs", "way", "signs", "many", "size", "table", "one", "told", "wider", "wide", "ring", "due", "k"] (defScope s_law) _ _ = true; decide +kernel) (fun _ _ _ _ _ => (pg_name (i := 13) sc_law.nd rfl (by first | exact Or.inl rfl | exact Or.inr rfl))) gs_name (by decide) (fun _ _ _ _ _ => xts_nil) (fun _ _ _ _ _ => (xix ix_list oIxL (xv 6) (xop op_fdiv oDiv (xv 13) (xv 3)))))
    (xss_one (xs_set 8 sc_law.nd (xtup (xcons (xv 3) (xcons (xix ix_tup oIxT (xv 7) xint) (xcons (xcallTy call_tuple_of sTupOf T.b_tuple boot_tuple (xcons (xv 10) xnil)) xnil))))))) xss_nil)
    (xss_cons (xs_set 11 sc_law.nd (xcall F__law_ring hr tk (xcons (xv 0) (xcons (xv 3) (xcons (xv 5) (xcons (xv 2) xnil))))))
    (xss_cons (xs_set 12 sc_law.nd (xcall F__law_due hr tk (xcons (xv 7) (xcons (xv 4) (xcons (xv 11) xnil)))))
    (xss_cons (xs_if (xnot (xval (xcall F__law_says hr tk (xcons (xv 8) (xcons (xv 11) (xcons xint (xcons (xv 12) xnil))))))) (xss_one (xs_ret xbl)) xss_nil)
    (xss_cons (xs_if (xcmpT op_isN oIsN (xv 12) xnon) (xss_one (xs_ret xbl)) xss_nil)
    (xss_one (xs_ret (xandV (xcall F__law_says hr tk (xcons (xv 8) (xcons (xv 11) (xcons (xcallB (cr_sumT rfl) sSumT T.b_sum boot_sum (xcons (xv 12) xnil)) (xcons (xv 12) xnil))))) (xone (xcall F__law_says hr tk (xcons (xv 8) (xcons (xv 11) (xcons (xop op_sub oSub (xcallB (cr_sumT rfl) sSumT T.b_sum boot_sum (xcons (xv 12) xnil)) xint) (xcons xnon xnil)))))))))))))))))))))))))
end
end K15
end

section
set_option Elab.async false
set_option linter.all false
set_option maxRecDepth 100000
set_option maxHeartbeats 0
namespace K15
open PySem PySem.Spec PyProof.Rows L2 Xq
def d_is_whole : He.DefD := ⟨("is_whole", none), "is_whole", "is_whole", defArgs s_is_whole, defBody s_is_whole, defScope s_is_whole, [], []⟩
def d_is_sign : He.DefD := ⟨("is_sign", none), "is_sign", "is_sign", defArgs s_is_sign, defBody s_is_sign, defScope s_is_sign, [], []⟩
def d_ask_word : He.DefD := ⟨("ask_word", none), "ask_word", "ask_word", defArgs s_ask_word, defBody s_ask_word, defScope s_ask_word, [.int 0], []⟩
def d_value : He.DefD := ⟨("value", none), "value", "value", defArgs s_value, defBody s_value, defScope s_value, [], []⟩
def d_exponent : He.DefD := ⟨("exponent", none), "exponent", "exponent", defArgs s_exponent, defBody s_exponent, defScope s_exponent, [], []⟩
def d_places : He.DefD := ⟨("places", none), "places", "places", defArgs s_places, defBody s_places, defScope s_places, [], []⟩
def d_sign_told : He.DefD := ⟨("sign_told", none), "sign_told", "sign_told", defArgs s_sign_told, defBody s_sign_told, defScope s_sign_told, [], []⟩
def d_led_ring : He.DefD := ⟨("led_ring", none), "led_ring", "led_ring", defArgs s_led_ring, defBody s_led_ring, defScope s_led_ring, [], []⟩
def d_comes_again : He.DefD := ⟨("comes_again", none), "comes_again", "comes_again", defArgs s_comes_again, defBody s_comes_again, defScope s_comes_again, [.int 64], []⟩
def d__law_whole : He.DefD := ⟨("_law_whole", none), "_law_whole", "_law_whole", defArgs s__law_whole, defBody s__law_whole, defScope s__law_whole, [], []⟩
def d__law_cell_at : He.DefD := ⟨("_law_cell_at", none), "_law_cell_at", "_law_cell_at", defArgs s__law_cell_at, defBody s__law_cell_at, defScope s__law_cell_at, [], []⟩
def d__law_stream : He.DefD := ⟨("_law_stream", none), "_law_stream", "_law_stream", defArgs s__law_stream, defBody s__law_stream, defScope s__law_stream, [], []⟩
def d__law_word : He.DefD := ⟨("_law_word", none), "_law_word", "_law_word", defArgs s__law_word, defBody s__law_word, defScope s__law_word, [], []⟩
def d__law_told : He.DefD := ⟨("_law_told", none), "_law_told", "_law_told", defArgs s__law_told, defBody s__law_told, defScope s__law_told, [], []⟩
def d__law_table : He.DefD := ⟨("_law_table", none), "_law_table", "_law_table", defArgs s__law_table, defBody s__law_table, defScope s__law_table, [], []⟩
def d__law_low : He.DefD := ⟨("_law_low", none), "_law_low", "_law_low", defArgs s__law_low, defBody s__law_low, defScope s__law_low, [], []⟩
def d__law_ring : He.DefD := ⟨("_law_ring", none), "_law_ring", "_law_ring", defArgs s__law_ring, defBody s__law_ring, defScope s__law_ring, [], []⟩
def d__law_once : He.DefD := ⟨("_law_once", none), "_law_once", "_law_once", defArgs s__law_once, defBody s__law_once, defScope s__law_once, [], []⟩
def d__law_due : He.DefD := ⟨("_law_due", none), "_law_due", "_law_due", defArgs s__law_due, defBody s__law_due, defScope s__law_due, [], []⟩
def d__law_says : He.DefD := ⟨("_law_says", none), "_law_says", "_law_says", defArgs s__law_says, defBody s__law_says, defScope s__law_says, [], []⟩
def d_law : He.DefD := ⟨("law", none), "law", "law", defArgs s_law, defBody s_law, defScope s_law, [], []⟩
def fn : List He.DefD := [d_is_whole, d_is_sign, d_ask_word, d_value, d_exponent, d_places, d_sign_told, d_led_ring, d_comes_again, d__law_whole, d__law_cell_at, d__law_stream, d__law_word, d__law_told, d__law_table, d__law_low, d__law_ring, d__law_once, d__law_due, d__law_says, d_law]
def fa : List He.Fa := [.glo "is_whole", .glo "is_sign", .glo "ask_word", .glo "value", .glo "exponent", .glo "places", .glo "sign_told", .glo "led_ring", .glo "comes_again", .glo "_law_whole", .glo "_law_cell_at", .glo "_law_stream", .glo "_law_word", .glo "_law_told", .glo "_law_table", .glo "_law_low", .glo "_law_ring", .glo "_law_once", .glo "_law_due", .glo "_law_says", .glo "law", .free "bool", .free "int", .free "isinstance", .free "len", .free "list", .free "max", .free "min", .free "range", .free "sum", .free "tuple", .free "zip"]
abbrev R : PySem.W.OpenRow := PySem.W.OpenLaw.row PySem.Challenge.rw_rowrules_k15_rings_that_come_late
abbrev hk : PySem.W.Hook := He.hookD 4 fa fn
def ob (s : PySem.W.SharedT) : He.AlD := He.obsDG 4 fa fn (HandSHeadRun.getT s)
theorem ob_eq (s : PySem.W.SharedT) : ob s = hk.obs s.abs := He.obsDG_eq (HandSHeadRun.getT_eq s)
def loose0 : List PySem.Str := ["RowError", "NoRow", "is_whole", "is_sign", "ask_word", "value", "exponent", "places", "sign_told", "led_ring", "comes_again", "_law_whole", "_law_cell_at", "_law_stream", "_law_word", "_law_told", "_law_table", "_law_low", "_law_ring", "_law_once", "_law_due", "_law_says"]
def loose : List PySem.Str := loose0
theorem run (w : World) : HandSHeadRun.RunEq R (PySem.W.view R.prog [27]) hk ob 40000 loose w := by
  intro os
  kernel_rfl
theorem facts {P : Program} {w : World} {K : PySem.W.Frag} {h : Heap} {mg : Str → Option Value} {f : Addr} {cl : Nat → Value} (X : K.In h) (G : h.Ns mainGlobals mg) (hfa : mg ("law" : Str) = some (.ref f)) (c : He.SaysD fa fn K) :
    ∃ fd : FuncData, (∀ (s : Shared) (v : Value), BindsTo s fd ⟨[v], []⟩ [("script", v)]) ∧ ∀ base : Heap, K.In base → base.Ns mainGlobals mg → FnOk P w K mg base (L2.CX P w) 7 f fd ["script"] (spM K cl m_law) := by
  have T : Txt mg := ⟨He.free_ok X G (c.fact 21 (f := .free "bool") rfl), He.free_ok X G (c.fact 22 (f := .free "int") rfl), He.free_ok X G (c.fact 23 (f := .free "isinstance") rfl), He.free_ok X G (c.fact 24 (f := .free "len") rfl), He.free_ok X G (c.fact 25 (f := .free "list") rfl), He.free_ok X G (c.fact 26 (f := .free "max") rfl), He.free_ok X G (c.fact 27 (f := .free "min") rfl), He.free_ok X G (c.fact 28 (f := .free "range") rfl), He.free_ok X G (c.fact 29 (f := .free "sum") rfl), He.free_ok X G (c.fact 30 (f := .free "tuple") rfl), He.free_ok X G (c.fact 31 (f := .free "zip") rfl)⟩
  obtain ⟨fdl, FFl⟩ := c.def_ 20 (d := d_law) rfl
  have e := hfa.symm.trans (He.glo_ok X G (c.fact 20 (f := .glo "law") rfl))
  cases e
  have b := FunD.bindsA (ps := ["script"]) FFl fun _ _ _ _ _ _ us hl => match us, hl with | [_], _ => rfl
  refine ⟨fdl, fun s v => b s [v] rfl, fun base _ _ => ?_⟩
  obtain ⟨fd_is_whole, FF_is_whole⟩ := c.def_ 0 (d := d_is_whole) rfl
  have G_is_whole : FnOk P w K mg base (L2.CX P w) 1 _ _ ["thing"] (spM K cl m_is_whole) := ok_is_whole FF_is_whole T 
  have F_is_whole : Fd P w K mg base cl "is_whole" 1 m_is_whole [] := ⟨_, fd_is_whole, _, [], [], He.glo_ok X G (c.fact 0 (f := .glo "is_whole") rfl), FF_is_whole.kp, FF_is_whole.bindsN fun _ _ _ _ _ _ us hl => match us, hl with | [_], _ => rfl, .nil, fun _ _ => .nil, G_is_whole⟩
  obtain ⟨fd_is_sign, FF_is_sign⟩ := c.def_ 1 (d := d_is_sign) rfl
  have G_is_sign : FnOk P w K mg base (L2.CX P w) 2 _ _ ["thing", "signs"] (spM K cl m_is_sign) := ok_is_sign FF_is_sign T F_is_whole
  have F_is_sign : Fd P w K mg base cl "is_sign" 2 m_is_sign [] := ⟨_, fd_is_sign, _, [], [], He.glo_ok X G (c.fact 1 (f := .glo "is_sign") rfl), FF_is_sign.kp, FF_is_sign.bindsN fun _ _ _ _ _ _ us hl => match us, hl with | [_, _], _ => rfl, .nil, fun _ _ => .nil, G_is_sign⟩
  obtain ⟨fd_ask_word, FF_ask_word⟩ := c.def_ 2 (d := d_ask_word) rfl
  have G_ask_word : FnOk P w K mg base (L2.CX P w) 3 _ _ ["word", "signs", "least"] (spM K cl m_ask_word) := ok_ask_word FF_ask_word T F_is_sign
  have F_ask_word : Fd P w K mg base cl "ask_word" 3 m_ask_word [] := by
    obtain ⟨ds, hv, hb⟩ := FunD.binds1 (ps := ["word", "signs", "least"]) FF_ask_word 3 1 (by simp [He.DefD.dvs, d_ask_word]) rfl (fun T kV doc pm an cdv ct us its hu hi => match us, hu, its, hi with | [_, _, _], _, [_], _ => ⟨_, rfl, rfl⟩)
    exact ⟨_, fd_ask_word, _, _, ds, He.glo_ok X G (c.fact 2 (f := .glo "ask_word") rfl), FF_ask_word.kp, hb, hv, fun p ρ => by simp only [He.DefD.dvs, d_ask_word]; exact .nil, G_ask_word⟩
  obtain ⟨fd_value, FF_value⟩ := c.def_ 3 (d := d_value) rfl
  have G_value : FnOk P w K mg base (L2.CX P w) 1 _ _ ["word", "signs"] (spM K cl m_value) := ok_value FF_value T 
  have F_value : Fd P w K mg base cl "value" 1 m_value [] := ⟨_, fd_value, _, [], [], He.glo_ok X G (c.fact 3 (f := .glo "value") rfl), FF_value.kp, FF_value.bindsN fun _ _ _ _ _ _ us hl => match us, hl with | [_, _], _ => rfl, .nil, fun _ _ => .nil, G_value⟩
  obtain ⟨fd_exponent, FF_exponent⟩ := c.def_ 4 (d := d_exponent) rfl
  have G_exponent : FnOk P w K mg base (L2.CX P w) 1 _ _ ["signs", "size"] (spM K cl m_exponent) := ok_exponent FF_exponent T 
  have F_exponent : Fd P w K mg base cl "exponent" 1 m_exponent [] := ⟨_, fd_exponent, _, [], [], He.glo_ok X G (c.fact 4 (f := .glo "exponent") rfl), FF_exponent.kp, FF_exponent.bindsN fun _ _ _ _ _ _ us hl => match us, hl with | [_, _], _ => rfl, .nil, fun _ _ => .nil, G_exponent⟩
  obtain ⟨fd_places, FF_places⟩ := c.def_ 5 (d := d_places) rfl
  have G_places : FnOk P w K mg base (L2.CX P w) 2 _ _ ["one"] (spM K cl m_places) := ok_places FF_places T F_exponent
  have F_places : Fd P w K mg base cl "places" 2 m_places [] := ⟨_, fd_places, _, [], [], He.glo_ok X G (c.fact 5 (f := .glo "places") rfl), FF_places.kp, FF_places.bindsN fun _ _ _ _ _ _ us hl => match us, hl with | [_], _ => rfl, .nil, fun _ _ => .nil, G_places⟩
  obtain ⟨fd_sign_told, FF_sign_told⟩ := c.def_ 6 (d := d_sign_told) rfl
  have G_sign_told : FnOk P w K mg base (L2.CX P w) 2 _ _ ["one", "word"] (spM K cl m_sign_told) := ok_sign_told FF_sign_told T F_value
  have F_sign_told : Fd P w K mg base cl "sign_told" 2 m_sign_told [] := ⟨_, fd_sign_told, _, [], [], He.glo_ok X G (c.fact 6 (f := .glo "sign_told") rfl), FF_sign_told.kp, FF_sign_told.bindsN fun _ _ _ _ _ _ us hl => match us, hl with | [_, _], _ => rfl, .nil, fun _ _ => .nil, G_sign_told⟩
  obtain ⟨fd_led_ring, FF_led_ring⟩ := c.def_ 7 (d := d_led_ring) rfl
  have G_led_ring : FnOk P w K mg base (L2.CX P w) 4 _ _ ["one", "ring"] (spM K cl m_led_ring) := ok_led_ring FF_led_ring T F_ask_word F_places F_sign_told
  have F_led_ring : Fd P w K mg base cl "led_ring" 4 m_led_ring [] := ⟨_, fd_led_ring, _, [], [], He.glo_ok X G (c.fact 7 (f := .glo "led_ring") rfl), FF_led_ring.kp, FF_led_ring.bindsN fun _ _ _ _ _ _ us hl => match us, hl with | [_, _], _ => rfl, .nil, fun _ _ => .nil, G_led_ring⟩
  obtain ⟨fd_comes_again, FF_comes_again⟩ := c.def_ 8 (d := d_comes_again) rfl
  have G_comes_again : FnOk P w K mg base (L2.CX P w) 5 _ _ ["one", "ring", "most"] (spM K cl m_comes_again) := ok_comes_again FF_comes_again T F_ask_word F_led_ring
  have F_comes_again : Fd P w K mg base cl "comes_again" 5 m_comes_again [] := by
    obtain ⟨ds, hv, hb⟩ := FunD.binds1 (ps := ["one", "ring", "most"]) FF_comes_again 3 1 (by simp [He.DefD.dvs, d_comes_again]) rfl (fun T kV doc pm an cdv ct us its hu hi => match us, hu, its, hi with | [_, _, _], _, [_], _ => ⟨_, rfl, rfl⟩)
    exact ⟨_, fd_comes_again, _, _, ds, He.glo_ok X G (c.fact 8 (f := .glo "comes_again") rfl), FF_comes_again.kp, hb, hv, fun p ρ => by simp only [He.DefD.dvs, d_comes_again]; exact .nil, G_comes_again⟩
  obtain ⟨fd__law_whole, FF__law_whole⟩ := c.def_ 9 (d := d__law_whole) rfl
  have G__law_whole : FnOk P w K mg base (L2.CX P w) 1 _ _ ["found"] (spM K cl m__law_whole) := ok__law_whole FF__law_whole T 
  have F__law_whole : Fd P w K mg base cl "_law_whole" 1 m__law_whole [] := ⟨_, fd__law_whole, _, [], [], He.glo_ok X G (c.fact 9 (f := .glo "_law_whole") rfl), FF__law_whole.kp, FF__law_whole.bindsN fun _ _ _ _ _ _ us hl => match us, hl with | [_], _ => rfl, .nil, fun _ _ => .nil, G__law_whole⟩
  obtain ⟨fd__law_cell_at, FF__law_cell_at⟩ := c.def_ 10 (d := d__law_cell_at) rfl
  have G__law_cell_at : FnOk P w K mg base (L2.CX P w) 1 _ _ ["script", "k"] (spM K cl m__law_cell_at) := ok__law_cell_at FF__law_cell_at T 
  have F__law_cell_at : Fd P w K mg base cl "_law_cell_at" 1 m__law_cell_at [] := ⟨_, fd__law_cell_at, _, [], [], He.glo_ok X G (c.fact 10 (f := .glo "_law_cell_at") rfl), FF__law_cell_at.kp, FF__law_cell_at.bindsN fun _ _ _ _ _ _ us hl => match us, hl with | [_, _], _ => rfl, .nil, fun _ _ => .nil, G__law_cell_at⟩
  obtain ⟨fd__law_stream, FF__law_stream⟩ := c.def_ 11 (d := d__law_stream) rfl
  have G__law_stream : FnOk P w K mg base (L2.CX P w) 1 _ _ ["cell", "many"] (spM K cl m__law_stream) := ok__law_stream FF__law_stream T 
  have F__law_stream : Fd P w K mg base cl "_law_stream" 1 m__law_stream [] := ⟨_, fd__law_stream, _, [], [], He.glo_ok X G (c.fact 11 (f := .glo "_law_stream") rfl), FF__law_stream.kp, FF__law_stream.bindsN fun _ _ _ _ _ _ us hl => match us, hl with | [_, _], _ => rfl, .nil, fun _ _ => .nil, G__law_stream⟩
  obtain ⟨fd__law_word, FF__law_word⟩ := c.def_ 12 (d := d__law_word) rfl
  have G__law_word : FnOk P w K mg base (L2.CX P w) 1 _ _ ["number", "signs", "many"] (spM K cl m__law_word) := ok__law_word FF__law_word T 
  have F__law_word : Fd P w K mg base cl "_law_word" 1 m__law_word [] := ⟨_, fd__law_word, _, [], [], He.glo_ok X G (c.fact 12 (f := .glo "_law_word") rfl), FF__law_word.kp, FF__law_word.bindsN fun _ _ _ _ _ _ us hl => match us, hl with | [_, _, _], _ => rfl, .nil, fun _ _ => .nil, G__law_word⟩
  obtain ⟨fd__law_told, FF__law_told⟩ := c.def_ 13 (d := d__law_told) rfl
  have G__law_told : FnOk P w K mg base (L2.CX P w) 1 _ _ ["way", "signs", "word", "xs"] (spM K cl m__law_told) := ok__law_told FF__law_told T 
  have F__law_told : Fd P w K mg base cl "_law_told" 1 m__law_told [] := ⟨_, fd__law_told, _, [], [], He.glo_ok X G (c.fact 13 (f := .glo "_law_told") rfl), FF__law_told.kp, FF__law_told.bindsN fun _ _ _ _ _ _ us hl => match us, hl with | [_, _, _, _], _ => rfl, .nil, fun _ _ => .nil, G__law_told⟩
  obtain ⟨fd__law_table, FF__law_table⟩ := c.def_ 14 (d := d__law_table) rfl
  have G__law_table : FnOk P w K mg base (L2.CX P w) 2 _ _ ["way", "signs", "many", "xs"] (spM K cl m__law_table) := ok__law_table FF__law_table T F__law_told F__law_word
  have F__law_table : Fd P w K mg base cl "_law_table" 2 m__law_table [] := ⟨_, fd__law_table, _, [], [], He.glo_ok X G (c.fact 14 (f := .glo "_law_table") rfl), FF__law_table.kp, FF__law_table.bindsN fun _ _ _ _ _ _ us hl => match us, hl with | [_, _, _, _], _ => rfl, .nil, fun _ _ => .nil, G__law_table⟩
  obtain ⟨fd__law_low, FF__law_low⟩ := c.def_ 15 (d := d__law_low) rfl
  have G__law_low : FnOk P w K mg base (L2.CX P w) 1 _ _ ["cell"] (spM K cl m__law_low) := ok__law_low FF__law_low T 
  have F__law_low : Fd P w K mg base cl "_law_low" 1 m__law_low [] := ⟨_, fd__law_low, _, [], [], He.glo_ok X G (c.fact 15 (f := .glo "_law_low") rfl), FF__law_low.kp, FF__law_low.bindsN fun _ _ _ _ _ _ us hl => match us, hl with | [_], _ => rfl, .nil, fun _ _ => .nil, G__law_low⟩
  obtain ⟨fd__law_ring, FF__law_ring⟩ := c.def_ 16 (d := d__law_ring) rfl
  have G__law_ring : FnOk P w K mg base (L2.CX P w) 2 _ _ ["script", "signs", "size", "way"] (spM K cl m__law_ring) := ok__law_ring FF__law_ring T F__law_cell_at F__law_stream
  have F__law_ring : Fd P w K mg base cl "_law_ring" 2 m__law_ring [] := ⟨_, fd__law_ring, _, [], [], He.glo_ok X G (c.fact 16 (f := .glo "_law_ring") rfl), FF__law_ring.kp, FF__law_ring.bindsN fun _ _ _ _ _ _ us hl => match us, hl with | [_, _, _, _], _ => rfl, .nil, fun _ _ => .nil, G__law_ring⟩
  obtain ⟨fd__law_once, FF__law_once⟩ := c.def_ 17 (d := d__law_once) rfl
  have G__law_once : FnOk P w K mg base (L2.CX P w) 1 _ _ ["one", "many", "ring"] (spM K cl m__law_once) := ok__law_once FF__law_once T 
  have F__law_once : Fd P w K mg base cl "_law_once" 1 m__law_once [] := ⟨_, fd__law_once, _, [], [], He.glo_ok X G (c.fact 17 (f := .glo "_law_once") rfl), FF__law_once.kp, FF__law_once.bindsN fun _ _ _ _ _ _ us hl => match us, hl with | [_, _, _], _ => rfl, .nil, fun _ _ => .nil, G__law_once⟩
  obtain ⟨fd__law_due, FF__law_due⟩ := c.def_ 18 (d := d__law_due) rfl
  have G__law_due : FnOk P w K mg base (L2.CX P w) 2 _ _ ["one", "many", "ring"] (spM K cl m__law_due) := ok__law_due FF__law_due T F__law_once
  have F__law_due : Fd P w K mg base cl "_law_due" 2 m__law_due [] := ⟨_, fd__law_due, _, [], [], He.glo_ok X G (c.fact 18 (f := .glo "_law_due") rfl), FF__law_due.kp, FF__law_due.bindsN fun _ _ _ _ _ _ us hl => match us, hl with | [_, _, _], _ => rfl, .nil, fun _ _ => .nil, G__law_due⟩
  obtain ⟨fd__law_says, FF__law_says⟩ := c.def_ 19 (d := d__law_says) rfl
  have G__law_says : FnOk P w K mg base (L2.CX P w) 6 _ _ ["one", "ring", "most", "due"] (spM K cl m__law_says) := ok__law_says FF__law_says T F__law_whole F_comes_again
  have F__law_says : Fd P w K mg base cl "_law_says" 6 m__law_says [] := ⟨_, fd__law_says, _, [], [], He.glo_ok X G (c.fact 19 (f := .glo "_law_says") rfl), FF__law_says.kp, FF__law_says.bindsN fun _ _ _ _ _ _ us hl => match us, hl with | [_, _, _, _], _ => rfl, .nil, fun _ _ => .nil, G__law_says⟩
  have FF_law := FFl
  have G_law : FnOk P w K mg base (L2.CX P w) 7 _ _ ["script"] (spM K cl m_law) := ok_law FF_law T F__law_cell_at F__law_due F__law_low F__law_ring F__law_says F__law_stream F__law_table
  have F_law := FFl
  exact G_law
end K15
end

section
set_option Elab.async false
set_option linter.all false
set_option maxRecDepth 100000
set_option maxHeartbeats 2000000
namespace K15
open PySem L2 Xq
local macro_rules | `(tactic| walk_at "ex") => `(tactic| simp only [mDef, mSeq, mSet, mRet, mDrop, mIf, mVar, mC, mOp, mIx, mArg, mCall, mCons, mNil, mTst, mNotT, mAndT, mOrT, mAndV, mOrV, mNotV, mUn, mChain, Ou.bind, Ou.stm, mNext, mStop, mBM, mLst, mTup, new, mSetIx, mDGet, mDPut, mDIn, mIsi, mSl, mPart, mNo, mAug, mAsg, List.getElem?_cons_zero, List.getElem?_cons_succ, List.set_cons_zero, List.set_cons_succ, List.length_cons, List.length_nil, List.cons_append, List.nil_append, List.append_nil, List.map_cons, List.map_nil, List.replicate_succ, List.replicate_zero, Nat.reduceAdd, Nat.reduceSub, if_true, ite_true, mFor, mWhile, mIR1, mIR2, mNewT, mNewK, mIList])
local macro_rules | `(tactic| walk_at "exh") => `(tactic| simp only [mDef, mSeq, mSet, mRet, mDrop, mIf, mVar, mC, mOp, mIx, mArg, mCall, mCons, mNil, mTst, mNotT, mAndT, mOrT, mAndV, mOrV, mNotV, mUn, mChain, Ou.bind, Ou.stm, mNext, mStop, mBM, mLst, mTup, new, mSetIx, mDGet, mDPut, mDIn, mIsi, mSl, mPart, mNo, mAug, mAsg, List.getElem?_cons_zero, List.getElem?_cons_succ, List.set_cons_zero, List.set_cons_succ, List.length_cons, List.length_nil, List.cons_append, List.nil_append, List.append_nil, List.map_cons, List.map_nil, List.replicate_succ, List.replicate_zero, Nat.reduceAdd, Nat.reduceSub, if_true, ite_true, mFor, mWhile, mIR1, mIR2, mNewT, mNewK, mIList, Int.toNat_natCast, List.length_map, Bool.false_eq_true, if_false, Option.isSome_some, Option.isSome_none, decide_true, Bool.not_true, Bool.not_false, *])
/-! ### mathematics -/
def val (s : Int) (xs : List Int) : Int := xs.foldl (fun n x => n * s + x) 0
def signs (s : Int) (xs : List Int) : Prop := ∀ x ∈ xs, 0 ≤ x ∧ x < s

theorem is_whole_int (ns : List Int) (i : Int) (h : CH) : m_is_whole ns [.int i] h = .ok (.bl true) h := rfl
theorem is_sign_ok (ns : List Int) {i s : Int} (h : CH) (h0 : 0 ≤ i) (h1 : i < s) : m_is_sign ns [.int i, .int s] h = .ok (.bl true) h := by
  unfold m_is_sign
  walk_at "ex"
  rw [is_whole_int]
  have a : ltZ i 0 = false := by rw [ltZ_eq]; exact decide_eq_false (by omega)
  have b : ltZ i s = true := ltZ_iff.mpr h1
  simp only [fLe, fLt, fO, ltC, a, b, Option.map_some, Bool.not_false]
theorem r62_nat {n : Nat} (h : n ≤ 1000000) : r62 (n : Int) = true := by
  show Nat.ble n 1000000000000 = true
  rw [Nat.ble_eq]; omega
theorem fuel : 2000 < FUEL := by unfold FUEL; omega
theorem in64_sign {s : Int} (h0 : 0 ≤ s) (h1 : s ≤ 9) : in64 s = true := in64_iff.mpr ⟨by omega, by omega⟩
theorem ask_word_ok (ns : List Int) {s l : Int} {h : CH} {r : Nat} {xs : List Int} (e : h[r]? = some (.lst (xs.map .int))) (hl : xs.length ≤ 1000) (hs : signs s xs) (hm : l ≤ xs.length) : m_ask_word ns [.ref r, .int s, .int l] h = .ok .non h := by
  have hF := fuel
  unfold m_ask_word
  generalize FUEL = f at hF ⊢
  walk_at "ex"
  rw [fLen_lst e]
  simp only [List.length_map, r62_nat (show xs.length ≤ 1000000 by omega), if_true, Int.toNat_natCast]
  have body : ∀ i v, i < xs.length → m_ask_word_b1 ns ([some (.ref r), some (.int s), some (.int l), v].set 3 (some (.int (0 + (i : Int))))) h = .nx [some (.ref r), some (.int s), some (.int l), some (.int i)] h := by
    intro i v hi
    unfold m_ask_word_b1
    walk_at "ex"
    rw [fIxL_at e (atI_nth (.int 0) (by omega) (by simp; omega))]
    have hx : (List.map CV.int xs).getD (0 + (i : Int)).toNat (CV.int 0) = .int xs[i] := by simp [List.getD, hi]
    rw [hx]
    have ⟨h1, h2⟩ := hs xs[i] (List.getElem_mem hi)
    simp only [is_sign_ok ns h h1 h2, Bool.not_true, Bool.false_eq_true, if_false, Int.zero_add]
  obtain ⟨c', h', z1, rfl, v, rfl⟩ := forR (b := m_ask_word_b1 ns) (lo := 0) (n := xs.length) (s := 3) (f := f) (c := [some (.ref r), some (.int s), some (.int l), none]) (h := h)
    (fun i c h' => h' = h ∧ ∃ v, c = [some (.ref r), some (.int s), some (.int l), v]) (by omega) ⟨rfl, _, rfl⟩ (fun i c h' hi q => by
      obtain ⟨rfl, v, rfl⟩ := q
      exact ⟨_, _, body i v hi, rfl, _, rfl⟩)
  rw [z1]
  walk_at "ex"
  rw [fLen_lst e]
  have d : ltZ (xs.length : Int) l = false := by rw [ltZ_eq]; exact decide_eq_false (by omega)
  simp only [List.length_map, fLt, fO, ltC, d, Bool.false_eq_true, if_false]
theorem take_val {xs : List Int} {i : Nat} {s : Int} (hi : i < xs.length) : val s (xs.take (i + 1)) = val s (xs.take i) * s + xs[i] := by
  unfold val
  rw [List.take_succ, List.foldl_append, List.getElem?_eq_getElem hi]
  rfl
theorem value_ok (ns : List Int) {s : Int} {h : CH} {r : Nat} {xs : List Int} (e : h[r]? = some (.lst (xs.map .int))) (hl : xs.length ≤ 1000) (h0 : 0 ≤ s) (h1 : s ≤ 9) : m_value ns [.ref r, .int s] h = .ok (.int (val s xs)) h := by
  have hF := fuel
  unfold m_value
  generalize FUEL = f at hF ⊢
  walk_at "ex"
  rw [lstC_ref e]
  dsimp only
  obtain ⟨c', h', z1, rfl, v, rfl⟩ := forL (ns := ns) (v := .ref r) (xs := xs.map .int) (b := m_value_b1 ns) (s := 3) (f := f) (c := [some (.ref r), some (.int s), some (.int 0), none]) (h := h)
    (fun i c h' => h' = h ∧ ∃ v, c = [some (.ref r), some (.int s), some (.int (val s (xs.take i))), v]) (by simp; omega) ⟨rfl, _, rfl⟩ (fun i c h' q => by rw [q.1]; exact lstC_ref e) (fun i c h' x hx q => by
      obtain ⟨rfl, v, rfl⟩ := q
      have hi : i < xs.length := by
        have := (List.getElem?_eq_some_iff.mp hx).1
        simpa using this
      have hx' : x = .int xs[i] := by
        rw [List.getElem?_map, List.getElem?_eq_getElem hi] at hx
        exact (Option.some.inj hx).symm
      subst hx'
      refine ⟨_, _, ?_, rfl, some (.int xs[i]), rfl⟩
      unfold m_value_b1
      walk_at "ex"
      have hm : bMul (val s (xs.take i)) s = true := bMul_iff.mpr (.inr (in64_iff.mp (in64_sign h0 h1)))
      simp only [fMul, fIC, hm, if_true, fAdd, take_val hi])
  rw [z1]
  walk_at "ex"
  simp only [List.length_map, List.take_length]
theorem exp_loop (ns : List Int) {s : Int} {h : CH} (h2 : 2 ≤ s) (h9 : s ≤ 9) (m : Nat) : ∀ (d k f : Nat), k + d = m → d < f →
    loopW (mTst (mOp fLt (mVar 3) (mVar 1)) ns) (m_exponent_b1 ns) f [some (.int s), some (.int (s ^ m)), some (.int k), some (.int (s ^ k))] h = .nx [some (.int s), some (.int (s ^ m)), some (.int m), some (.int (s ^ m))] h
  | 0, k, f + 1, e, hf => by
    have e : k = m := e
    subst e
    unfold loopW
    walk_at "ex"
    have d : ltZ (s ^ k) (s ^ k) = false := by rw [ltZ_eq]; exact decide_eq_false (by omega)
    simp only [fLt, fO, ltC, d, Bool.false_eq_true, if_false]
  | d + 1, k, f + 1, e, hf => by
    unfold loopW
    walk_at "ex"
    have lt : s ^ k < s ^ m := by
      have e1 : m = k + (d + 1) := e.symm
      rw [e1, Int.pow_add]
      have p1 : 1 ≤ s ^ k := Int.pow_pos (by omega)
      have p2 : 1 ≤ s ^ d := Int.pow_pos (by omega)
      have p3 : 2 ≤ s ^ (d + 1) := by
        rw [Int.pow_succ]
        exact Int.le_trans (by omega) (Int.mul_le_mul p2 h2 (by omega) (by omega))
      have := Int.mul_le_mul (Int.le_refl (s ^ k)) p3 (by omega) (by omega)
      omega
    have t : ltZ (s ^ k) (s ^ m) = true := ltZ_iff.mpr lt
    simp only [fLt, fO, ltC, t, if_true]
    have body : m_exponent_b1 ns [some (.int s), some (.int (s ^ m)), some (.int k), some (.int (s ^ k))] h = .nx [some (.int s), some (.int (s ^ m)), some (.int ((k + 1 : Nat) : Int)), some (.int (s ^ (k + 1)))] h := by
      unfold m_exponent_b1
      walk_at "ex"
      have hm : bMul (s ^ k) s = true := bMul_iff.mpr (.inr (in64_iff.mp (in64_sign (by omega) h9)))
      simp only [fMul, fIC, hm, if_true, fAdd, Int.pow_succ, Int.natCast_add, Int.natCast_one]
      walk_at "ex"
    rw [body]
    exact exp_loop ns h2 h9 m d (k + 1) f (by omega) (by omega)
  | _, _, 0, _, hf => absurd hf (Nat.not_lt_zero _)
theorem exponent_ok (ns : List Int) {s : Int} {h : CH} (h2 : 2 ≤ s) (h9 : s ≤ 9) {m : Nat} (h1 : 1 ≤ m) (hm : m ≤ 1000) : m_exponent ns [.int s, .int (s ^ m)] h = .ok (.int m) h := by
  have hF := fuel
  unfold m_exponent
  generalize FUEL = f at hF ⊢
  walk_at "ex"
  have z := exp_loop ns (h := h) h2 h9 m (m - 1) 1 f (by omega) (by omega)
  rw [Int.pow_one] at z
  have z : loopW (mTst (mOp fLt (mVar 3) (mVar 1)) ns) (m_exponent_b1 ns) f [some (.int s), some (.int (s ^ m)), some (.int 1), some (.int s)] h = .nx [some (.int s), some (.int (s ^ m)), some (.int m), some (.int (s ^ m))] h := z
  rw [z]
  walk_at "ex"
  simp only [fEq, fO, eqC, decide_true, if_true]
/-- a rule stands at o -/
structure Rule (h : CH) (o : Nat) (s low : Int) (m : Nat) (t : List Int) : Prop where
  at_ : ∃ q, h[o]? = some (.tup [.int s, .int low, .ref q]) ∧ h[q]? = some (.tup (t.map .int))
  len : (t.length : Int) = s ^ m
  h2 : 2 ≤ s
  h9 : s ≤ 9
  m1 : 1 ≤ m
  m9 : m ≤ 9
  tl : t.length ≤ 1000
  sg : signs s t
theorem Rule.mono {h h' : CH} {o : Nat} {s low : Int} {m : Nat} {t : List Int} (p : h <+: h') (r : Rule h o s low m t) : Rule h' o s low m t :=
  ⟨let ⟨q, a, b⟩ := r.at_; ⟨q, pre_get p a, pre_get p b⟩, r.len, r.h2, r.h9, r.m1, r.m9, r.tl, r.sg⟩
theorem Rule.i0 {h : CH} {o : Nat} {s low : Int} {m : Nat} {t : List Int} (r : Rule h o s low m t) (ns : List Int) : fIxT ns (.ref o) (.int 0) h = .ok (.int s) h := let ⟨_, a, _⟩ := r.at_; fIxT_at a (atI_int (by omega) rfl)
theorem Rule.i1 {h : CH} {o : Nat} {s low : Int} {m : Nat} {t : List Int} (r : Rule h o s low m t) (ns : List Int) : fIxT ns (.ref o) (.int 1) h = .ok (.int low) h := let ⟨_, a, _⟩ := r.at_; fIxT_at a (atI_int (by omega) rfl)
theorem Rule.i2 {h : CH} {o : Nat} {s low : Int} {m : Nat} {t : List Int} (r : Rule h o s low m t) (ns : List Int) : ∃ q, fIxT ns (.ref o) (.int 2) h = .ok (.ref q) h ∧ h[q]? = some (.tup (t.map .int)) := let ⟨q, a, b⟩ := r.at_; ⟨q, fIxT_at a (atI_int (by omega) rfl), b⟩
theorem places_ok (ns : List Int) {h : CH} {o : Nat} {s low : Int} {m : Nat} {t : List Int} (r : Rule h o s low m t) : m_places ns [.ref o] h = .ok (.int m) h := by
  obtain ⟨q, e2, b⟩ := r.i2 ns
  unfold m_places
  walk_at "ex"
  simp only [r.i0 ns, e2, fLen_tup b, List.length_map, r.len, exponent_ok ns r.h2 r.h9 r.m1 (Nat.le_trans r.m9 (by decide))]
theorem fold_bound {s : Int} (h0 : 1 ≤ s) : ∀ (xs : List Int) (n : Int), 0 ≤ n → signs s xs → n * s ^ xs.length ≤ xs.foldl (fun n x => n * s + x) n ∧ xs.foldl (fun n x => n * s + x) n < (n + 1) * s ^ xs.length
  | [], n, _, _ => by
    simp only [List.length_nil, Int.pow_zero, Int.mul_one, List.foldl_nil]
    omega
  | x :: xs, n, hn, hs => by
    have ⟨x0, x1⟩ := hs x List.mem_cons_self
    have hns : 0 ≤ n * s := Int.mul_nonneg hn (by omega)
    obtain ⟨a, b⟩ := fold_bound h0 xs (n * s + x) (by omega) fun y hy => hs y (List.mem_cons_of_mem _ hy)
    rw [List.foldl_cons, List.length_cons, Int.pow_succ]
    have p : 0 ≤ s ^ xs.length := Int.le_of_lt (Int.pow_pos (by omega))
    have e1 : n * (s ^ xs.length * s) = (n * s) * s ^ xs.length := by rw [Int.mul_comm (s ^ xs.length) s, Int.mul_assoc]
    have e2 : (n + 1) * (s ^ xs.length * s) = (n * s + s) * s ^ xs.length := by rw [Int.mul_comm (s ^ xs.length) s, ← Int.mul_assoc, Int.add_mul, Int.one_mul]
    rw [e1, e2]
    have c1 : (n * s) * s ^ xs.length ≤ (n * s + x) * s ^ xs.length := Int.mul_le_mul_of_nonneg_right (by omega) p
    have c2 : (n * s + x + 1) * s ^ xs.length ≤ (n * s + s) * s ^ xs.length := Int.mul_le_mul_of_nonneg_right (by omega) p
    exact ⟨Int.le_trans c1 a, Int.lt_of_lt_of_le b c2⟩
theorem val_bound {s : Int} (h0 : 1 ≤ s) {xs : List Int} (hs : signs s xs) : 0 ≤ val s xs ∧ val s xs < s ^ xs.length := by
  have := fold_bound h0 xs 0 (by omega) hs
  unfold val
  rw [Int.zero_mul, Int.zero_add, Int.one_mul] at this
  exact this
theorem Rule.tab {h : CH} {o : Nat} {s low : Int} {m : Nat} {t xs : List Int} (r : Rule h o s low m t) (hl : xs.length = m) (hs : signs s xs) : 0 ≤ val s xs ∧ val s xs < (t.map CV.int).length := by
  have := val_bound (by have := r.h2; omega) hs
  rw [hl, ← r.len] at this
  rw [List.length_map]
  exact this
theorem getD_int (t : List Int) (i : Nat) : (t.map CV.int).getD i (.int 0) = .int (t.getD i 0) := by
  simp only [List.getD, List.getElem?_map]
  cases t[i]? <;> rfl
theorem sign_told_ok (ns : List Int) {h : CH} {o w : Nat} {s low : Int} {m : Nat} {t xs : List Int} (r : Rule h o s low m t) (e : h[w]? = some (.lst (xs.map .int))) (hl : xs.length = m) (hs : signs s xs) :
    m_sign_told ns [.ref o, .ref w] h = .ok (.int (t.getD (val s xs).toNat 0)) h := by
  obtain ⟨q, e2, b⟩ := r.i2 ns
  obtain ⟨v0, v1⟩ := r.tab hl hs
  unfold m_sign_told
  walk_at "ex"
  simp only [r.i0 ns, e2, value_ok ns e (by have := r.m9; omega) (by have := r.h2; omega) r.h9, fIxT_at b (atI_nth (.int 0) v0 v1), getD_int]

/-! ### a ring led -/
def word (low : Int) (m : Nat) (ring : List Int) (k : Nat) : List Int := (List.range m).map fun j : Nat => ring.getD ((low % ring.length + k + j) % ring.length).toNat 0
def ledI (s low : Int) (m : Nat) (t ring : List Int) : List Int := (List.range ring.length).map fun k : Nat => t.getD (val s (word low m ring k)).toNat 0
theorem word_len (low : Int) (m : Nat) (ring : List Int) (k : Nat) : (word low m ring k).length = m := by simp [word]
theorem getD_mem {t : List Int} {i : Nat} (h : i < t.length) : t.getD i 0 ∈ t := by
  simp only [List.getD, List.getElem?_eq_getElem h, Option.getD_some]
  exact List.getElem_mem h
theorem spot {low : Int} {ring : List Int} (hr : 1 ≤ ring.length) (k j : Nat) : 0 ≤ (low % ring.length + k + j) % (ring.length : Int) ∧ (low % ring.length + k + j) % (ring.length : Int) < ring.length :=
  ⟨Int.emod_nonneg _ (by omega), Int.emod_lt_of_pos _ (by omega)⟩
theorem word_signs {s low : Int} {m : Nat} {ring : List Int} (hr : 1 ≤ ring.length) (hs : signs s ring) (k : Nat) : signs s (word low m ring k) := by
  intro x hx
  obtain ⟨j, _, rfl⟩ := List.mem_map.mp hx
  obtain ⟨h0, h1⟩ := spot (low := low) hr k j
  exact hs _ (getD_mem (by omega))
theorem led_signs {h : CH} {o : Nat} {s low : Int} {m : Nat} {t ring : List Int} (r : Rule h o s low m t) (hr : 1 ≤ ring.length) (hs : signs s ring) : signs s (ledI s low m t ring) := by
  intro x hx
  obtain ⟨k, _, rfl⟩ := List.mem_map.mp hx
  obtain ⟨v0, v1⟩ := r.tab (word_len low m ring k) (word_signs hr hs k)
  rw [List.length_map] at v1
  exact r.sg _ (getD_mem (by omega))
theorem led_len (s low : Int) (m : Nat) (t ring : List Int) : (ledI s low m t ring).length = ring.length := by simp [ledI]
theorem fMod_int {i j : Int} {h : CH} (hj : 0 < j) : fMod (.int i) (.int j) h = .ok (.int (i % j)) h := by
  unfold fMod fIC bMod
  simp only [ltZ_iff.mpr hj, if_true]
theorem led_word (ns : List Int) {f m k : Nat} {h : CH} {rr : Nat} {low : Int} {ring : List Int} {a b : CV} {u v : Option CV} (hF : 2000 < f) (hm : m ≤ 9) (er : h[rr]? = some (.lst (ring.map .int))) (hr : 1 ≤ ring.length) :
    ∃ h', mLc f [8] (mIR1 (mVar 2)) (gN 8) mYes m_led_ring_e1 ns [some a, some (.ref rr), some (.int m), some (.int ring.length), some (.int (low % ring.length)), some b, some (.int k), u, v] h = .ok (.ref h.length) h' ∧ h'[h.length]? = some (.lst ((word low m ring k).map .int)) ∧ h <+: h' := by
  have hi : mIR1 (mVar 2) ns [some a, some (.ref rr), some (.int m), some (.int ring.length), some (.int (low % ring.length)), some b, some (.int k), u, v] h = .ok (nxR 0 m) h := by
    walk_at "ex"
    simp only [r62_nat (show m ≤ 1000000 by omega), if_true, Int.toNat_natCast]
  obtain ⟨h', z1, z2, z3⟩ := lcR (vs := [8]) (e := m_led_ring_e1) (s := 8) hi (show m < f by omega) (by omega) (fun j : Nat => .int (ring.getD ((low % ring.length + k + j) % ring.length).toNat 0)) (fun h' => h <+: h') (pre_new (List.prefix_refl _)) (fun h' o p _ => pre_set p (Nat.le_refl _)) (fun j h' hj _ p => by
    refine ⟨h', ?_, List.prefix_refl _, p⟩
    unfold m_led_ring_e1
    rw [wipe1]
    obtain ⟨s0, s1⟩ := spot (low := low) hr k j
    walk_at "ex"
    simp only [fAdd, Int.zero_add, fMod_int (show (0 : Int) < ring.length by omega), fIxL_at (pre_get p er) (atI_nth (.int 0) s0 (by rw [List.length_map]; exact s1)), getD_int])
  refine ⟨h', z1, ?_, z3⟩
  rw [z2]
  unfold word
  rw [List.map_map]; rfl
theorem led_b2 (ns : List Int) {h : CH} {o rr : Nat} {s low : Int} {m : Nat} {t ring : List Int} (r : Rule h o s low m t) (er : h[rr]? = some (.lst (ring.map .int))) (hr : 1 ≤ ring.length) (hs : signs s ring) (k : Nat) (u v : Option CV) (h' : CH) (acc : List CV) (p : h <+: h') (hd : h'[h.length]? = some (.lst acc)) (ha : acc.length ≤ 1000) :
    ∃ (h2 : CH) (u' v' : Option CV), m_led_ring_b2 ns [some (.ref o), some (.ref rr), some (.int m), some (.int ring.length), some (.int (low % ring.length)), some (.ref h.length), some (.int k), u, v] h' = .nx [some (.ref o), some (.ref rr), some (.int m), some (.int ring.length), some (.int (low % ring.length)), some (.ref h.length), some (.int k), u', v'] h2 ∧ h <+: h2 ∧ h2[h.length]? = some (.lst (acc ++ [.int (t.getD (val s (word low m ring k)).toNat 0)])) := by
  unfold m_led_ring_b2
  have hF := fuel
  generalize FUEL = f at hF ⊢
  obtain ⟨h1, z1, z2, z3⟩ := led_word (a := .ref o) (b := .ref h.length) (k := k) (low := low) (u := u) (v := v) ns hF r.m9 (pre_get p er) hr
  have p1 := p.trans z3
  have w := word_signs (low := low) (m := m) hr hs k
  refine ⟨_, some (.ref h'.length), v, ?_, pre_set (o := .lst (acc ++ [.int (t.getD (val s (word low m ring k)).toNat 0)])) p1 (Nat.le_refl _), set_get (pre_get z3 hd)⟩
  have f1 := isL_at (pre_get z3 hd)
  have f2 := sign_told_ok ns (r.mono p1) z2 (word_len low m ring k) w
  have f3 : ∀ y, fAppend (.ref h.length) [y] h1 = .ok .non (h1.set h.length (.lst (acc ++ [y]))) := fun y => fAppend_at (pre_get z3 hd) (by omega)
  clear hd ha p er hr hs r p1 w z2 z3 hF
  walk_at "exh"
theorem led_ring_ok (ns : List Int) {h : CH} {o rr : Nat} {s low : Int} {m : Nat} {t ring : List Int} (r : Rule h o s low m t) (er : h[rr]? = some (.lst (ring.map .int))) (hr : 1 ≤ ring.length) (hl : ring.length ≤ 1000) (hs : signs s ring) :
    ∃ h' n, m_led_ring ns [.ref o, .ref rr] h = .ok (.ref n) h' ∧ h'[n]? = some (.lst ((ledI s low m t ring).map .int)) ∧ h <+: h' := by
  have hF := fuel
  unfold m_led_ring
  generalize FUEL = f at hF ⊢
  obtain ⟨c', h', z1, u, v, kk, rfl, p, hd⟩ := forR (b := m_led_ring_b2 ns) (lo := 0) (n := ring.length) (s := 6) (f := f) (c := [some (.ref o), some (.ref rr), some (.int m), some (.int ring.length), some (.int (low % ring.length)), some (.ref h.length), none, none, none]) (h := h ++ [.lst []])
    (fun i c h' => ∃ (u v kk : Option CV), c = [some (.ref o), some (.ref rr), some (.int m), some (.int ring.length), some (.int (low % ring.length)), some (.ref h.length), kk, u, v] ∧ h <+: h' ∧ h'[h.length]? = some (.lst ((List.range i).map fun k : Nat => .int (t.getD (val s (word low m ring k)).toNat 0)))) (by omega) ⟨_, _, _, rfl, List.prefix_append _ _, len_new⟩ (fun i c h' hi q => by
      obtain ⟨u, v, kk, rfl, p, hd⟩ := q
      obtain ⟨h2, u', v', e1, e2, e3⟩ := led_b2 ns r er hr hs i u v h' _ p hd (by simp; omega)
      refine ⟨_, h2, ?_, u', v', some (.int i), rfl, e2, ?_⟩
      · simpa only [List.set_cons_succ, List.set_cons_zero, Int.zero_add] using e1
      · rw [e3, List.range_succ, List.map_append]; rfl)
  have f1 := r.i0 ns
  have f2 := ask_word_ok ns er hl hs (by omega : (1 : Int) ≤ ring.length)
  have f3 := places_ok ns r
  have f4 : fLen ns [.ref rr] h = .ok (.int ring.length) h := by rw [fLen_lst er, List.length_map]
  have f5 := r.i1 ns
  have f6 : ∀ i h, fMod (.int i) (.int ring.length) h = .ok (.int (i % ring.length)) h := fun i h => fMod_int (show (0 : Int) < ring.length by omega)
  have f7 : lineB 0 = true := rfl
  have f8 := r62_nat (show ring.length ≤ 1000000 by omega)
  refine ⟨h', h.length, ?_, ?_, p⟩
  · clear hd p
    walk_at "exh"
  · rw [hd]
    unfold ledI
    rw [List.map_map]; rfl

/-! ### the law's own step -/
theorem once_b1 (ns : List Int) {f m : Nat} {h : CH} {o rr : Nat} {s low : Int} {t ring : List Int} (hF : 2000 < f) (r : Rule h o s low m t) (er : h[rr]? = some (.lst (ring.map .int))) (hr : 1 ≤ ring.length) (k : Nat) (a b : CV) (u v : Option CV) :
    ∃ (u' v' : Option CV), loopN (nxR 0 m) (gN 7) (m__law_once_b1 ns) f 0 [some (.ref o), some a, some (.ref rr), some b, some (.int (low % ring.length)), some (.int k), some (.int 0), u, v] h = .nx [some (.ref o), some a, some (.ref rr), some b, some (.int (low % ring.length)), some (.int k), some (.int (val s (word low m ring k))), u', v'] h := by
  obtain ⟨c', h', z1, rfl, u', v', rfl⟩ := forR (b := m__law_once_b1 ns) (lo := 0) (n := m) (s := 7) (f := f) (c := [some (.ref o), some a, some (.ref rr), some b, some (.int (low % ring.length)), some (.int k), some (.int 0), u, v]) (h := h)
    (fun i c h' => h' = h ∧ ∃ (u v : Option CV), c = [some (.ref o), some a, some (.ref rr), some b, some (.int (low % ring.length)), some (.int k), some (.int (val s ((word low m ring k).take i))), u, v]) (by have := r.m9; omega) ⟨rfl, _, _, rfl⟩ (fun i c h' hi q => by
      obtain ⟨rfl, u, v, rfl⟩ := q
      refine ⟨_, _, ?_, rfl, some (.int i), some (.int ((low % ring.length + k + i) % ring.length)), rfl⟩
      have hw : i < (word low m ring k).length := by rw [word_len]; exact hi
      have hg : (word low m ring k)[i] = ring.getD ((low % ring.length + k + i) % ring.length).toNat 0 := by simp [word]
      obtain ⟨s0, s1⟩ := spot (low := low) hr k i
      have f1 := r.i0 ns
      have f4 : fLen ns [.ref rr] h' = .ok (.int ring.length) h' := by rw [fLen_lst er, List.length_map]
      have f6 : ∀ i h, fMod (.int i) (.int ring.length) h = .ok (.int (i % ring.length)) h := fun i h => fMod_int (show (0 : Int) < ring.length by omega)
      have f7 : fIxL ns (.ref rr) (.int ((low % ring.length + k + i) % ring.length)) h' = .ok (.int (ring.getD ((low % ring.length + k + i) % ring.length).toNat 0)) h' := by
        rw [fIxL_at er (atI_nth (.int 0) s0 (by rw [List.length_map]; exact s1)), getD_int]
      have hm : bMul (val s ((word low m ring k).take i)) s = true := bMul_iff.mpr (.inr (in64_iff.mp (in64_sign (by have := r.h2; omega) r.h9)))
      have tv := take_val (s := s) hw
      rw [hg] at tv
      rw [tv]
      clear tv hg s0 s1 hF r er hr hi hw
      unfold m__law_once_b1
      simp only [Int.zero_add]
      have f8 : ∀ i j h, fAdd (.int i) (.int j) h = .ok (.int (i + j)) h := fun _ _ _ => rfl
      have f9 : ∀ i h, bMul i s = true → fMul (.int i) (.int s) h = .ok (.int (i * s)) h := fun i h e => by
        unfold fMul fIC
        simp only [e, if_true]
      have f10 := f9 _ h' hm
      walk_at "exh")
  refine ⟨u', v', ?_⟩
  rw [z1]
  have e : (word low m ring k).take m = word low m ring k := by
    rw [List.take_of_length_le]
    rw [word_len]; exact Nat.le_refl _
  rw [e]
theorem once_b2 (ns : List Int) {h : CH} {o rr : Nat} {s low : Int} {m : Nat} {t ring : List Int} (r : Rule h o s low m t) (er : h[rr]? = some (.lst (ring.map .int))) (hr : 1 ≤ ring.length) (hs : signs s ring) (k : Nat) (x u v : Option CV) (h' : CH) (acc : List CV) (p : h <+: h') (hd : h'[h.length]? = some (.lst acc)) (ha : acc.length ≤ 1000) :
    ∃ (h2 : CH) (x' u' v' : Option CV), m__law_once_b2 ns [some (.ref o), some (.int m), some (.ref rr), some (.ref h.length), some (.int (low % ring.length)), some (.int k), x, u, v] h' = .nx [some (.ref o), some (.int m), some (.ref rr), some (.ref h.length), some (.int (low % ring.length)), some (.int k), x', u', v'] h2 ∧ h <+: h2 ∧ h2[h.length]? = some (.lst (acc ++ [.int (t.getD (val s (word low m ring k)).toNat 0)])) := by
  unfold m__law_once_b2
  have hF := fuel
  generalize FUEL = f at hF ⊢
  have r' := r.mono p
  obtain ⟨u1, v1, z1⟩ := once_b1 ns hF r' (pre_get p er) hr k (.int m) (.ref h.length) u v
  have w := word_signs (low := low) (m := m) hr hs k
  obtain ⟨q, e2, b⟩ := r'.i2 ns
  obtain ⟨v0, v1'⟩ := r'.tab (word_len low m ring k) w
  have f1 := isL_at hd
  have f2 : fIxT ns (.ref q) (.int (val s (word low m ring k))) h' = .ok (.int (t.getD (val s (word low m ring k)).toNat 0)) h' := by
    rw [fIxT_at b (atI_nth (.int 0) v0 v1'), getD_int]
  have f3 : ∀ y, fAppend (.ref h.length) [y] h' = .ok .non (h'.set h.length (.lst (acc ++ [y]))) := fun y => fAppend_at hd (by omega)
  have f4 := r62_nat (show m ≤ 1000000 by have := r.m9; omega)
  refine ⟨_, some (.int (val s (word low m ring k))), u1, v1, ?_, pre_set (o := .lst (acc ++ [.int (t.getD (val s (word low m ring k)).toNat 0)])) p (Nat.le_refl _), set_get hd⟩
  clear hd ha p er hr hs r r' w hF v0 v1' b
  walk_at "exh"
theorem once_ok (ns : List Int) {h : CH} {o rr : Nat} {s low : Int} {m : Nat} {t ring : List Int} (r : Rule h o s low m t) (er : h[rr]? = some (.lst (ring.map .int))) (hr : 1 ≤ ring.length) (hl : ring.length ≤ 1000) (hs : signs s ring) :
    ∃ h' n, m__law_once ns [.ref o, .int m, .ref rr] h = .ok (.ref n) h' ∧ h'[n]? = some (.lst ((ledI s low m t ring).map .int)) ∧ h <+: h' := by
  have hF := fuel
  unfold m__law_once
  generalize FUEL = f at hF ⊢
  obtain ⟨c', h', z1, x, u, v, kk, rfl, p, hd⟩ := forR (b := m__law_once_b2 ns) (lo := 0) (n := ring.length) (s := 5) (f := f) (c := [some (.ref o), some (.int m), some (.ref rr), some (.ref h.length), some (.int (low % ring.length)), none, none, none, none]) (h := h ++ [.lst []])
    (fun i c h' => ∃ (x u v kk : Option CV), c = [some (.ref o), some (.int m), some (.ref rr), some (.ref h.length), some (.int (low % ring.length)), kk, x, u, v] ∧ h <+: h' ∧ h'[h.length]? = some (.lst ((List.range i).map fun k : Nat => .int (t.getD (val s (word low m ring k)).toNat 0)))) (by omega) ⟨_, _, _, _, rfl, List.prefix_append _ _, len_new⟩ (fun i c h' hi q => by
      obtain ⟨x, u, v, kk, rfl, p, hd⟩ := q
      obtain ⟨h2, x', u', v', e1, e2, e3⟩ := once_b2 ns r er hr hs i x u v h' _ p hd (by simp; omega)
      refine ⟨_, h2, ?_, x', u', v', some (.int i), rfl, e2, ?_⟩
      · simpa only [List.set_cons_succ, List.set_cons_zero, Int.zero_add] using e1
      · rw [e3, List.range_succ, List.map_append]; rfl)
  have er' : (h ++ [CO.lst []])[rr]? = some (.lst (ring.map .int)) := pre_get (List.prefix_append _ _) er
  have r' : Rule (h ++ [CO.lst []]) o s low m t := r.mono (List.prefix_append _ _)
  have f4 : fLen ns [.ref rr] (h ++ [CO.lst []]) = .ok (.int ring.length) (h ++ [CO.lst []]) := by rw [fLen_lst er', List.length_map]
  have f5 := r'.i1 ns
  have f6 : ∀ i h, fMod (.int i) (.int ring.length) h = .ok (.int (i % ring.length)) h := fun i h => fMod_int (show (0 : Int) < ring.length by omega)
  have f7 : lineB 0 = true := rfl
  have f8 := r62_nat (show ring.length ≤ 1000000 by omega)
  refine ⟨h', h.length, ?_, ?_, p⟩
  · clear hd p
    walk_at "exh"
  · rw [hd]
    unfold ledI
    rw [List.map_map]; rfl
end K15
end

section
set_option Elab.async false
set_option linter.all false
set_option maxRecDepth 100000
set_option maxHeartbeats 2000000
namespace K15
open PySem L2 Xq
local macro_rules | `(tactic| walk_at "ex") => `(tactic| simp only [mDef, mSeq, mSet, mRet, mDrop, mIf, mVar, mC, mOp, mIx, mArg, mCall, mCons, mNil, mTst, mNotT, mAndT, mOrT, mAndV, mOrV, mNotV, mUn, mChain, Ou.bind, Ou.stm, mNext, mStop, mBM, mLst, mTup, new, mSetIx, mDGet, mDPut, mDIn, mIsi, mSl, mPart, mNo, mAug, mAsg, List.getElem?_cons_zero, List.getElem?_cons_succ, List.set_cons_zero, List.set_cons_succ, List.length_cons, List.length_nil, List.cons_append, List.nil_append, List.append_nil, List.map_cons, List.map_nil, List.replicate_succ, List.replicate_zero, Nat.reduceAdd, Nat.reduceSub, if_true, ite_true, mFor, mWhile, mIR1, mIR2, mNewT, mNewK, mIList])
local macro_rules | `(tactic| walk_at "exh") => `(tactic| simp only [mDef, mSeq, mSet, mRet, mDrop, mIf, mVar, mC, mOp, mIx, mArg, mCall, mCons, mNil, mTst, mNotT, mAndT, mOrT, mAndV, mOrV, mNotV, mUn, mChain, Ou.bind, Ou.stm, mNext, mStop, mBM, mLst, mTup, new, mSetIx, mDGet, mDPut, mDIn, mIsi, mSl, mPart, mNo, mAug, mAsg, List.getElem?_cons_zero, List.getElem?_cons_succ, List.set_cons_zero, List.set_cons_succ, List.length_cons, List.length_nil, List.cons_append, List.nil_append, List.append_nil, List.map_cons, List.map_nil, List.replicate_succ, List.replicate_zero, Nat.reduceAdd, Nat.reduceSub, if_true, ite_true, mFor, mWhile, mIR1, mIR2, mNewT, mNewK, mIList, Int.toNat_natCast, List.length_map, Bool.false_eq_true, if_false, Option.isSome_some, Option.isSome_none, decide_true, Bool.not_true, Bool.not_false, *])

/-! ### again and again -/
def it (F : List Int → List Int) (ring : List Int) : Nat → List Int
  | 0 => ring
  | k + 1 => F (it F ring k)
/-- the first place where one comes again: j and k -/
def Rep (g : Nat → List Int) (L j k : Nat) : Prop := j < k ∧ k < L ∧ g j = g k ∧ ∀ a b, a < b → b < k → g a ≠ g b
def Dis (g : Nat → List Int) (L : Nat) : Prop := ∀ a b, a < b → b < L → g a ≠ g b
abbrev tkey (xs : List Int) : List Key := xs.map Sum.inl
theorem tkey_inj : ∀ {a b : List Int}, tkey a = tkey b → a = b
  | [], [], _ => rfl
  | [], _ :: _, h => by cases h
  | _ :: _, [], h => by cases h
  | x :: xs, y :: ys, h => by
    have h1 := (List.cons.inj h).1
    have h2 := (List.cons.inj h).2
    rw [Sum.inl.inj h1, tkey_inj h2]
theorem valC_some {κ : Type} [DecidableEq κ] {k : κ} {v : CV} : ∀ {l : List (κ × CV)}, valC l k = some v → ∃ p ∈ l, p.1 = k ∧ p.2 = v
  | [], h => by cases h
  | p :: r, h => by
    unfold valC at h
    split at h
    · rename_i e
      exact ⟨p, List.mem_cons_self, e, Option.some.inj h⟩
    · obtain ⟨q, hq, e⟩ := valC_some h
      exact ⟨q, List.mem_cons_of_mem _ hq, e⟩
theorem valC_none {κ : Type} [DecidableEq κ] {k : κ} : ∀ {l : List (κ × CV)}, valC l k = none → ∀ p ∈ l, p.1 ≠ k
  | [], _, _, hp => by simp at hp
  | q :: r, h, p, hp => by
    unfold valC at h
    split at h
    · cases h
    · rename_i e
      rcases List.mem_cons.mp hp with rfl | hp
      · exact e
      · exact valC_none h p hp
theorem putC_new {κ : Type} [DecidableEq κ] {k : κ} {v : CV} {l : List (κ × CV)} (h : valC l k = none) : putC l k v = l ++ [(k, v)] := by
  unfold putC
  rw [if_neg]
  intro z
  obtain ⟨p, hp, e⟩ := List.any_eq_true.mp z
  exact valC_none h p hp (of_decide_eq_true e)
theorem keyC_tup {h : CH} {n : Nat} {xs : List Int} (e : h[n]? = some (.tup (xs.map .int))) : keyC h (.ref n) = some (.inr (tkey xs)) := by
  show (match h[n]? with
    | some (.tup xs) => match intsC xs with
      | some l => (some (Sum.inr (l.map Sum.inl)) : Option (Key ⊕ List Key))
      | none => none
    | _ => none) = _
  rw [e]
  dsimp only
  rw [intsC_map]
theorem dgetC_at {h : CH} {d n : Nat} {xs : List Int} {kvs : List (List Key × CV)} (ed : h[d]? = some (.dT kvs)) (e : h[n]? = some (.tup (xs.map .int))) : dgetC h (.ref d) (.ref n) = some (valC kvs (tkey xs)) := by
  unfold dgetC
  rw [show objC h (.ref d) = h[d]? from rfl, ed, keyC_tup e]
theorem dputC_at {h : CH} {d n : Nat} {xs : List Int} {v : CV} {kvs : List (List Key × CV)} (ed : h[d]? = some (.dT kvs)) (e : h[n]? = some (.tup (xs.map .int))) (l : kvs.length ≤ 1000000) : dputC h (.ref d) (.ref n) v = some (h.set d (.dT (putC kvs (tkey xs) v))) := by
  unfold dputC
  rw [show objC h (.ref d) = h[d]? from rfl, ed, keyC_tup e]
  dsimp only
  rw [if_pos (lineB_of l)]
abbrev seenT (g : Nat → List Int) (k : Nat) : List (List Key × CV) := (List.range k).map fun j : Nat => (tkey (g j), CV.int j)
theorem seen_val (g : Nat → List Int) (k : Nat) (x : List Int) : (∃ j : Nat, j < k ∧ g j = x ∧ valC (seenT g k) (tkey x) = some (.int j)) ∨ (valC (seenT g k) (tkey x) = none ∧ ∀ j, j < k → g j ≠ x) := by
  cases e : valC (seenT g k) (tkey x) with
  | none =>
    refine .inr ⟨rfl, fun j hj q => ?_⟩
    have := valC_none e (tkey (g j), .int j) (List.mem_map.mpr ⟨j, List.mem_range.mpr hj, rfl⟩)
    exact this (by rw [q])
  | some v =>
    obtain ⟨p, hp, e1, e2⟩ := valC_some e
    obtain ⟨j, hj, rfl⟩ := List.mem_map.mp hp
    exact .inl ⟨j, List.mem_range.mp hj, tkey_inj e1, by rw [← e2]⟩
theorem seen_put (g : Nat → List Int) (k : Nat) (h : valC (seenT g k) (tkey (g k)) = none) : putC (seenT g k) (tkey (g k)) (.int k) = seenT g (k + 1) := by
  rw [putC_new h]
  show _ = (List.range (k + 1)).map _
  rw [List.range_succ, List.map_append]; rfl
/-- one comes again: what is handed back -/
def RR (g : Nat → List Int) (L : Nat) (h : CH) (o : SO) : Prop := ∃ v h2 j k, o = .rt (.ref v) h2 ∧ h <+: h2 ∧ Rep g L j k ∧ h2[v]? = some (.tup [.int j, .int ((k : Int) - j)])
theorem RR.out {g : Nat → List Int} {L : Nat} {h : CH} (o : SO) (r : RR g L h o) : (∃ v h, o = .rt v h) ∨ ∃ c v h, o = .ex c v h := let ⟨v, h2, _, _, e, _⟩ := r; .inl ⟨_, _, e⟩
theorem comes_b1 (ns : List Int) {h : CH} {o rr L : Nat} {mo : CV} {g : Nat → List Int} (k : Nat) (hk : k < L) (hL : L ≤ 1100) (n : Nat) (aa : Option CV) (h' : CH) (p : h <+: h') (hd : h'[h.length]? = some (.dT (seenT g k))) (hn : h'[n]? = some (.lst ((g k).map .int))) (dis : Dis g k)
    (led : ∀ h1, h <+: h1 → ∀ n, h1[n]? = some (.lst ((g k).map .int)) → ∃ h2 n2, m_led_ring ns [.ref o, .ref n] h1 = .ok (.ref n2) h2 ∧ h2[n2]? = some (.lst ((g (k + 1)).map .int)) ∧ h1 <+: h2) :
    (∃ c2 h2, m_comes_again_b1 ns [some (.ref o), some (.ref rr), some mo, some (.ref h.length), some (.ref n), some (.int k), aa] h' = .nx c2 h2 ∧ ∃ n2, c2 = [some (.ref o), some (.ref rr), some mo, some (.ref h.length), some (.ref n2), some (.int k), aa] ∧ h <+: h2 ∧ h2[h.length]? = some (.dT (seenT g (k + 1))) ∧ h2[n2]? = some (.lst ((g (k + 1)).map .int)) ∧ Dis g (k + 1)) ∨ RR g L h (m_comes_again_b1 ns [some (.ref o), some (.ref rr), some mo, some (.ref h.length), some (.ref n), some (.int k), aa] h') := by
  obtain ⟨h1, eh1⟩ : ∃ h1, h1 = h' ++ [CO.tup ((g k).map .int)] := ⟨_, rfl⟩
  have p1 : h' <+: h1 := by rw [eh1]; exact List.prefix_append _ _
  have f1 : fTupOf ns [.ref n] h' = .ok (.ref h'.length) h1 := by rw [fTupOf_lst hn, eh1]
  have t1 : h1[h'.length]? = some (.tup ((g k).map .int)) := by rw [eh1]; exact len_new
  have d1 := pre_get p1 hd
  rcases seen_val g k (g k) with ⟨j, hj, ej, ev⟩ | ⟨ev, hne⟩
  · refine .inr ?_
    have f2 : dgetC h1 (.ref h.length) (.ref h'.length) = some (some (.int j)) := by rw [dgetC_at d1 t1, ev]
    obtain ⟨h2, eh2⟩ : ∃ h2, h2 = h1 ++ [CO.tup ((g k).map .int)] := ⟨_, rfl⟩
    have p2 : h1 <+: h2 := by rw [eh2]; exact List.prefix_append _ _
    have f3 : fTupOf ns [.ref n] h1 = .ok (.ref h1.length) h2 := by rw [fTupOf_lst (pre_get p1 hn), eh2]
    have t2 : h2[h1.length]? = some (.tup ((g k).map .int)) := by rw [eh2]; exact len_new
    have f4 : dgetC h2 (.ref h.length) (.ref h1.length) = some (some (.int j)) := by rw [dgetC_at (pre_get p2 d1) t2, ev]
    have f5 : ∀ i j h, fSub (.int i) (.int j) h = .ok (.int (i - j)) h := fun _ _ _ => rfl
    have f6 : lineB 2 = true := rfl
    refine ⟨h2.length, h2 ++ [.tup [.int j, .int ((k : Int) - j)]], j, k, ?_, pre_new (p.trans (p1.trans p2)), ⟨hj, hk, ej, dis⟩, len_new⟩
    clear led dis p p1 p2 t1 t2 d1 hd hn eh1 eh2 ev ej hj hk hL
    unfold m_comes_again_b1
    walk_at "exh"
  · refine .inl ?_
    have f2 : dgetC h1 (.ref h.length) (.ref h'.length) = some none := by rw [dgetC_at d1 t1, ev]
    obtain ⟨h2, eh2⟩ : ∃ h2, h2 = h1 ++ [CO.tup ((g k).map .int)] := ⟨_, rfl⟩
    have p2 : h1 <+: h2 := by rw [eh2]; exact List.prefix_append _ _
    have f3 : fTupOf ns [.ref n] h1 = .ok (.ref h1.length) h2 := by rw [fTupOf_lst (pre_get p1 hn), eh2]
    have t2 : h2[h1.length]? = some (.tup ((g k).map .int)) := by rw [eh2]; exact len_new
    have f4 : dputC h2 (.ref h.length) (.ref h1.length) (.int k) = some (h2.set h.length (.dT (seenT g (k + 1)))) := by
      rw [dputC_at (pre_get p2 d1) t2 (by simp; omega), seen_put g k ev]
    have nd : h.length ≠ n := fun q => by
      rw [q] at hd
      rw [hn] at hd
      cases hd
    obtain ⟨h3, eh3⟩ : ∃ h3, h3 = h2.set h.length (.dT (seenT g (k + 1))) := ⟨_, rfl⟩
    rw [← eh3] at f4
    have p3 : h <+: h3 := by rw [eh3]; exact pre_set (p.trans (p1.trans p2)) (Nat.le_refl _)
    have n3 : h3[n]? = some (.lst ((g k).map .int)) := by rw [eh3]; exact set_ne (pre_get p2 (pre_get p1 hn)) nd
    have d3 : h3[h.length]? = some (.dT (seenT g (k + 1))) := by rw [eh3]; exact set_get (pre_get p2 d1)
    obtain ⟨h4, n4, f5, e5, p4⟩ := led h3 p3 n n3
    refine ⟨[some (.ref o), some (.ref rr), some mo, some (.ref h.length), some (.ref n4), some (.int k), aa], h4, ?_, n4, rfl, p3.trans p4, pre_get p4 d3, e5, ?_⟩
    · clear led dis p p1 p2 t1 t2 d1 hd hn eh1 eh2 ev hk hL nd eh3 p3 n3 d3 e5 p4 hne
      unfold m_comes_again_b1
      walk_at "exh"
    · intro a b hab hb
      by_cases hbk : b < k
      · exact dis a b hab hbk
      · have e : b = k := by omega
        subst e
        exact hne a hab
end K15
end

section
set_option Elab.async false
set_option linter.all false
set_option maxRecDepth 100000
set_option maxHeartbeats 2000000
namespace K15
open PySem L2 Xq
local macro_rules | `(tactic| walk_at "ex") => `(tactic| simp only [mDef, mSeq, mSet, mRet, mDrop, mIf, mVar, mC, mOp, mIx, mArg, mCall, mCons, mNil, mTst, mNotT, mAndT, mOrT, mAndV, mOrV, mNotV, mUn, mChain, Ou.bind, Ou.stm, mNext, mStop, mBM, mLst, mTup, new, mSetIx, mDGet, mDPut, mDIn, mIsi, mSl, mPart, mNo, mAug, mAsg, List.getElem?_cons_zero, List.getElem?_cons_succ, List.set_cons_zero, List.set_cons_succ, List.length_cons, List.length_nil, List.cons_append, List.nil_append, List.append_nil, List.map_cons, List.map_nil, List.replicate_succ, List.replicate_zero, Nat.reduceAdd, Nat.reduceSub, if_true, ite_true, mFor, mWhile, mIR1, mIR2, mNewT, mNewK, mIList])
local macro_rules | `(tactic| walk_at "exh") => `(tactic| simp only [mDef, mSeq, mSet, mRet, mDrop, mIf, mVar, mC, mOp, mIx, mArg, mCall, mCons, mNil, mTst, mNotT, mAndT, mOrT, mAndV, mOrV, mNotV, mUn, mChain, Ou.bind, Ou.stm, mNext, mStop, mBM, mLst, mTup, new, mSetIx, mDGet, mDPut, mDIn, mIsi, mSl, mPart, mNo, mAug, mAsg, List.getElem?_cons_zero, List.getElem?_cons_succ, List.set_cons_zero, List.set_cons_succ, List.length_cons, List.length_nil, List.cons_append, List.nil_append, List.append_nil, List.map_cons, List.map_nil, List.replicate_succ, List.replicate_zero, Nat.reduceAdd, Nat.reduceSub, if_true, ite_true, mFor, mWhile, mIR1, mIR2, mNewT, mNewK, mIList, Int.toNat_natCast, List.length_map, Bool.false_eq_true, if_false, Option.isSome_some, Option.isSome_none, decide_true, Bool.not_true, Bool.not_false, *])

/-- what an again-and-again hands back, L turns -/
def Came (g : Nat → List Int) (L : Nat) (h : CH) (o : Ou CV) : Prop := ∃ h2, h <+: h2 ∧ ((o = .ok .non h2 ∧ Dis g L) ∨ ∃ v j k, o = .ok (.ref v) h2 ∧ Rep g L j k ∧ h2[v]? = some (.tup [.int j, .int ((k : Int) - j)]))
theorem Dis.zero (g : Nat → List Int) : Dis g 0 := fun _ b _ h => absurd h (Nat.not_lt_zero b)
theorem comes_ok (ns : List Int) {h : CH} {o rr : Nat} {s low : Int} {m : Nat} {t ring : List Int} {g : Nat → List Int} (r : Rule h o s low m t) (er : h[rr]? = some (.lst (ring.map .int))) (hr : 1 ≤ ring.length) (hl : ring.length ≤ 1000) (hs : signs s ring) (L : Nat) (hL : L ≤ 1100)
    (g0 : g 0 = ring) (gl : ∀ k, ledI s low m t (g k) = g (k + 1)) (gn : ∀ k, (g k).length = ring.length) (gs : ∀ k, signs s (g k)) :
    Came g L h (m_comes_again ns [.ref o, .ref rr, .int ((L : Int) - 1)] h) := by
  have hF := fuel
  unfold m_comes_again
  generalize FUEL = f at hF ⊢
  have key := forR_rt (b := m_comes_again_b1 ns) (lo := 0) (n := L) (s := 5) (f := f) (c := [some (.ref o), some (.ref rr), some (.int ((L : Int) - 1)), some (.ref h.length), some (.ref (h.length + 1)), none, none]) (h := h ++ [.dT []] ++ [.lst (ring.map .int)])
    (fun k c h' => ∃ (n : Nat) (kk : Option CV), c = [some (.ref o), some (.ref rr), some (.int ((L : Int) - 1)), some (.ref h.length), some (.ref n), kk, none] ∧ h <+: h' ∧ h'[h.length]? = some (.dT (seenT g k)) ∧ h'[n]? = some (.lst ((g k).map .int)) ∧ Dis g k)
    (RR g L h) RR.out (by omega) ⟨h.length + 1, none, rfl, by rw [List.append_assoc]; exact List.prefix_append _ _, pre_get (List.prefix_append _ _) len_new, by rw [g0]; have := len_new (h := h ++ [.dT []]) (o := .lst (ring.map .int)); simpa using this, Dis.zero g⟩ (fun k c h' hk q => by
      obtain ⟨n, kk, rfl, p, hd, hn, dis⟩ := q
      have z := comes_b1 ns (mo := .int ((L : Int) - 1)) (o := o) (rr := rr) k hk hL n none h' p hd hn dis (fun h1 p1 n1 e1 => by
        obtain ⟨h2, n2, a, b, c⟩ := led_ring_ok ns (r.mono p1) e1 (by rw [gn]; exact hr) (by rw [gn]; exact hl) (gs k)
        exact ⟨h2, n2, a, by rw [← gl]; exact b, c⟩)
      simp only [List.set_cons_succ, List.set_cons_zero, Int.zero_add]
      rcases z with ⟨c2, h2, e, n2, rfl, a1, a2, a3, a4⟩ | z
      · exact .inl ⟨_, h2, e, n2, some (.int k), rfl, a1, a2, a3, a4⟩
      · exact .inr z)
  have f1 := r.i0 ns
  have f2 := ask_word_ok ns er hl hs (by omega : (1 : Int) ≤ ring.length)
  have f3 : fListOf ns [.ref rr] (h ++ [.dT []]) = .ok (.ref (h.length + 1)) (h ++ [.dT []] ++ [.lst (ring.map .int)]) := by
    rw [fListOf_lst (pre_get (List.prefix_append _ _) er)]
    simp
  have f4 : ∀ h, fAdd (.int ((L : Int) - 1)) (.int 1) h = .ok (.int L) h := fun h => by
    show Ou.ok (CV.int ((L : Int) - 1 + 1)) h = _
    rw [Int.sub_add_cancel]
  have f5 := r62_nat (show L ≤ 1000000 by omega)
  rcases key with ⟨c', h', z1, n, kk, rfl, p, _, _, dis⟩ | z
  · refine ⟨h', p, .inl ⟨?_, dis⟩⟩
    clear p dis hs r er hr hl hL hF g0 gl gn gs
    walk_at "exh"
  · obtain ⟨v, h2, j, k, z1, p, rep, tv⟩ := z
    refine ⟨h2, p, .inr ⟨v, j, k, ?_, rep, tv⟩⟩
    clear p rep tv hs r er hr hl hL hF g0 gl gn gs
    walk_at "exh"
theorem due_b1 (ns : List Int) {h : CH} {o rr L : Nat} {mm : CV} {g : Nat → List Int} (k : Nat) (hk : k < L) (hL : L ≤ 1100) (n : Nat) (h' : CH) (p : h <+: h') (hd : h'[h.length]? = some (.dT (seenT g k))) (hn : h'[n]? = some (.lst ((g k).map .int))) (dis : Dis g k)
    (led : ∀ h1, h <+: h1 → ∀ n, h1[n]? = some (.lst ((g k).map .int)) → ∃ h2 n2, m__law_once ns [.ref o, mm, .ref n] h1 = .ok (.ref n2) h2 ∧ h2[n2]? = some (.lst ((g (k + 1)).map .int)) ∧ h1 <+: h2) :
    (∃ c2 h2, m__law_due_b1 ns [some (.ref o), some mm, some (.ref n), some (.ref h.length), some (.int k)] h' = .nx c2 h2 ∧ ∃ n2, c2 = [some (.ref o), some mm, some (.ref n2), some (.ref h.length), some (.int k)] ∧ h <+: h2 ∧ h2[h.length]? = some (.dT (seenT g (k + 1))) ∧ h2[n2]? = some (.lst ((g (k + 1)).map .int)) ∧ Dis g (k + 1)) ∨ RR g L h (m__law_due_b1 ns [some (.ref o), some mm, some (.ref n), some (.ref h.length), some (.int k)] h') := by
  obtain ⟨h1, eh1⟩ : ∃ h1, h1 = h' ++ [CO.tup ((g k).map .int)] := ⟨_, rfl⟩
  have p1 : h' <+: h1 := by rw [eh1]; exact List.prefix_append _ _
  have f1 : fTupOf ns [.ref n] h' = .ok (.ref h'.length) h1 := by rw [fTupOf_lst hn, eh1]
  have t1 : h1[h'.length]? = some (.tup ((g k).map .int)) := by rw [eh1]; exact len_new
  have d1 := pre_get p1 hd
  obtain ⟨h2, eh2⟩ : ∃ h2, h2 = h1 ++ [CO.tup ((g k).map .int)] := ⟨_, rfl⟩
  have p2 : h1 <+: h2 := by rw [eh2]; exact List.prefix_append _ _
  have f3 : fTupOf ns [.ref n] h1 = .ok (.ref h1.length) h2 := by rw [fTupOf_lst (pre_get p1 hn), eh2]
  have t2 : h2[h1.length]? = some (.tup ((g k).map .int)) := by rw [eh2]; exact len_new
  have d2 := pre_get p2 d1
  rcases seen_val g k (g k) with ⟨j, hj, ej, ev⟩ | ⟨ev, hne⟩
  · refine .inr ?_
    have f2 : dgetC h1 (.ref h.length) (.ref h'.length) = some (some (.int j)) := by rw [dgetC_at d1 t1, ev]
    have f4 : dgetC h2 (.ref h.length) (.ref h1.length) = some (some (.int j)) := by rw [dgetC_at d2 t2, ev]
    obtain ⟨h3, eh3⟩ : ∃ h3, h3 = h2 ++ [CO.tup ((g k).map .int)] := ⟨_, rfl⟩
    have p3 : h2 <+: h3 := by rw [eh3]; exact List.prefix_append _ _
    have f7 : fTupOf ns [.ref n] h2 = .ok (.ref h2.length) h3 := by rw [fTupOf_lst (pre_get p2 (pre_get p1 hn)), eh3]
    have t3 : h3[h2.length]? = some (.tup ((g k).map .int)) := by rw [eh3]; exact len_new
    have f8 : dgetC h3 (.ref h.length) (.ref h2.length) = some (some (.int j)) := by rw [dgetC_at (pre_get p3 d2) t3, ev]
    have f5 : ∀ i j h, fSub (.int i) (.int j) h = .ok (.int (i - j)) h := fun _ _ _ => rfl
    have f6 : lineB 2 = true := rfl
    refine ⟨h3.length, h3 ++ [.tup [.int j, .int ((k : Int) - j)]], j, k, ?_, pre_new (p.trans (p1.trans (p2.trans p3))), ⟨hj, hk, ej, dis⟩, len_new⟩
    clear led dis p p1 p2 p3 t1 t2 t3 d1 d2 hd hn eh1 eh2 eh3 ev ej hj hk hL
    unfold m__law_due_b1
    walk_at "exh"
  · refine .inl ?_
    have f2 : dgetC h1 (.ref h.length) (.ref h'.length) = some none := by rw [dgetC_at d1 t1, ev]
    have f4 : dputC h2 (.ref h.length) (.ref h1.length) (.int k) = some (h2.set h.length (.dT (seenT g (k + 1)))) := by
      rw [dputC_at d2 t2 (by simp; omega), seen_put g k ev]
    have nd : h.length ≠ n := fun q => by
      rw [q] at hd
      rw [hn] at hd
      cases hd
    obtain ⟨h3, eh3⟩ : ∃ h3, h3 = h2.set h.length (.dT (seenT g (k + 1))) := ⟨_, rfl⟩
    rw [← eh3] at f4
    have p3 : h <+: h3 := by rw [eh3]; exact pre_set (p.trans (p1.trans p2)) (Nat.le_refl _)
    have n3 : h3[n]? = some (.lst ((g k).map .int)) := by rw [eh3]; exact set_ne (pre_get p2 (pre_get p1 hn)) nd
    have d3 : h3[h.length]? = some (.dT (seenT g (k + 1))) := by rw [eh3]; exact set_get d2
    obtain ⟨h4, n4, f5, e5, p4⟩ := led h3 p3 n n3
    refine ⟨[some (.ref o), some mm, some (.ref n4), some (.ref h.length), some (.int k)], h4, ?_, n4, rfl, p3.trans p4, pre_get p4 d3, e5, ?_⟩
    · clear led dis p p1 p2 t1 t2 d1 d2 hd hn eh1 eh2 ev hk hL nd eh3 p3 n3 d3 e5 p4 hne
      unfold m__law_due_b1
      walk_at "exh"
    · intro a b hab hb
      by_cases hbk : b < k
      · exact dis a b hab hbk
      · have e : b = k := by omega
        subst e
        exact hne a hab
theorem due_ok (ns : List Int) {h : CH} {o rr : Nat} {s low : Int} {m : Nat} {t ring : List Int} {g : Nat → List Int} (r : Rule h o s low m t) (er : h[rr]? = some (.lst (ring.map .int))) (hr : 1 ≤ ring.length) (hl : ring.length ≤ 1000) (hs : signs s ring)
    (g0 : g 0 = ring) (gl : ∀ k, ledI s low m t (g k) = g (k + 1)) (gn : ∀ k, (g k).length = ring.length) (gs : ∀ k, signs s (g k)) :
    Came g 1001 h (m__law_due ns [.ref o, .int m, .ref rr] h) := by
  have hF := fuel
  unfold m__law_due
  generalize FUEL = f at hF ⊢
  have key := forR_rt (b := m__law_due_b1 ns) (lo := 0) (n := 1001) (s := 4) (f := f) (c := [some (.ref o), some (.int m), some (.ref rr), some (.ref h.length), none]) (h := h ++ [.dT []])
    (fun k c h' => ∃ (n : Nat) (kk : Option CV), c = [some (.ref o), some (.int m), some (.ref n), some (.ref h.length), kk] ∧ h <+: h' ∧ h'[h.length]? = some (.dT (seenT g k)) ∧ h'[n]? = some (.lst ((g k).map .int)) ∧ Dis g k)
    (RR g 1001 h) RR.out (by omega) ⟨rr, none, rfl, List.prefix_append _ _, len_new, by rw [g0]; exact pre_get (List.prefix_append _ _) er, Dis.zero g⟩ (fun k c h' hk q => by
      obtain ⟨n, kk, rfl, p, hd, hn, dis⟩ := q
      have z := due_b1 ns (mm := .int m) (o := o) (rr := rr) k hk (by omega) n h' p hd hn dis (fun h1 p1 n1 e1 => by
        obtain ⟨h2, n2, a, b, c⟩ := once_ok ns (r.mono p1) e1 (by rw [gn]; exact hr) (by rw [gn]; exact hl) (gs k)
        exact ⟨h2, n2, a, by rw [← gl]; exact b, c⟩)
      simp only [List.set_cons_succ, List.set_cons_zero, Int.zero_add]
      rcases z with ⟨c2, h2, e, n2, rfl, a1, a2, a3, a4⟩ | z
      · exact .inl ⟨_, h2, e, n2, some (.int k), rfl, a1, a2, a3, a4⟩
      · exact .inr z)
  have f5 : r62 1001 = true := rfl
  have f6 : (1001 : Int).toNat = 1001 := rfl
  rcases key with ⟨c', h', z1, n, kk, rfl, p, _, _, dis⟩ | z
  · refine ⟨h', p, .inl ⟨?_, dis⟩⟩
    clear p dis hs r er hr hl hF g0 gl gn gs
    walk_at "exh"
  · obtain ⟨v, h2, j, k, z1, p, rep, tv⟩ := z
    refine ⟨h2, p, .inr ⟨v, j, k, ?_, rep, tv⟩⟩
    clear p rep tv hs r er hr hl hF g0 gl gn gs
    walk_at "exh"
end K15
end

section
set_option Elab.async false
set_option linter.all false
set_option maxRecDepth 100000
set_option maxHeartbeats 2000000
namespace K15
open PySem L2 Xq
local macro_rules | `(tactic| walk_at "ex") => `(tactic| simp only [mDef, mSeq, mSet, mRet, mDrop, mIf, mVar, mC, mOp, mIx, mArg, mCall, mCons, mNil, mTst, mNotT, mAndT, mOrT, mAndV, mOrV, mNotV, mUn, mChain, Ou.bind, Ou.stm, mNext, mStop, mBM, mLst, mTup, new, mSetIx, mDGet, mDPut, mDIn, mIsi, mSl, mPart, mNo, mAug, mAsg, List.getElem?_cons_zero, List.getElem?_cons_succ, List.set_cons_zero, List.set_cons_succ, List.length_cons, List.length_nil, List.cons_append, List.nil_append, List.append_nil, List.map_cons, List.map_nil, List.replicate_succ, List.replicate_zero, Nat.reduceAdd, Nat.reduceSub, if_true, ite_true, mFor, mWhile, mIR1, mIR2, mNewT, mNewK, mIList])
local macro_rules | `(tactic| walk_at "exh") => `(tactic| simp only [mDef, mSeq, mSet, mRet, mDrop, mIf, mVar, mC, mOp, mIx, mArg, mCall, mCons, mNil, mTst, mNotT, mAndT, mOrT, mAndV, mOrV, mNotV, mUn, mChain, Ou.bind, Ou.stm, mNext, mStop, mBM, mLst, mTup, new, mSetIx, mDGet, mDPut, mDIn, mIsi, mSl, mPart, mNo, mAug, mAsg, List.getElem?_cons_zero, List.getElem?_cons_succ, List.set_cons_zero, List.set_cons_succ, List.length_cons, List.length_nil, List.cons_append, List.nil_append, List.append_nil, List.map_cons, List.map_nil, List.replicate_succ, List.replicate_zero, Nat.reduceAdd, Nat.reduceSub, if_true, ite_true, mFor, mWhile, mIR1, mIR2, mNewT, mNewK, mIList, Int.toNat_natCast, List.length_map, Bool.false_eq_true, if_false, Option.isSome_some, Option.isSome_none, decide_true, Bool.not_true, Bool.not_false, *])

/-! ### == of ints -/
theorem datsC_ints {f : CV → Option PyData} (hf : ∀ i, f (.int i) = some (.int i)) : ∀ l : List Int, datsC f (l.map CV.int) = some (l.map PyData.int)
  | [] => rfl
  | i :: r => by
    show (match f (.int i), datsC f (r.map CV.int) with
      | some d, some ds => some (d :: ds)
      | _, _ => none) = _
    rw [hf i, datsC_ints hf r]; rfl
theorem datC_lst {ns : List Int} {h : CH} {n : Nat} {l : List Int} (e : h[n]? = some (.lst (l.map .int))) : datC ns h 5 (.ref n) = some (.list (l.map .int)) := by
  show (match lstC ns h (.ref n) with
    | some xs => (datsC (datC ns h 4) xs).map PyData.list
    | none => match tupC h (.ref n) with
      | some xs => (datsC (datC ns h 4) xs).map PyData.tuple
      | none => none) = _
  rw [lstC_ref e]
  dsimp only
  rw [datsC_ints (fun _ => rfl)]; rfl
theorem datC_tup {ns : List Int} {h : CH} {n : Nat} {l : List Int} (e : h[n]? = some (.tup (l.map .int))) : datC ns h 5 (.ref n) = some (.tuple (l.map .int)) := by
  show (match lstC ns h (.ref n) with
    | some xs => (datsC (datC ns h 4) xs).map PyData.list
    | none => match tupC h (.ref n) with
      | some xs => (datsC (datC ns h 4) xs).map PyData.tuple
      | none => none) = _
  rw [lstC_tup e, tupC_ref e]
  dsimp only
  rw [datsC_ints (fun _ => rfl)]; rfl
theorem deqs_ints {f : PyData → PyData → Option Bool} (hf : ∀ i, f (.int i) (.int i) = some true) : ∀ l : List Int, deqs f (l.map PyData.int) (l.map PyData.int) = some true
  | [] => rfl
  | i :: r => by
    show (match f (.int i) (.int i) with
      | some true => deqs f (r.map PyData.int) (r.map PyData.int)
      | some false => some false
      | none => none) = some true
    rw [hf i]
    exact deqs_ints hf r
theorem deq_int (i : Int) (n : Nat) : deq (n + 1) (.int i) (.int i) = some true := by
  show some (i == i) = some true
  rw [beq_self_eq_true]
theorem fDq_lst {g : Bool → Bool} {ns : List Int} {h : CH} {a b : Nat} {l : List Int} (ea : h[a]? = some (.lst (l.map .int))) (eb : h[b]? = some (.lst (l.map .int))) : fDq g ns (.ref a) (.ref b) h = .ok (.bl (g true)) h := by
  unfold fDq
  rw [datC_lst ea, datC_lst eb]
  dsimp only
  rw [show deq 6 (.list (l.map .int)) (.list (l.map .int)) = deqs (deq 5) (l.map .int) (l.map .int) from rfl, deqs_ints (fun i => deq_int i 4)]
theorem fDq_tup {g : Bool → Bool} {ns : List Int} {h : CH} {a b : Nat} {l : List Int} (ea : h[a]? = some (.tup (l.map .int))) (eb : h[b]? = some (.tup (l.map .int))) : fDq g ns (.ref a) (.ref b) h = .ok (.bl (g true)) h := by
  unfold fDq
  rw [datC_tup ea, datC_tup eb]
  dsimp only
  rw [show deq 6 (.tuple (l.map .int)) (.tuple (l.map .int)) = deqs (deq 5) (l.map .int) (l.map .int) from rfl, deqs_ints (fun i => deq_int i 4)]

theorem rep_one {g : Nat → List Int} {L L' j k j' k' : Nat} (a : Rep g L j k) (b : Rep g L' j' k') : j = j' ∧ k = k' := by
  obtain ⟨a1, a2, a3, a4⟩ := a
  obtain ⟨b1, b2, b3, b4⟩ := b
  have e : k = k' := by
    rcases Nat.lt_trichotomy k k' with q | q | q
    · exact absurd a3 (b4 j k a1 q)
    · exact q
    · exact absurd b3 (a4 j' k' b1 q)
  subst e
  refine ⟨?_, rfl⟩
  rcases Nat.lt_trichotomy j j' with q | q | q
  · exact absurd (a3.trans b3.symm) (a4 j j' q b1)
  · exact q
  · exact absurd (b3.trans a3.symm) (a4 j' j q a1)

/-! ### what the law asks of one call -/
theorem whole_int (ns : List Int) (i : Int) (h : CH) : m__law_whole ns [.int i] h = .ok (.bl true) h := rfl
structure Told (h : CH) (o : Nat) (s low : Int) (m : Nat) (t ring : List Int) (g : Nat → List Int) : Prop where
  r : Rule h o s low m t
  hr : 1 ≤ ring.length
  hl : ring.length ≤ 1000
  g0 : g 0 = ring
  gl : ∀ k, ledI s low m t (g k) = g (k + 1)
  gn : ∀ k, (g k).length = ring.length
  gs : ∀ k, signs s (g k)
theorem Told.mono {h h' : CH} {o : Nat} {s low : Int} {m : Nat} {t ring : List Int} {g : Nat → List Int} (p : h <+: h') (T : Told h o s low m t ring g) : Told h' o s low m t ring g :=
  ⟨T.r.mono p, T.hr, T.hl, T.g0, T.gl, T.gn, T.gs⟩
theorem Told.comes {h : CH} {o : Nat} {s low : Int} {m : Nat} {t ring : List Int} {g : Nat → List Int} (T : Told h o s low m t ring g) (ns : List Int) {rr : Nat} (er : h[rr]? = some (.lst (ring.map .int))) (L : Nat) (hL : L ≤ 1100) : Came g L h (m_comes_again ns [.ref o, .ref rr, .int ((L : Int) - 1)] h) :=
  comes_ok ns T.r er T.hr T.hl (T.g0 ▸ T.gs 0) L hL T.g0 T.gl T.gn T.gs
theorem says_none (ns : List Int) {h : CH} {o rr : Nat} {s low : Int} {m : Nat} {t ring : List Int} {g : Nat → List Int} (T : Told h o s low m t ring g) (er : h[rr]? = some (.lst (ring.map .int))) (L : Nat) (hL : L ≤ 1100) (dis : Dis g L) :
    ∃ h', m__law_says ns [.ref o, .ref rr, .int ((L : Int) - 1), .non] h = .ok (.bl true) h' ∧ h <+: h' := by
  obtain ⟨h1, eh1⟩ : ∃ h1, h1 = h ++ [CO.lst (ring.map .int)] := ⟨_, rfl⟩
  have p1 : h <+: h1 := by rw [eh1]; exact List.prefix_append _ _
  have f1 : fListOf ns [.ref rr] h = .ok (.ref h.length) h1 := by rw [fListOf_lst er, eh1]
  have t1 : h1[h.length]? = some (.lst (ring.map .int)) := by rw [eh1]; exact len_new
  obtain ⟨h2, p2, z⟩ := (T.mono p1).comes ns t1 L hL
  rcases z with ⟨f2, _⟩ | ⟨v, j, k, _, rep, _⟩
  · have f3 : fDq (!·) ns (.ref h.length) (.ref rr) h2 = .ok (.bl false) h2 := fDq_lst (pre_get p2 t1) (pre_get p2 (pre_get p1 er))
    have f4 : ∀ h, fIsN .non .non h = .ok (.bl true) h := fun _ => rfl
    refine ⟨h2, ?_, p1.trans p2⟩
    clear T er dis eh1 p1 t1 p2
    unfold m__law_says
    walk_at "exh"
  · obtain ⟨r1, r2, r3, _⟩ := rep
    exact absurd r3 (dis j k r1 r2)
theorem says_rep (ns : List Int) {h : CH} {o rr dv : Nat} {s low : Int} {m : Nat} {t ring : List Int} {g : Nat → List Int} (T : Told h o s low m t ring g) (er : h[rr]? = some (.lst (ring.map .int))) (L : Nat) (hL : L ≤ 1100) {j k : Nat} (rep : Rep g L j k) (ed : h[dv]? = some (.tup [.int j, .int ((k : Int) - j)])) :
    ∃ h', m__law_says ns [.ref o, .ref rr, .int ((L : Int) - 1), .ref dv] h = .ok (.bl true) h' ∧ h <+: h' := by
  obtain ⟨h1, eh1⟩ : ∃ h1, h1 = h ++ [CO.lst (ring.map .int)] := ⟨_, rfl⟩
  have p1 : h <+: h1 := by rw [eh1]; exact List.prefix_append _ _
  have f1 : fListOf ns [.ref rr] h = .ok (.ref h.length) h1 := by rw [fListOf_lst er, eh1]
  have t1 : h1[h.length]? = some (.lst (ring.map .int)) := by rw [eh1]; exact len_new
  obtain ⟨h2, p2, z⟩ := (T.mono p1).comes ns t1 L hL
  rcases z with ⟨_, dis⟩ | ⟨v, j', k', f2, rep', tv⟩
  · obtain ⟨r1, r2, r3, _⟩ := rep
    exact absurd r3 (dis j k r1 r2)
  · obtain ⟨e1, e2⟩ := rep_one rep rep'
    subst e1 e2
    have f3 : fDq (!·) ns (.ref h.length) (.ref rr) h2 = .ok (.bl false) h2 := fDq_lst (pre_get p2 t1) (pre_get p2 (pre_get p1 er))
    have f4 : ∀ n h, fIsN (.ref n) .non h = .ok (.bl false) h := fun _ _ => rfl
    have f5 : tyC ns h2 (.ref v) = some "tuple" := by
      show (match h2[v]? with
        | some (.lst _) => some "list"
        | some (.tup _) => some "tuple"
        | some (.dK _) => some "dict"
        | some (.dT _) => some "dict"
        | none => none) = _
      rw [tv]
    have f6 : isiC "tuple" "tuple" = some true := rfl
    have f7 : fLen ns [.ref v] h2 = .ok (.int 2) h2 := by rw [fLen_tup tv]; rfl
    have f8 : ∀ h, fNe (.int 2) (.int 2) h = .ok (.bl false) h := fun _ => rfl
    have f9 : fIxT ns (.ref v) (.int 0) h2 = .ok (.int j) h2 := fIxT_at tv (atI_int (by omega) rfl)
    have f10 : fIxT ns (.ref v) (.int 1) h2 = .ok (.int ((k : Int) - j)) h2 := fIxT_at tv (atI_int (by omega) rfl)
    have f11 : fDq (fun k => k) ns (.ref v) (.ref dv) h2 = .ok (.bl true) h2 := fDq_tup (l := [(j : Int), (k : Int) - j]) tv (pre_get p2 (pre_get p1 ed))
    have f12 := whole_int ns
    refine ⟨h2, ?_, p1.trans p2⟩
    clear T er rep rep' eh1 p1 t1 p2 tv ed
    unfold m__law_says
    walk_at "exh"
end K15
end

section
set_option Elab.async false
set_option linter.all false
set_option maxRecDepth 100000
set_option maxHeartbeats 2000000
namespace K15
open PySem L2 Xq
local macro_rules | `(tactic| walk_at "ex") => `(tactic| simp only [mDef, mSeq, mSet, mRet, mDrop, mIf, mVar, mC, mOp, mIx, mArg, mCall, mCons, mNil, mTst, mNotT, mAndT, mOrT, mAndV, mOrV, mNotV, mUn, mChain, Ou.bind, Ou.stm, mNext, mStop, mBM, mLst, mTup, new, mSetIx, mDGet, mDPut, mDIn, mIsi, mSl, mPart, mNo, mAug, mAsg, List.getElem?_cons_zero, List.getElem?_cons_succ, List.set_cons_zero, List.set_cons_succ, List.length_cons, List.length_nil, List.cons_append, List.nil_append, List.append_nil, List.map_cons, List.map_nil, List.replicate_succ, List.replicate_zero, Nat.reduceAdd, Nat.reduceSub, if_true, ite_true, mFor, mWhile, mIR1, mIR2, mNewT, mNewK, mIList])
local macro_rules | `(tactic| walk_at "exh") => `(tactic| simp only [mDef, mSeq, mSet, mRet, mDrop, mIf, mVar, mC, mOp, mIx, mArg, mCall, mCons, mNil, mTst, mNotT, mAndT, mOrT, mAndV, mOrV, mNotV, mUn, mChain, Ou.bind, Ou.stm, mNext, mStop, mBM, mLst, mTup, new, mSetIx, mDGet, mDPut, mDIn, mIsi, mSl, mPart, mNo, mAug, mAsg, List.getElem?_cons_zero, List.getElem?_cons_succ, List.set_cons_zero, List.set_cons_succ, List.length_cons, List.length_nil, List.cons_append, List.nil_append, List.append_nil, List.map_cons, List.map_nil, List.replicate_succ, List.replicate_zero, Nat.reduceAdd, Nat.reduceSub, if_true, ite_true, mFor, mWhile, mIR1, mIR2, mNewT, mNewK, mIList, Int.toNat_natCast, List.length_map, Bool.false_eq_true, if_false, Option.isSome_some, Option.isSome_none, decide_true, Bool.not_true, Bool.not_false, *])

theorem fLt_int (i j : Int) (h : CH) : fLt (.int i) (.int j) h = .ok (.bl (ltZ i j)) h := rfl
theorem cell_ok (ns : List Int) (k : Nat) (h : CH) : m__law_cell_at ns [.scr, .int (k : Int)] h = .ok (.int (ns.getD k 0)) h := by
  have f1 := fLen_scr (ns := ns) (h := h)
  by_cases hk : k < ns.length
  · have f2 : fLt (.int (k : Int)) (.int ns.length) h = .ok (.bl true) h := by
      rw [fLt_int, ltZ_iff.mpr (by omega : (k : Int) < ns.length)]
    have f3 : fIxL ns .scr (.int (k : Int)) h = .ok (.int (ns.getD k 0)) h := by
      rw [fIxL_scr (atI_nth (.int 0) (by omega) (by rw [List.length_map]; omega)), getD_int]; rfl
    unfold m__law_cell_at
    walk_at "exh"
  · have f2 : fLt (.int (k : Int)) (.int ns.length) h = .ok (.bl false) h := by
      rw [fLt_int, ltZ_eq, decide_eq_false (by omega)]
    have f4 : ns.getD k 0 = 0 := by simp [List.getD, List.getElem?_eq_none_iff.mpr (Nat.le_of_not_lt hk)]
    rw [f4]
    unfold m__law_cell_at
    clear f4
    walk_at "exh"
theorem fDiv_int {i j : Int} {h : CH} (h0 : 0 < j) (h1 : j < 1073741824) : fDiv (.int i) (.int j) h = .ok (.int (i / j)) h := by
  unfold fDiv fIC
  simp only [bDiv_iff.mpr ⟨h0, h1⟩, if_true]
theorem fMul_r {i j : Int} {h : CH} (hj : in64 j = true) : fMul (.int i) (.int j) h = .ok (.int (i * j)) h := by
  unfold fMul fIC bMul
  simp only [hj, Bool.or_true, if_true]
theorem fMul_l {i j : Int} {h : CH} (hj : in64 i = true) : fMul (.int i) (.int j) h = .ok (.int (i * j)) h := by
  unfold fMul fIC bMul
  simp only [hj, Bool.true_or, if_true]
theorem fAdd_int (i j : Int) (h : CH) : fAdd (.int i) (.int j) h = .ok (.int (i + j)) h := rfl
theorem fSub_int (i j : Int) (h : CH) : fSub (.int i) (.int j) h = .ok (.int (i - j)) h := rfl
theorem stream_b1 (ns : List Int) {h : CH} {f n : Nat} (hF : n < f) (hn : n ≤ 1000) (cell many : CV) (rest : Int) :
    ∃ c' h', loopN (nxR 0 n) (gN 4) (m__law_stream_b1 ns) f 0 [some cell, some many, some (.ref h.length), some (.int rest), none, none, none] (h ++ [.lst []]) = .nx c' h' ∧ ∃ (r : Int) (kk : Option CV) (xs : List Int), c' = [some cell, some many, some (.ref h.length), some (.int r), kk, none, none] ∧ h <+: h' ∧ h'[h.length]? = some (.lst (xs.map .int)) ∧ xs.length = n := by
  refine forR (b := m__law_stream_b1 ns) (fun i c h' => ∃ (r : Int) (kk : Option CV) (xs : List Int), c = [some cell, some many, some (.ref h.length), some (.int r), kk, none, none] ∧ h <+: h' ∧ h'[h.length]? = some (.lst (xs.map .int)) ∧ xs.length = i) hF ⟨rest, none, [], rfl, List.prefix_append _ _, len_new, rfl⟩ (fun i c h' hi q => ?_)
  obtain ⟨r, kk, xs, rfl, p, hd, hx⟩ := q
  have f1 := isL_at hd
  have f3 : ∀ y, fAppend (.ref h.length) [y] h' = .ok .non (h'.set h.length (.lst (xs.map .int ++ [y]))) := fun y => fAppend_at hd (by rw [List.length_map]; omega)
  have f2 : ∀ i h, fMod (.int i) (.int 306783379) h = .ok (.int (i % 306783379)) h := fun _ _ => fMod_int (by decide)
  have f4 : ∀ i h, fDiv (.int i) (.int 306783379) h = .ok (.int (i / 306783379)) h := fun _ _ => fDiv_int (by decide) (by decide)
  refine ⟨_, _, ?_, r / 306783379, some (.int (0 + (i : Int))), xs ++ [r % 306783379], rfl, pre_set (o := .lst (xs.map .int ++ [.int (r % 306783379)])) p (Nat.le_refl _), by rw [set_get hd, List.map_append]; rfl, by simp [hx]⟩
  clear hd p hx hF hn hi
  unfold m__law_stream_b1
  walk_at "exh"
theorem stream_b2 (ns : List Int) {h : CH} {f n d : Nat} (hF : n < f) (hn : n ≤ 1000) (cell many rest : CV) (a : Int) (kk : Option CV) (h0 : CH) (xs : List Int) (hh : h.length ≤ d) (p : h <+: h0) (hd : h0[d]? = some (.lst (xs.map .int))) (hx : xs.length = n) :
    ∃ c' h', loopN (nxR 0 n) (gN 4) (m__law_stream_b2 ns) f 0 [some cell, some many, some (.ref d), some rest, kk, some (.int a), none] h0 = .nx c' h' ∧ ∃ (a : Int) (kk mx : Option CV) (xs : List Int), c' = [some cell, some many, some (.ref d), some rest, kk, some (.int a), mx] ∧ h <+: h' ∧ h'[d]? = some (.lst (xs.map .int)) ∧ xs.length = n := by
  refine forR (b := m__law_stream_b2 ns) (fun i c h' => ∃ (a : Int) (kk mx : Option CV) (xs : List Int), c = [some cell, some many, some (.ref d), some rest, kk, some (.int a), mx] ∧ h <+: h' ∧ h'[d]? = some (.lst (xs.map .int)) ∧ xs.length = n) hF ⟨a, kk, none, xs, rfl, p, hd, hx⟩ (fun i c h' hi q => ?_)
  obtain ⟨a, kk, mx, xs, rfl, p, hd, hx⟩ := q
  have g1 : in64 (i : Int) = true := in64_iff.mpr ⟨by omega, by omega⟩
  have g2 : in64 ((i : Int) * i + 7) = true := by
    have z1 : (0 : Int) ≤ (i : Int) * i := Int.mul_nonneg (by omega) (by omega)
    have z2 : (i : Int) * i ≤ 1000 * 1000 := Int.mul_le_mul (by omega) (by omega) (by omega) (by omega)
    exact in64_iff.mpr ⟨by omega, by omega⟩
  have f1 : ∀ i h, fMul (.int i) (.int 48271) h = .ok (.int (i * 48271)) h := fun _ _ => fMul_r rfl
  have f2 : ∀ h, fMul (.int (i : Int)) (.int (i : Int)) h = .ok (.int ((i : Int) * i)) h := fun _ => fMul_r g1
  have f3 : ∀ i h, fMul (.int i) (.int 16807) h = .ok (.int (i * 16807)) h := fun _ _ => fMul_r rfl
  have f4 : ∀ a h, fMul (.int a) (.int ((i : Int) * i + 7)) h = .ok (.int (a * ((i : Int) * i + 7))) h := fun _ _ => fMul_r g2
  have f5 : ∀ i h, fMod (.int i) (.int 2147483647) h = .ok (.int (i % 2147483647)) h := fun _ _ => fMod_int (by decide)
  have f6 : ∀ i h, fMod (.int i) (.int 2147483587) h = .ok (.int (i % 2147483587)) h := fun _ _ => fMod_int (by decide)
  have f7 : ∀ i h, fDiv (.int i) (.int 977) h = .ok (.int (i / 977)) h := fun _ _ => fDiv_int (by decide) (by decide)
  have f8 : ∀ i h, fDiv (.int i) (.int 7) h = .ok (.int (i / 7)) h := fun _ _ => fDiv_int (by decide) (by decide)
  have f9 := fAdd_int
  have f10 : ∀ v, setC (.ref d) (.int (i : Int)) v h' = some (h'.set d (.lst ((xs.map .int).set i v))) := fun v => by
    rw [setC_at hd (by omega) (by rw [List.length_map]; omega)]; rfl
  refine ⟨_, _, ?_, (a * 48271 + (i : Int) * i + 11) % 2147483647, some (.int (i : Int)), some (.int (((a * 48271 + (i : Int) * i + 11) % 2147483647) / 977 * 16807 + ((a * 48271 + (i : Int) * i + 11) % 2147483647) * ((i : Int) * i + 7) + i)),
    xs.set i ((((a * 48271 + (i : Int) * i + 11) % 2147483647) / 977 * 16807 + ((a * 48271 + (i : Int) * i + 11) % 2147483647) * ((i : Int) * i + 7) + i) % 2147483587 / 7), rfl,
    pre_set (o := .lst ((xs.map .int).set i (.int ((((a * 48271 + (i : Int) * i + 11) % 2147483647) / 977 * 16807 + ((a * 48271 + (i : Int) * i + 11) % 2147483647) * ((i : Int) * i + 7) + i) % 2147483587 / 7)))) p hh, by rw [set_get hd, List.map_set], by simp [hx]⟩
  clear hd p hx hF hn hi g1 g2 hh
  unfold m__law_stream_b2
  simp only [Int.zero_add]
  walk_at "exh"
theorem stream_ok (ns : List Int) {h : CH} (cell : Int) (n : Nat) (hn : n ≤ 1000) :
    ∃ (h' : CH) (xs : List Int), m__law_stream ns [.int cell, .int (n : Int)] h = .ok (.ref h.length) h' ∧ h <+: h' ∧ h'[h.length]? = some (.lst (xs.map .int)) ∧ xs.length = n := by
  have hF := fuel
  unfold m__law_stream
  generalize FUEL = f at hF ⊢
  obtain ⟨c1, h1, z1, r, kk, xs, rfl, p, hd, hx⟩ := stream_b1 ns (h := h) (show n < f by omega) hn (.int cell) (.int n) cell
  have f1 := r62_nat (show n ≤ 1000000 by omega)
  have f2 : lineB 0 = true := rfl
  have f3 : ∀ h, fGt (.int r) (.int 0) h = .ok (.bl (ltZ 0 r)) h := fun _ => rfl
  have f4 : ∀ i h, fMod (.int i) (.int 2147483647) h = .ok (.int (i % 2147483647)) h := fun _ _ => fMod_int (by decide)
  have f5 := fAdd_int
  by_cases hr : ltZ 0 r = true
  · refine ⟨h1, xs, ?_, p, hd, hx⟩
    clear p hd hx
    walk_at "exh"
  · have hr : ltZ 0 r = false := by simpa using hr
    obtain ⟨c2, h2, z2, a, kk', mx, xs', rfl, p', hd', hx'⟩ := stream_b2 ns (h := h) (show n < f by omega) hn (.int cell) (.int n) (.int r) (cell % 2147483647 + 48271) kk h1 xs (Nat.le_refl _) p hd hx
    refine ⟨h2, xs', ?_, p', hd', hx'⟩
    clear p hd hx p' hd' hx'
    walk_at "exh"
theorem lword_ok (ns : List Int) {h : CH} (number s : Int) (m : Nat) (hm : m ≤ 1000) (h0 : 0 < s) (h9 : s ≤ 9) :
    ∃ (h' : CH) (n : Nat) (xs : List Int), m__law_word ns [.int number, .int s, .int (m : Int)] h = .ok (.ref n) h' ∧ h <+: h' ∧ h.length ≤ n ∧ h'[n]? = some (.lst (xs.map .int)) ∧ xs.length = m ∧ signs s xs := by
  have hF := fuel
  unfold m__law_word
  generalize FUEL = f at hF ⊢
  obtain ⟨c', h', z1, nb, n, kk, xs, rfl, p, hn, hd, hx, hs⟩ := forR (b := m__law_word_b1 ns) (lo := 0) (n := m) (s := 4) (f := f) (c := [some (.int number), some (.int s), some (.int m), some (.ref h.length), none]) (h := h ++ [.lst []])
    (fun i c h' => ∃ (nb : Int) (n : Nat) (kk : Option CV) (xs : List Int), c = [some (.int nb), some (.int s), some (.int m), some (.ref n), kk] ∧ h <+: h' ∧ h.length ≤ n ∧ h'[n]? = some (.lst (xs.map .int)) ∧ xs.length = i ∧ signs s xs) (by omega) ⟨number, h.length, none, [], rfl, List.prefix_append _ _, Nat.le_refl _, len_new, rfl, fun x hx => by simp at hx⟩ (fun i c h' hi q => by
      obtain ⟨nb, n, kk, xs, rfl, p, hn, hd, hx, hs⟩ := q
      have f1 : ∀ i h, fMod (.int i) (.int s) h = .ok (.int (i % s)) h := fun _ _ => fMod_int h0
      have f2 : ∀ i h, fDiv (.int i) (.int s) h = .ok (.int (i / s)) h := fun _ _ => fDiv_int h0 (by omega)
      have f3 : lineB 1 = true := rfl
      obtain ⟨h1, eh1⟩ : ∃ h1, h1 = h' ++ [CO.lst [.int (nb % s)]] := ⟨_, rfl⟩
      have p1 : h' <+: h1 := by rw [eh1]; exact List.prefix_append _ _
      have t1 : h1[h'.length]? = some (.lst [.int (nb % s)]) := by rw [eh1]; exact len_new
      have f4 : fCat (.ref h'.length) (.ref n) h1 = .ok (.ref h1.length) (h1 ++ [.lst (CV.int (nb % s) :: xs.map .int)]) := by
        unfold fCat
        rw [ownL_ref t1, ownL_ref (pre_get p1 hd)]
        dsimp only
        rw [if_pos (lineB_of (by simp; omega))]
        rfl
      refine ⟨_, _, ?_, nb / s, h1.length, some (.int (0 + (i : Int))), (nb % s) :: xs, rfl, pre_new (p.trans p1), Nat.le_trans (pre_len p) (pre_len p1), len_new, by simp [hx], fun x hx => ?_⟩
      · clear hd p hx hF hi hs p1 t1 hn h0 h9
        unfold m__law_word_b1
        have eh2 := eh1.symm
        clear eh1
        walk_at "exh"
      · rcases List.mem_cons.mp hx with rfl | hx
        · exact ⟨Int.emod_nonneg _ (by omega), Int.emod_lt_of_pos _ h0⟩
        · exact hs x hx)
  have f1 := r62_nat (show m ≤ 1000000 by omega)
  have f2 : lineB 0 = true := rfl
  refine ⟨h', n, xs, ?_, p, hn, hd, hx, hs⟩
  clear p hn hd hx hs
  walk_at "exh"
end K15
end

section
set_option Elab.async false
set_option linter.all false
set_option maxRecDepth 100000
set_option maxHeartbeats 2000000
namespace K15
open PySem L2 Xq
local macro_rules | `(tactic| walk_at "ex") => `(tactic| simp only [mDef, mSeq, mSet, mRet, mDrop, mIf, mVar, mC, mOp, mIx, mArg, mCall, mCons, mNil, mTst, mNotT, mAndT, mOrT, mAndV, mOrV, mNotV, mUn, mChain, Ou.bind, Ou.stm, mNext, mStop, mBM, mLst, mTup, new, mSetIx, mDGet, mDPut, mDIn, mIsi, mSl, mPart, mNo, mAug, mAsg, List.getElem?_cons_zero, List.getElem?_cons_succ, List.set_cons_zero, List.set_cons_succ, List.length_cons, List.length_nil, List.cons_append, List.nil_append, List.append_nil, List.map_cons, List.map_nil, List.replicate_succ, List.replicate_zero, Nat.reduceAdd, Nat.reduceSub, if_true, ite_true, mFor, mWhile, mIR1, mIR2, mNewT, mNewK, mIList])
local macro_rules | `(tactic| walk_at "exh") => `(tactic| simp only [mDef, mSeq, mSet, mRet, mDrop, mIf, mVar, mC, mOp, mIx, mArg, mCall, mCons, mNil, mTst, mNotT, mAndT, mOrT, mAndV, mOrV, mNotV, mUn, mChain, Ou.bind, Ou.stm, mNext, mStop, mBM, mLst, mTup, new, mSetIx, mDGet, mDPut, mDIn, mIsi, mSl, mPart, mNo, mAug, mAsg, List.getElem?_cons_zero, List.getElem?_cons_succ, List.set_cons_zero, List.set_cons_succ, List.length_cons, List.length_nil, List.cons_append, List.nil_append, List.append_nil, List.map_cons, List.map_nil, List.replicate_succ, List.replicate_zero, Nat.reduceAdd, Nat.reduceSub, if_true, ite_true, mFor, mWhile, mIR1, mIR2, mNewT, mNewK, mIList, Int.toNat_natCast, List.length_map, Bool.false_eq_true, if_false, Option.isSome_some, Option.isSome_none, decide_true, Bool.not_true, Bool.not_false, *])

theorem onInts_at {g : List Int → Option Int} {ns : List Int} {h : CH} {n : Nat} {l : List Int} {m : Int} (e : h[n]? = some (.lst (l.map .int))) (hg : g l = some m) : onInts g ns [.ref n] h = .ok (.int m) h := by
  unfold onInts
  dsimp only
  rw [lstC_ref e]
  dsimp only
  rw [intsC_map]
  dsimp only
  rw [hg]
theorem ix_list (ns : List Int) {h : CH} {n : Nat} {l : List Int} {i : Int} (e : h[n]? = some (.lst (l.map .int))) (h0 : 0 ≤ i) (h1 : i < l.length) : fIxL ns (.ref n) (.int i) h = .ok (.int (l.getD i.toNat 0)) h := by
  rw [fIxL_at e (atI_nth (.int 0) h0 (by rw [List.length_map]; exact h1)), getD_int]
/-- the products of way 0 -/
theorem told_parts (ns : List Int) {h : CH} {f : Nat} {s : Int} {w x : Nat} {ws xs : List Int} (hF : 2000 < f) (h2 : 2 ≤ s) (h9 : s ≤ 9) (ew : h[w]? = some (.lst (ws.map .int))) (ex : h[x]? = some (.lst (xs.map .int))) (hw : ws.length ≤ 11) (hx : xs.length = 12) (hs : signs s ws) (way : CV) (u : Option CV) (a b : Option CV) :
    ∃ (h' : CH) (n : Nat) (l : List Int), mLc f [5, 6] (mIZip (mVar 2) (mSl fSlL (mVar 3) (mPart (mC (.int 1))) mNo)) (gT2 5 6) mYes m__law_told_e1 ns [some way, some (.int s), some (.ref w), some (.ref x), u, a, b] h = .ok (.ref n) h' ∧ h <+: h' ∧ h'[n]? = some (.lst (l.map .int)) := by
  obtain ⟨h1, eh1⟩ : ∃ h1, h1 = h ++ [CO.lst (cutC (xs.map .int) (some 1) none)] := ⟨_, rfl⟩
  have p1 : h <+: h1 := by rw [eh1]; exact List.prefix_append _ _
  have ecut : cutC (xs.map CV.int) (some 1) none = (xs.drop 1).map .int := by
    unfold cutC
    rw [show HT.sIx (xs.map CV.int).length 0 (some 1) = 1 from by rw [show (1 : Int) = ((1 : Nat) : Int) from rfl, HT.sIx_nat, List.length_map, hx]; rfl, HT.sIx_none, List.length_map, hx, ← List.map_drop]
    rw [List.take_of_length_le]
    simp [hx]
  have t1 : h1[h.length]? = some (.lst ((xs.drop 1).map .int)) := by rw [eh1, ← ecut]; exact len_new
  have f1 : fSlL ns (.ref x) (some 1) none h = .ok (.ref h.length) h1 := by
    unfold fSlL
    rw [lstC_ref ex, eh1]; rfl
  have f2 : lstC ns h1 (.ref w) = some (ws.map .int) := lstC_ref (pre_get p1 ew)
  have f3 : lstC ns h1 (.ref h.length) = some ((xs.drop 1).map .int) := lstC_ref t1
  unfold mLc
  have it : mIZip (mVar 2) (mSl fSlL (mVar 3) (mPart (mC (.int 1))) mNo) ns [some way, some (.int s), some (.ref w), some (.ref x), u, a, b] h = .ok (nxZ ns (.ref w) (.ref h.length)) h1 := by
    clear eh1 ecut t1 ew ex hw hx hs p1 hF
    simp only [mIZip]
    walk_at "exh"
  rw [it]
  show ∃ (h' : CH) (n : Nat) (l : List Int), loopC (nxZ ns (.ref w) (.ref h.length)) (gT2 5 6) (mYes ns) (m__law_told_e1 ns) [some way, some (.int s), some (.ref w), some (.ref x), u, none, none] h1.length f 0 (h1 ++ [.lst []]) = .ok (.ref n) h' ∧ h <+: h' ∧ h'[n]? = some (.lst (l.map .int))
  obtain ⟨h', acc', z1, z2, p, l, rfl, _⟩ := loopC_run (N := nxZ ns (.ref w) (.ref h.length)) (g := gT2 5 6) (t := mYes ns) (e := m__law_told_e1 ns) (cw := [some way, some (.int s), some (.ref w), some (.ref x), u, none, none]) (d := h1.length) (n := ws.length)
    (fun i h' acc => h1 <+: h' ∧ ∃ l : List Int, acc = l.map .int ∧ l.length = i) (fun h' acc q => by
      obtain ⟨p, _⟩ := q
      unfold nxZ
      rw [lstC_ref (pre_get p (pre_get p1 ew)), lstC_ref (pre_get p t1)]
      dsimp only
      rw [List.getElem?_eq_none_iff.mpr (by rw [List.length_map]; exact Nat.le_refl _)])
    (fun i h' acc hi hd q => by
      obtain ⟨p, l, rfl, hl⟩ := q
      have hi2 : i < (xs.drop 1).length := by simp [hx]; omega
      have x0 : ∃ a, (ws.map CV.int)[i]? = some (.int a) ∧ 0 ≤ a ∧ a < s := ⟨ws[i], by simp [hi], hs _ (List.getElem_mem hi)⟩
      obtain ⟨a', ea, a0, a1⟩ := x0
      have y0 : ∃ b, ((xs.drop 1).map CV.int)[i]? = some (.int b) := ⟨(xs.drop 1)[i], by rw [List.getElem?_map, List.getElem?_eq_getElem hi2]; rfl⟩
      obtain ⟨b', eb⟩ := y0
      obtain ⟨h2, eh2⟩ : ∃ h2, h2 = h' ++ [CO.tup [.int a', .int b']] := ⟨_, rfl⟩
      have p2 : h' <+: h2 := by rw [eh2]; exact List.prefix_append _ _
      have t2 : h2[h'.length]? = some (.tup [.int a', .int b']) := by rw [eh2]; exact len_new
      have e1 : nxZ ns (.ref w) (.ref h.length) i h' = .item (.ref h'.length) h2 := by
        unfold nxZ
        rw [lstC_ref (pre_get p (pre_get p1 ew)), lstC_ref (pre_get p t1)]
        dsimp only
        rw [ea, eb, eh2]
      have e2 : gT2 5 6 (.ref h'.length) [some way, some (.int s), some (.ref w), some (.ref x), u, none, none] h2 = some [some way, some (.int s), some (.ref w), some (.ref x), u, some (.int a'), some (.int b')] := by
        unfold gT2
        rw [tupC_ref t2]; rfl
      have e3 : m__law_told_e1 ns [some way, some (.int s), some (.ref w), some (.ref x), u, some (.int a'), some (.int b')] h2 = .ok (.int (a' * (b' % s))) h2 := by
        have g1 : ∀ i h, fMod (.int i) (.int s) h = .ok (.int (i % s)) h := fun _ _ => fMod_int (by omega)
        have g2 : ∀ j h, fMul (.int a') (.int j) h = .ok (.int (a' * j)) h := fun _ _ => fMul_l (in64_iff.mpr ⟨by omega, by omega⟩)
        clear eh2 t2 p2 e1 e2 ea eb hd p hF ew ex t1 eh1 ecut f1 f2 f3 it
        unfold m__law_told_e1
        walk_at "exh"
      refine ⟨_, h2, _, h2, _, h2, e1, e2, rfl, e3, pre_get p2 hd, by rw [List.length_map]; omega, pre_set (p.trans p2) (Nat.le_refl _), l ++ [a' * (b' % s)], by rw [List.map_append]; rfl, by simp [hl]⟩)
    ws.length f 0 (h1 ++ [.lst []]) [] (by omega) (by omega) len_new ⟨List.prefix_append _ _, [], rfl, rfl⟩
  exact ⟨h', _, l, z1, p1.trans p, z2⟩
theorem told_ok (ns : List Int) {h : CH} {s way : Int} {w x : Nat} {ws xs : List Int} (h2 : 2 ≤ s) (h9 : s ≤ 9) (ew : h[w]? = some (.lst (ws.map .int))) (ex : h[x]? = some (.lst (xs.map .int))) (hw0 : 1 ≤ ws.length) (hw : ws.length ≤ 11) (hx : xs.length = 12) (hs : signs s ws) :
    ∃ (h' : CH) (y : Int), m__law_told ns [.int way, .int s, .ref w, .ref x] h = .ok (.int y) h' ∧ h <+: h' ∧ 0 ≤ y ∧ y < s := by
  have hF := fuel
  unfold m__law_told
  generalize FUEL = f at hF ⊢
  have md : ∀ i : Int, 0 ≤ i % s ∧ i % s < s := fun i => ⟨Int.emod_nonneg _ (by omega), Int.emod_lt_of_pos _ (by omega)⟩
  have g1 : ∀ i h, fMod (.int i) (.int s) h = .ok (.int (i % s)) h := fun _ _ => fMod_int (by omega)
  have g2 := fAdd_int
  have g3 : ∀ i j h, fEq (.int i) (.int j) h = .ok (.bl (decide (i = j))) h := fun _ _ _ => rfl
  have x0 : ∀ h', h <+: h' → fIxL ns (.ref x) (.int 0) h' = .ok (.int (xs.getD 0 0)) h' := fun h' p => ix_list ns (pre_get p ex) (by omega) (by omega)
  by_cases c0 : way = 0
  · obtain ⟨h1, n, l, z1, p1, t1⟩ := told_parts ns (way := .int way) (u := none) (a := none) (b := none) hF h2 h9 ew ex hw hx hs
    have f1 : onInts (fun l => some l.sum) ns [.ref n] h1 = .ok (.int l.sum) h1 := onInts_at t1 rfl
    have f2 := x0 h1 p1
    refine ⟨h1, (l.sum + xs.getD 0 0) % s, ?_, p1, md _⟩
    subst c0
    have d : decide ((0 : Int) = 0) = true := rfl
    clear x0 md hs hx hw hw0 ex ew hF p1 t1
    simp only [fSum]
    walk_at "exh"
  · have d0 : decide (way = 0) = false := decide_eq_false c0
    by_cases c1 : way = 1
    · have f1 := x0 h (List.prefix_refl _)
      have f2 : fIxL ns (.ref x) (.int 1) h = .ok (.int (xs.getD 1 0)) h := ix_list ns ex (by omega) (by omega)
      have f3 : fLen ns [.ref w] h = .ok (.int ws.length) h := by rw [fLen_lst ew, List.length_map]
      have f4 : ∀ i h, fMod (.int i) (.int ws.length) h = .ok (.int (i % ws.length)) h := fun _ _ => fMod_int (by omega)
      have f5 : fIxL ns (.ref w) (.int (xs.getD 0 0 % ws.length)) h = .ok (.int (ws.getD (xs.getD 0 0 % ws.length).toNat 0)) h := ix_list ns ew (Int.emod_nonneg _ (by omega)) (Int.emod_lt_of_pos _ (by omega))
      refine ⟨h, (ws.getD (xs.getD 0 0 % ws.length).toNat 0 + xs.getD 1 0) % s, ?_, List.prefix_refl _, md _⟩
      have d1 : decide (way = 1) = true := decide_eq_true c1
      clear x0 md hs hx hw hw0 ex ew hF c1 c0
      walk_at "exh"
    · have d1 : decide (way = 1) = false := decide_eq_false c1
      have f1 := x0 h (List.prefix_refl _)
      obtain ⟨mx, emx⟩ : ∃ m, maxL ws = some m := by
        cases ws with
        | nil => simp at hw0
        | cons a r => exact ⟨_, rfl⟩
      obtain ⟨mn, emn⟩ : ∃ m, minL ws = some m := by
        cases ws with
        | nil => simp at hw0
        | cons a r => exact ⟨_, rfl⟩
      have f2 : fMax ns [.ref w] h = .ok (.int mx) h := onInts_at ew emx
      have f3 : fMin ns [.ref w] h = .ok (.int mn) h := onInts_at ew emn
      have f4 : lineB 2 = true := rfl
      obtain ⟨h1, eh1⟩ : ∃ h1, h1 = h ++ [CO.lst ([mx, mn].map .int)] := ⟨_, rfl⟩
      have eh2 : h ++ [CO.lst [CV.int mx, CV.int mn]] = h1 := by rw [eh1]; rfl
      have p1 : h <+: h1 := by rw [eh1]; exact List.prefix_append _ _
      have t1 : h1[h.length]? = some (.lst ([mx, mn].map .int)) := by rw [eh1]; exact len_new
      have f5 := x0 h1 p1
      have f6 : ∀ i h, fMod (.int i) (.int 2) h = .ok (.int (i % 2)) h := fun _ _ => fMod_int (by decide)
      have f7 : fIxL ns (.ref h.length) (.int (xs.getD 0 0 % 2)) h1 = .ok (.int ([mx, mn].getD (xs.getD 0 0 % 2).toNat 0)) h1 := ix_list ns t1 (Int.emod_nonneg _ (by omega)) (Int.emod_lt_of_pos _ (by decide))
      obtain ⟨_, m1, _⟩ := maxL_ok emx
      obtain ⟨_, m2, _⟩ := minL_ok emn
      refine ⟨h1, [mx, mn].getD (xs.getD 0 0 % 2).toNat 0, ?_, p1, ?_⟩
      · clear x0 md hs hx hw hw0 ex ew hF c1 c0 eh1 p1 t1 m1 m2 emx emn
        walk_at "exh"
      · have a := hs _ m1
        have b := hs _ m2
        have k : (xs.getD 0 0 % 2).toNat = 0 ∨ (xs.getD 0 0 % 2).toNat = 1 := by omega
        rcases k with k | k <;> rw [k]
        · exact a
        · exact b
end K15
end

section
set_option Elab.async false
set_option linter.all false
set_option maxRecDepth 100000
set_option maxHeartbeats 2000000
namespace K15
open PySem L2 Xq
local macro_rules | `(tactic| walk_at "ex") => `(tactic| simp only [mDef, mSeq, mSet, mRet, mDrop, mIf, mVar, mC, mOp, mIx, mArg, mCall, mCons, mNil, mTst, mNotT, mAndT, mOrT, mAndV, mOrV, mNotV, mUn, mChain, Ou.bind, Ou.stm, mNext, mStop, mBM, mLst, mTup, new, mSetIx, mDGet, mDPut, mDIn, mIsi, mSl, mPart, mNo, mAug, mAsg, List.getElem?_cons_zero, List.getElem?_cons_succ, List.set_cons_zero, List.set_cons_succ, List.length_cons, List.length_nil, List.cons_append, List.nil_append, List.append_nil, List.map_cons, List.map_nil, List.replicate_succ, List.replicate_zero, Nat.reduceAdd, Nat.reduceSub, if_true, ite_true, mFor, mWhile, mIR1, mIR2, mNewT, mNewK, mIList])
local macro_rules | `(tactic| walk_at "exh") => `(tactic| simp only [mDef, mSeq, mSet, mRet, mDrop, mIf, mVar, mC, mOp, mIx, mArg, mCall, mCons, mNil, mTst, mNotT, mAndT, mOrT, mAndV, mOrV, mNotV, mUn, mChain, Ou.bind, Ou.stm, mNext, mStop, mBM, mLst, mTup, new, mSetIx, mDGet, mDPut, mDIn, mIsi, mSl, mPart, mNo, mAug, mAsg, List.getElem?_cons_zero, List.getElem?_cons_succ, List.set_cons_zero, List.set_cons_succ, List.length_cons, List.length_nil, List.cons_append, List.nil_append, List.append_nil, List.map_cons, List.map_nil, List.replicate_succ, List.replicate_zero, Nat.reduceAdd, Nat.reduceSub, if_true, ite_true, mFor, mWhile, mIR1, mIR2, mNewT, mNewK, mIList, Int.toNat_natCast, List.length_map, Bool.false_eq_true, if_false, Option.isSome_some, Option.isSome_none, decide_true, Bool.not_true, Bool.not_false, *])

def Words (s : Int) (m d : Nat) (h : CH) (acc : List CV) : Prop := ∀ v ∈ acc, ∃ (n : Nat) (xs : List Int), v = .ref n ∧ d < n ∧ h[n]? = some (.lst (xs.map .int)) ∧ xs.length = m ∧ signs s xs
theorem Words.pre {s : Int} {m d : Nat} {h h' : CH} {acc : List CV} (w : Words s m d h acc) (p : h <+: h') : Words s m d h' acc := fun v hv => by
  obtain ⟨n, xs, a, b, c, e⟩ := w v hv
  exact ⟨n, xs, a, b, pre_get p c, e⟩
theorem Words.set {s : Int} {m d : Nat} {h : CH} {acc : List CV} (w : Words s m d h acc) (o : CO) : Words s m d (h.set d o) acc := fun v hv => by
  obtain ⟨n, xs, a, b, c, e⟩ := w v hv
  exact ⟨n, xs, a, b, set_ne c (by omega), e⟩
theorem table_words (ns : List Int) {h : CH} {f : Nat} {s : Int} {m N : Nat} (hF : 2000 < f) (h2 : 2 ≤ s) (h9 : s ≤ 9) (hm : m ≤ 9) (hN : N ≤ 1000) (way x : CV) (kk u v : Option CV) :
    ∃ (h' : CH) (acc : List CV), mLc f [7] (mIR1 (mVar 4)) (gN 7) mYes m__law_table_e2 ns [some way, some (.int s), some (.int m), some x, some (.int N), kk, none, u, v] h = .ok (.ref h.length) h' ∧ h <+: h' ∧ h'[h.length]? = some (.lst acc) ∧ acc.length = N ∧ Words s m h.length h' acc := by
  have r := r62_nat (show N ≤ 1000000 by omega)
  have it : mIR1 (mVar 4) ns [some way, some (.int s), some (.int m), some x, some (.int N), kk, none, u, v] h = .ok (nxR 0 N) h := by
    walk_at "exh"
  unfold mLc
  rw [it]
  show ∃ (h' : CH) (acc : List CV), loopC (nxR 0 N) (gN 7) (mYes ns) (m__law_table_e2 ns) [some way, some (.int s), some (.int m), some x, some (.int N), kk, none, none, v] h.length f 0 (h ++ [.lst []]) = .ok (.ref h.length) h' ∧ _
  obtain ⟨h', acc', z1, z2, z3, z4, z5⟩ := loopC_run (N := nxR 0 N) (g := gN 7) (t := mYes ns) (e := m__law_table_e2 ns) (cw := [some way, some (.int s), some (.int m), some x, some (.int N), kk, none, none, v]) (d := h.length) (n := N)
    (fun i h' acc => h <+: h' ∧ acc.length = i ∧ Words s m h.length h' acc) (fun h acc _ => nxR_ge (Nat.lt_irrefl _)) (fun i h' acc hi hd q => by
      obtain ⟨p, hl, hw⟩ := q
      obtain ⟨h3, n, xs, e1, p3, hn, t3, x1, x2⟩ := lword_ok ns (h := h') (0 + (i : Int)) s m (by omega) (by omega) h9
      have lt := get_lt hd
      refine ⟨_, _, _, _, .ref n, h3, nxR_lt hi, rfl, rfl, ?_, pre_get p3 hd, by omega, pre_set (p.trans p3) (Nat.le_refl _), by simp [hl], ?_⟩
      · show m__law_table_e2 ns [some way, some (.int s), some (.int m), some x, some (.int N), kk, none, some (.int (0 + (i : Int))), v] h' = _
        unfold m__law_table_e2
        clear p3 t3 x1 x2 hn hw hl hd p hF hN r it hm h2 h9 lt hi
        walk_at "exh"
      · refine Words.set (fun v hv => ?_) _
        rcases List.mem_append.mp hv with hv | hv
        · exact (hw.pre p3) v hv
        · have hv : v = .ref n := by simpa using hv
          exact ⟨n, xs, hv, by omega, t3, x1, x2⟩)
    N f 0 _ [] (by omega) (by omega) len_new ⟨List.prefix_append _ _, rfl, fun v hv => by simp at hv⟩
  exact ⟨h', acc', z1, z3, z2, z4, z5⟩
theorem table_tolds (ns : List Int) {h : CH} {f : Nat} {s way : Int} {m d x w : Nat} {acc : List CV} {xs : List Int} (hF : 2000 < f) (h2 : 2 ≤ s) (h9 : s ≤ 9) (hm1 : 1 ≤ m) (hm : m ≤ 9) (ew : h[w]? = some (.lst acc)) (hN : acc.length ≤ 1000) (hw : Words s m d h acc) (ex : h[x]? = some (.lst (xs.map .int))) (hx : xs.length = 12) (mm sz : CV) (kk u v : Option CV) :
    ∃ (h' : CH) (l : List Int), mLc f [8] (mIList (mVar 6)) (gN 8) mYes m__law_table_e3 ns [some (.int way), some (.int s), some mm, some (.ref x), some sz, kk, some (.ref w), u, v] h = .ok (.ref h.length) h' ∧ h <+: h' ∧ h'[h.length]? = some (.lst (l.map .int)) ∧ l.length = acc.length ∧ signs s l := by
  have it : mIList (mVar 6) ns [some (.int way), some (.int s), some mm, some (.ref x), some sz, kk, some (.ref w), u, v] h = .ok (nxL ns (.ref w)) h := by
    have l1 : lstC ns h (.ref w) = some acc := lstC_ref ew
    clear hw hN ew
    walk_at "exh"
  unfold mLc
  rw [it]
  show ∃ (h' : CH) (l : List Int), loopC (nxL ns (.ref w)) (gN 8) (mYes ns) (m__law_table_e3 ns) [some (.int way), some (.int s), some mm, some (.ref x), some sz, kk, some (.ref w), u, none] h.length f 0 (h ++ [.lst []]) = .ok (.ref h.length) h' ∧ _
  obtain ⟨h', acc', z1, z2, p, l, hl, hl2, hs⟩ := loopC_run (N := nxL ns (.ref w)) (g := gN 8) (t := mYes ns) (e := m__law_table_e3 ns) (cw := [some (.int way), some (.int s), some mm, some (.ref x), some sz, kk, some (.ref w), u, none]) (d := h.length) (n := acc.length)
    (fun i h' ac => h <+: h' ∧ ∃ l : List Int, ac = l.map .int ∧ l.length = i ∧ signs s l) (fun h' ac q => nxL_end (lstC_ref (pre_get q.1 ew)) (Nat.le_refl _)) (fun i h' ac hi hd q => by
      obtain ⟨p, l, rfl, hl, hs⟩ := q
      obtain ⟨n, ws, e1, _, e2, e3, e4⟩ := hw acc[i] (List.getElem_mem hi)
      obtain ⟨h3, y, e5, p3, y0, y1⟩ := told_ok ns (h := h') (way := way) h2 h9 (pre_get p e2) (pre_get p ex) (by omega) (by omega) hx e4
      have lt := get_lt hd
      refine ⟨_, _, _, _, .int y, h3, nxL_at (lstC_ref (pre_get p ew)) ((List.getElem?_eq_getElem hi).trans (congrArg some e1)), rfl, rfl, ?_, pre_get p3 hd, by rw [List.length_map]; omega, pre_set (p.trans p3) (Nat.le_refl _), l ++ [y], by rw [List.map_append]; rfl, by simp [hl], fun z hz => ?_⟩
      · show m__law_table_e3 ns [some (.int way), some (.int s), some mm, some (.ref x), some sz, kk, some (.ref w), u, some (.ref n)] h' = _
        unfold m__law_table_e3
        clear p3 e1 e2 e3 e4 hl hd p hF hN it hm h2 h9 lt hw ew ex hs hx
        walk_at "exh"
      · rcases List.mem_append.mp hz with hz | hz
        · exact hs z hz
        · have hz : z = y := by simpa using hz
          subst hz
          exact ⟨y0, y1⟩)
    acc.length f 0 _ [] (by omega) (by omega) len_new ⟨List.prefix_append _ _, [], rfl, rfl, fun v hv => by simp at hv⟩
  refine ⟨h', l, z1, p, ?_, hl2, hs⟩
  rw [z2, hl]
theorem table_ok (ns : List Int) {h : CH} {s way : Int} {m x N : Nat} {xs : List Int} (h2 : 2 ≤ s) (h9 : s ≤ 9) (hm1 : 1 ≤ m) (hm : m ≤ 9) (eN : s ^ m = (N : Int)) (hN : N ≤ 1000) (ex : h[x]? = some (.lst (xs.map .int))) (hx : xs.length = 12) :
    ∃ (h' : CH) (n : Nat) (l : List Int), m__law_table ns [.int way, .int s, .int (m : Int), .ref x] h = .ok (.ref n) h' ∧ h <+: h' ∧ h'[n]? = some (.lst (l.map .int)) ∧ l.length = N ∧ signs s l := by
  have hF := fuel
  unfold m__law_table
  generalize FUEL = f at hF ⊢
  obtain ⟨c', h', z1, kk, rfl, rfl⟩ := forR (b := m__law_table_b1 ns) (lo := 0) (n := m) (s := 5) (f := f) (c := [some (.int way), some (.int s), some (.int m), some (.ref x), some (.int 1), none, none, none, none]) (h := h)
    (fun i c h' => ∃ (kk : Option CV), c = [some (.int way), some (.int s), some (.int m), some (.ref x), some (.int (s ^ i)), kk, none, none, none] ∧ h' = h) (by omega) ⟨none, by rw [Int.pow_zero], rfl⟩ (fun i c h' hi q => by
      obtain ⟨kk, rfl, rfl⟩ := q
      have f1 : ∀ i h, fMul (.int i) (.int s) h = .ok (.int (i * s)) h := fun _ _ => fMul_r (in64_sign (by omega) h9)
      refine ⟨_, _, ?_, some (.int (0 + (i : Int))), by rw [Int.pow_succ], rfl⟩
      clear hx ex hi hF eN
      unfold m__law_table_b1
      walk_at "exh")
  have r := r62_nat (show m ≤ 1000000 by omega)
  obtain ⟨h1, acc, w1, p1, t1, l1, hw⟩ := table_words ns (h := h') (s := s) (m := m) (N := N) hF h2 h9 hm hN (.int way) (.ref x) kk none none
  obtain ⟨h3, l, w2, p2, t2, l2, hs⟩ := table_tolds ns (way := way) hF h2 h9 hm1 hm t1 (by omega) hw (pre_get p1 ex) hx (.int m) (.int N) kk none none
  refine ⟨h3, _, l, ?_, p1.trans p2, t2, by omega, hs⟩
  clear p1 t1 l1 hw p2 t2 l2 hs ex hx hF
  rw [eN] at z1
  walk_at "exh"
theorem low_ok (ns : List Int) (cell : Int) (h : CH) : ∃ y : Int, m__law_low ns [.int cell] h = .ok (.int y) h := by
  have f1 : ∀ i h, fMod (.int i) (.int 2) h = .ok (.int (i % 2)) h := fun _ _ => fMod_int (by decide)
  have f2 : ∀ i h, fDiv (.int i) (.int 2) h = .ok (.int (i / 2)) h := fun _ _ => fDiv_int (by decide) (by decide)
  have f3 : ∀ i h, fMod (.int i) (.int 19) h = .ok (.int (i % 19)) h := fun _ _ => fMod_int (by decide)
  have f4 := fAdd_int
  have f5 := fSub_int
  have f6 : ∀ h, fPow (.int 10) (.int 60) h = .ok (.int (10 ^ 60)) h := fun _ => rfl
  have f7 : ∀ j h, fMul (.int 2) (.int j) h = .ok (.int (2 * j)) h := fun _ _ => fMul_l rfl
  have f8 : ∀ i h, fMod (.int i) (.int (2 * 10 ^ 60 - 1)) h = .ok (.int (i % (2 * 10 ^ 60 - 1))) h := fun _ _ => fMod_int (by decide +kernel)
  have f9 : fEq (.int (cell % 2)) (.int 1) h = .ok (.bl (decide (cell % 2 = 1))) h := rfl
  unfold m__law_low
  by_cases c : cell % 2 = 1
  · have d : decide (cell % 2 = 1) = true := decide_eq_true c
    refine ⟨cell / 2 % 19 - 9, ?_⟩
    clear c
    walk_at "exh"
  · have d : decide (cell % 2 = 1) = false := decide_eq_false c
    refine ⟨cell / 2 % (2 * 10 ^ 60 - 1) - 10 ^ 60 + 1, ?_⟩
    clear c
    walk_at "exh"
end K15
end

section
set_option Elab.async false
set_option linter.all false
set_option maxRecDepth 100000
set_option maxHeartbeats 2000000
namespace K15
open PySem L2 Xq
local macro_rules | `(tactic| walk_at "ex") => `(tactic| simp only [mDef, mSeq, mSet, mRet, mDrop, mIf, mVar, mC, mOp, mIx, mArg, mCall, mCons, mNil, mTst, mNotT, mAndT, mOrT, mAndV, mOrV, mNotV, mUn, mChain, Ou.bind, Ou.stm, mNext, mStop, mBM, mLst, mTup, new, mSetIx, mDGet, mDPut, mDIn, mIsi, mSl, mPart, mNo, mAug, mAsg, List.getElem?_cons_zero, List.getElem?_cons_succ, List.set_cons_zero, List.set_cons_succ, List.length_cons, List.length_nil, List.cons_append, List.nil_append, List.append_nil, List.map_cons, List.map_nil, List.replicate_succ, List.replicate_zero, Nat.reduceAdd, Nat.reduceSub, if_true, ite_true, mFor, mWhile, mIR1, mIR2, mNewT, mNewK, mIList])
local macro_rules | `(tactic| walk_at "exh") => `(tactic| simp only [mDef, mSeq, mSet, mRet, mDrop, mIf, mVar, mC, mOp, mIx, mArg, mCall, mCons, mNil, mTst, mNotT, mAndT, mOrT, mAndV, mOrV, mNotV, mUn, mChain, Ou.bind, Ou.stm, mNext, mStop, mBM, mLst, mTup, new, mSetIx, mDGet, mDPut, mDIn, mIsi, mSl, mPart, mNo, mAug, mAsg, List.getElem?_cons_zero, List.getElem?_cons_succ, List.set_cons_zero, List.set_cons_succ, List.length_cons, List.length_nil, List.cons_append, List.nil_append, List.append_nil, List.map_cons, List.map_nil, List.replicate_succ, List.replicate_zero, Nat.reduceAdd, Nat.reduceSub, if_true, ite_true, mFor, mWhile, mIR1, mIR2, mNewT, mNewK, mIList, Int.toNat_natCast, List.length_map, Bool.false_eq_true, if_false, Option.isSome_some, Option.isSome_none, decide_true, Bool.not_true, Bool.not_false, *])

theorem atI_neg {α : Type} {xs : List α} {k : Nat} (d : α) (h0 : 1 ≤ k) (h : k ≤ xs.length) : atI xs (-(k : Int)) = some (xs.getD (xs.length - k) d) := by
  unfold atI ixN
  rw [if_neg (by omega), if_pos (by omega)]
  have e : (-(k : Int) + (xs.length : Int)).toNat = xs.length - k := by omega
  have z : xs.length - k < xs.length := by omega
  rw [e]
  simp [List.getD, z]
theorem ix_neg (ns : List Int) {h : CH} {n : Nat} {l : List Int} {k : Nat} (e : h[n]? = some (.lst (l.map .int))) (h0 : 1 ≤ k) (h1 : k ≤ l.length) : fIxL ns (.ref n) (.int (-(k : Int))) h = .ok (.int (l.getD (l.length - k) 0)) h := by
  rw [fIxL_at e (atI_neg (.int 0) h0 (by rw [List.length_map]; exact h1)), List.length_map, getD_int]
theorem md (s : Int) (h : 0 < s) (i : Int) : 0 ≤ i % s ∧ i % s < s := ⟨Int.emod_nonneg _ (by omega), Int.emod_lt_of_pos _ h⟩
theorem ring_e1 (ns : List Int) {h : CH} {f : Nat} {s part : Int} {x N : Nat} {xs : List Int} (hF : 2000 < f) (h2 : 2 ≤ s) (hN : N ≤ 1000) (ex : h[x]? = some (.lst (xs.map .int))) (hp : 1 ≤ part) (hx : part ≤ xs.length) (a way : CV) (u v w : Option CV) :
    ∃ (h' : CH) (l : List Int), mLc f [7] (mIR1 (mVar 2)) (gN 7) mYes m__law_ring_e1 ns [some a, some (.int s), some (.int N), some way, some (.ref x), some (.int part), u, v, w] h = .ok (.ref h.length) h' ∧ h <+: h' ∧ h'[h.length]? = some (.lst (l.map .int)) ∧ l.length = N ∧ signs s l := by
  have r := r62_nat (show N ≤ 1000000 by omega)
  have it : mIR1 (mVar 2) ns [some a, some (.int s), some (.int N), some way, some (.ref x), some (.int part), u, v, w] h = .ok (nxR 0 N) h := by
    clear hF ex hp hx
    walk_at "exh"
  obtain ⟨h', z1, z2, z3⟩ := lcR (ns := ns) (c := [some a, some (.int s), some (.int N), some way, some (.ref x), some (.int part), u, v, w]) (vs := [7]) (e := m__law_ring_e1) (s := 7) (f := f) it (by omega) (by omega) (fun i : Nat => .int (xs.getD ((0 + (i : Int)) % part).toNat 0 % s)) (fun h' => h <+: h') (List.prefix_append _ _) (fun h' o p _ => pre_set p (Nat.le_refl _)) (fun i h' hi hl p => by
      refine ⟨h', ?_, List.prefix_refl _, p⟩
      have f1 : ∀ i h, fMod (.int i) (.int part) h = .ok (.int (i % part)) h := fun _ _ => fMod_int (by omega)
      have f2 : ∀ i h, fMod (.int i) (.int s) h = .ok (.int (i % s)) h := fun _ _ => fMod_int (by omega)
      have q := md part (by omega) (0 + (i : Int))
      have f3 : fIxL ns (.ref x) (.int ((0 + (i : Int)) % part)) h' = .ok (.int (xs.getD ((0 + (i : Int)) % part).toNat 0)) h' := ix_list ns (pre_get p ex) q.1 (by omega)
      show m__law_ring_e1 ns [some a, some (.int s), some (.int N), some way, some (.ref x), some (.int part), u, some (.int (0 + (i : Int))), w] h' = _
      unfold m__law_ring_e1
      clear hF ex hp hx it r p hl hi q hN h2
      walk_at "exh")
  refine ⟨h', (List.range N).map fun i : Nat => xs.getD ((0 + (i : Int)) % part).toNat 0 % s, z1, z3, ?_, by simp, fun y hy => ?_⟩
  · rw [z2, List.map_map]; rfl
  · obtain ⟨i, _, rfl⟩ := List.mem_map.mp hy
    exact md s (by omega) _
theorem signs_set {s : Int} {l : List Int} (hs : signs s l) {y : Int} (hy : 0 ≤ y ∧ y < s) (i : Nat) : signs s (l.set i y) := fun z hz => by
  rcases List.mem_or_eq_of_mem_set hz with hz | rfl
  · exact hs z hz
  · exact hy
theorem ring_b2 (ns : List Int) {h h0 : CH} {f n N : Nat} {s : Int} {l : List Int} (hF : 2000 < f) (h2 : 2 ≤ s) (hN1 : 1 ≤ N) (hN : N ≤ 1000) (p : h <+: h0) (hn : h.length ≤ n) (e : h0[n]? = some (.lst (l.map .int))) (hl : l.length = N) (hs : signs s l) (k : Nat) (hk : k + 5 ≤ ns.length ∨ k = 0) (hk2 : k ≤ 63) (way xs part : CV) (u v : Option CV) :
    ∃ c' h', loopN (nxR 5 k) (gN 7) (m__law_ring_b2 ns) f 0 [some .scr, some (.int s), some (.int N), some way, some xs, some part, some (.ref n), u, v] h0 = .nx c' h' ∧ ∃ (u v : Option CV) (l : List Int), c' = [some .scr, some (.int s), some (.int N), some way, some xs, some part, some (.ref n), u, v] ∧ h <+: h' ∧ h'[n]? = some (.lst (l.map .int)) ∧ l.length = N ∧ signs s l := by
  refine forR (b := m__law_ring_b2 ns) (fun i c h' => ∃ (u v : Option CV) (l : List Int), c = [some .scr, some (.int s), some (.int N), some way, some xs, some part, some (.ref n), u, v] ∧ h <+: h' ∧ h'[n]? = some (.lst (l.map .int)) ∧ l.length = N ∧ signs s l) (by omega) ⟨u, v, l, rfl, p, e, hl, hs⟩ (fun i c h' hi q => ?_)
  obtain ⟨u, v, l, rfl, p, e, hl, hs⟩ := q
  have f1 : ∀ i h, fMod (.int i) (.int N) h = .ok (.int (i % N)) h := fun _ _ => fMod_int (by omega)
  have f2 : ∀ i h, fMod (.int i) (.int s) h = .ok (.int (i % s)) h := fun _ _ => fMod_int (by omega)
  have f3 : ∀ i h, fMul (.int i) (.int 7919) h = .ok (.int (i * 7919)) h := fun _ _ => fMul_r rfl
  have f4 := fAdd_int
  obtain ⟨at_, ea⟩ : ∃ a : Int, (5 + (i : Int)) * 7919 % N = a := ⟨_, rfl⟩
  have q := md N (by omega) ((5 + (i : Int)) * 7919)
  rw [ea] at q
  have f5 : ∀ h, fIxL ns .scr (.int (5 + (i : Int))) h = .ok (.int (ns.getD (5 + i) 0)) h := fun h => by
    rw [fIxL_scr (atI_nth (.int 0) (by omega) (by rw [List.length_map]; omega)), getD_int, show (5 + (i : Int)).toNat = 5 + i by omega]
  have f6 : fIxL ns (.ref n) (.int at_) h' = .ok (.int (l.getD at_.toNat 0)) h' := ix_list ns e q.1 (by omega)
  have f7 : ∀ v, setC (.ref n) (.int at_) v h' = some (h'.set n (.lst ((l.map .int).set at_.toNat v))) := fun v => by
    rw [setC_at e q.1 (by rw [List.length_map]; omega)]
  refine ⟨_, _, ?_, some (.int (5 + (i : Int))), some (.int at_), l.set at_.toNat ((l.getD at_.toNat 0 + ns.getD (5 + i) 0) % s), rfl, pre_set (o := .lst ((l.map .int).set at_.toNat (.int ((l.getD at_.toNat 0 + ns.getD (5 + i) 0) % s)))) p hn, by rw [set_get e, List.map_set], by simp [hl], signs_set hs (md s (by omega) _) _⟩
  clear e p hs hl hF hN hi q hn hk hk2 hN1 h2
  unfold m__law_ring_b2
  walk_at "exh"
theorem ring_far (ns : List Int) {h h0 : CH} {s : Int} {N x : Nat} {xs : List Int} (h2 : 2 ≤ s) (hN1 : 1 ≤ N) (hN : N ≤ 120) (p : h <+: h0) (ex : h0[x]? = some (.lst (xs.map .int))) (hx : xs.length = N + 2) (way part : CV) (u : Option CV) (v w : Option CV) :
    ∃ (h' : CH) (n : Nat) (l : List Int), (mSeq (mSet 6 (mOp fRep (mLst (mCons (mOp fMod (mIx fIxL (mVar 4) (mUn fNeg (mC (.int 2)))) (mVar 1)) mNil)) (mVar 2)))
    (mSetIx (mVar 6) (mOp fMod (mIx fIxL (mVar 4) (mC (.int 0))) (mVar 2)) (mOp fMod (mIx fIxL (mVar 4) (mC (.int 1))) (mVar 1)))) ns [some .scr, some (.int s), some (.int N), some way, some (.ref x), some part, u, v, w] h0 = .nx [some .scr, some (.int s), some (.int N), some way, some (.ref x), some part, some (.ref n), v, w] h' ∧ h <+: h' ∧ h.length ≤ n ∧ h'[n]? = some (.lst (l.map .int)) ∧ l.length = N ∧ signs s l := by
  obtain ⟨y, ey⟩ : ∃ y : Int, xs.getD (xs.length - 2) 0 % s = y := ⟨_, rfl⟩
  have qy := md s (by omega) (xs.getD (xs.length - 2) 0)
  rw [ey] at qy
  have f1 : fIxL ns (.ref x) (.int (-2)) h0 = .ok (.int (xs.getD (xs.length - 2) 0)) h0 := ix_neg ns (k := 2) ex (by omega) (by omega)
  have f2 : ∀ i h, fMod (.int i) (.int s) h = .ok (.int (i % s)) h := fun _ _ => fMod_int (by omega)
  have f3 : ∀ i h, fMod (.int i) (.int N) h = .ok (.int (i % N)) h := fun _ _ => fMod_int (by omega)
  have f4 : ∀ h, fNeg (.int 2) h = .ok (.int (-2)) h := fun _ => rfl
  have f5 : lineB 1 = true := rfl
  obtain ⟨h1, eh1⟩ : ∃ h1, h0 ++ [CO.lst [CV.int y]] = h1 := ⟨_, rfl⟩
  have p1 : h0 <+: h1 := by rw [← eh1]; exact List.prefix_append _ _
  have t1 : h1[h0.length]? = some (.lst [.int y]) := by rw [← eh1]; exact len_new
  have eF : (List.replicate N [CV.int y]).flatten = (List.replicate N y).map .int := by
    rw [List.map_replicate, List.flatten_replicate_singleton]
  obtain ⟨h3, eh3⟩ : ∃ h3, h1 ++ [CO.lst ((List.replicate N y).map CV.int)] = h3 := ⟨_, rfl⟩
  have p3 : h1 <+: h3 := by rw [← eh3]; exact List.prefix_append _ _
  have t3 : h3[h1.length]? = some (.lst ((List.replicate N y).map .int)) := by rw [← eh3]; exact len_new
  have f6 : fRep (.ref h0.length) (.int N) h1 = .ok (.ref h1.length) h3 := by
    unfold fRep
    rw [ownL_ref t1]
    dsimp only
    have b : (in64 (N : Int) && (Nat.ble (N : Int).natAbs 1000000 && lineB ([CV.int y].length * (N : Int).toNat))) = true := by
      rw [in64_iff.mpr ⟨by omega, by omega⟩, Nat.ble_eq_true_of_le (by omega : (N : Int).natAbs ≤ 1000000), lineB_of (by simp; omega)]; rfl
    rw [if_pos b, Int.toNat_natCast, eF]
    show Ou.ok _ _ = _
    rw [eh3]
  have f7 : fIxL ns (.ref x) (.int 0) h3 = .ok (.int (xs.getD 0 0)) h3 := ix_list ns (pre_get p3 (pre_get p1 ex)) (by omega) (by omega)
  have f8 : fIxL ns (.ref x) (.int 1) h3 = .ok (.int (xs.getD 1 0)) h3 := ix_list ns (pre_get p3 (pre_get p1 ex)) (by omega) (by omega)
  have q := md N (by omega) (xs.getD 0 0)
  have f9 : ∀ v, setC (.ref h1.length) (.int (xs.getD 0 0 % N)) v h3 = some (h3.set h1.length (.lst (((List.replicate N y).map .int).set (xs.getD 0 0 % N).toNat v))) := fun v => by
    rw [setC_at t3 q.1 (by rw [List.length_map, List.length_replicate]; omega)]
  refine ⟨h3.set h1.length (.lst (((List.replicate N y).map .int).set (xs.getD 0 0 % N).toNat (.int (xs.getD 1 0 % s)))), h1.length, (List.replicate N y).set (xs.getD 0 0 % N).toNat (xs.getD 1 0 % s), ?_, pre_set ((p.trans p1).trans p3) (Nat.le_trans (pre_len p) (pre_len p1)), Nat.le_trans (pre_len p) (pre_len p1), by rw [set_get t3, List.map_set], by simp, signs_set (fun z hz => ?_) (md s (by omega) _) _⟩
  · clear p p1 t1 p3 t3 ex hx q qy h2 hN1 hN eF
    walk_at "exh"
  · rw [List.eq_of_mem_replicate hz]
    exact qy
theorem ring_ok (ns : List Int) {h : CH} {s way : Int} {N : Nat} (hns : ns.length ≤ 63) (h2 : 2 ≤ s) (h9 : s ≤ 9) (hN1 : 1 ≤ N) (hN : N ≤ 120) :
    ∃ (h' : CH) (n : Nat) (l : List Int), m__law_ring ns [.scr, .int s, .int (N : Int), .int way] h = .ok (.ref n) h' ∧ h <+: h' ∧ h'[n]? = some (.lst (l.map .int)) ∧ l.length = N ∧ signs s l := by
  have hF := fuel
  unfold m__law_ring
  generalize FUEL = f at hF ⊢
  have f0 := cell_ok ns 3
  obtain ⟨h1, xs, f1, p1, ex, hx⟩ := stream_ok ns (h := h) (ns.getD 3 0) (N + 2) (by omega)
  have f2 := fAdd_int
  have f3 : fNeg (.int 1) h1 = .ok (.int (-1)) h1 := rfl
  have f3' : fNeg (.int 2) h1 = .ok (.int (-2)) h1 := rfl
  have f4 : fIxL ns (.ref h.length) (.int (-1)) h1 = .ok (.int (xs.getD (xs.length - 1) 0)) h1 := ix_neg ns (k := 1) ex (by omega) (by omega)
  have f5 : fIxL ns (.ref h.length) (.int (-2)) h1 = .ok (.int (xs.getD (xs.length - 2) 0)) h1 := ix_neg ns (k := 2) ex (by omega) (by omega)
  have f6 : ∀ i h, fMod (.int i) (.int 3) h = .ok (.int (i % 3)) h := fun _ _ => fMod_int (by decide)
  have f7 : ∀ i h, fMod (.int i) (.int N) h = .ok (.int (i % N)) h := fun _ _ => fMod_int (by omega)
  have f8 : ∀ i h, fEq (.int i) (.int 0) h = .ok (.bl (decide (i = 0))) h := fun _ _ => rfl
  have f9 : ∀ i h, fEq (.int i) (.int 2) h = .ok (.bl (decide (i = 2))) h := fun _ _ => rfl
  obtain ⟨part, hp, hq, g1⟩ : ∃ part : Int, 1 ≤ part ∧ part ≤ xs.length ∧ (mIf (mTst (mOp fEq (mOp fMod (mIx fIxL (mVar 4) (mUn fNeg (mC (.int 1)))) (mC (.int 3))) (mC (.int 0)))) (mSet 5 (mOp fAdd (mC (.int 1)) (mOp fMod (mIx fIxL (mVar 4) (mUn fNeg (mC (.int 2)))) (mVar 2)))) mNext) ns [some .scr, some (.int s), some (.int N), some (.int way), some (.ref h.length), some (.int N), none, none, none] h1 = .nx [some .scr, some (.int s), some (.int N), some (.int way), some (.ref h.length), some (.int part), none, none, none] h1 := by
    have q := md N (by omega) (xs.getD (xs.length - 2) 0)
    by_cases c : xs.getD (xs.length - 1) 0 % 3 = 0
    · have d : decide (xs.getD (xs.length - 1) 0 % 3 = 0) = true := decide_eq_true c
      refine ⟨1 + xs.getD (xs.length - 2) 0 % N, by omega, by omega, ?_⟩
      clear hF f1 p1 ex hx c q f0 h2 h9 hN1 hN hns
      walk_at "exh"
    · have d : decide (xs.getD (xs.length - 1) 0 % 3 = 0) = false := decide_eq_false c
      refine ⟨N, by omega, by omega, ?_⟩
      clear hF f1 p1 ex hx c q f0 h2 h9 hN1 hN hns
      walk_at "exh"
  obtain ⟨h3, l3, g2, p3, t3, n3, s3⟩ := ring_e1 ns (h := h1) (s := s) (N := N) hF h2 (by omega) ex hp hq .scr (.int way) none none none
  obtain ⟨h4, n4, l4, g3, p4, le4, t4, z4, s4⟩ : ∃ (h' : CH) (n : Nat) (l : List Int), (mIf (mTst (mOp fEq (mVar 3) (mC (.int 2)))) (mSeq (mSet 6 (mOp fRep (mLst (mCons (mOp fMod (mIx fIxL (mVar 4) (mUn fNeg (mC (.int 2)))) (mVar 1)) mNil)) (mVar 2)))
    (mSetIx (mVar 6) (mOp fMod (mIx fIxL (mVar 4) (mC (.int 0))) (mVar 2)) (mOp fMod (mIx fIxL (mVar 4) (mC (.int 1))) (mVar 1)))) mNext) ns [some .scr, some (.int s), some (.int N), some (.int way), some (.ref h.length), some (.int part), some (.ref h1.length), none, none] h3 = .nx [some .scr, some (.int s), some (.int N), some (.int way), some (.ref h.length), some (.int part), some (.ref n), none, none] h' ∧ h1 <+: h' ∧ h1.length ≤ n ∧ h'[n]? = some (.lst (l.map .int)) ∧ l.length = N ∧ signs s l := by
    by_cases c : way = 2
    · obtain ⟨h', n, l, a1, a2, a3, a4, a5, a6⟩ := ring_far ns (h := h1) (h0 := h3) (s := s) (N := N) (x := h.length) (xs := xs) h2 hN1 hN p3 (pre_get p3 ex) hx (.int way) (.int part) (some (.ref h1.length)) none none
      refine ⟨h', n, l, ?_, a2, a3, a4, a5, a6⟩
      have d : decide (way = 2) = true := decide_eq_true c
      rw [← a1]
      unfold mIf
      have t : mTst (mOp fEq (mVar 3) (mC (.int 2))) ns [some .scr, some (.int s), some (.int N), some (.int way), some (.ref h.length), some (.int part), some (.ref h1.length), none, none] h3 = .ok true h3 := by
        clear hF f1 p1 ex hx c f0 h2 h9 hN1 hN hns a1 a2 a3 a4 a5 a6 g1 g2 p3 t3 n3 s3 hp hq f4 f5 f3 f3'
        walk_at "exh"
      rw [t]
      rfl
    · have d : decide (way = 2) = false := decide_eq_false c
      refine ⟨h3, h1.length, l3, ?_, p3, Nat.le_refl _, t3, n3, s3⟩
      clear hF f1 p1 ex hx c f0 h2 h9 hN1 hN hns g1 g2 p3 t3 n3 s3 hp hq f4 f5 f3 f3'
      walk_at "exh"
  obtain ⟨mn, m1, m2⟩ : ∃ mn : Nat, (if (63 : Int) < ns.length then (63 : Int) else ns.length) = (mn : Int) ∧ mn = ns.length := ⟨ns.length, by rw [if_neg (by omega)], rfl⟩
  obtain ⟨c', h5, g4, u, v, l5, rfl, p5, t5, z5, s5⟩ := ring_b2 ns (h := h1) (h0 := h4) (f := f) (n := n4) (N := N) (s := s) hF h2 hN1 (by omega) p4 le4 t4 z4 s4 ((mn : Int) - 5).toNat (by omega) (by omega) (.int way) (.ref h.length) (.int part) none none
  have f10 : ∀ h, fLen ns [.scr] h = .ok (.int ns.length) h := fun _ => fLen_scr
  have f11 : ∀ h, fMin2 ns [.int ns.length, .int 63] h = .ok (.int mn) h := fun h => by
    show Ou.ok (CV.int (if (63 : Int) < ns.length then (63 : Int) else ns.length)) h = _
    rw [m1]
  have f12 : (r62 5 && r62 (mn : Int)) = true := by
    rw [r62_nat (by omega : mn ≤ 1000000)]; rfl
  refine ⟨h5, n4, l5, ?_, p1.trans p5, t5, z5, s5⟩
  have f13 : fAdd (.int (N : Int)) (.int 2) h = .ok (.int ((N + 2 : Nat) : Int)) h := rfl
  have f0' : m__law_cell_at ns [.scr, .int 3] h = .ok (.int (ns.getD 3 0)) h := f0 h
  clear hF p1 ex hx f0 h2 h9 hN1 hN hns p3 t3 n3 s3 hp hq f4 f5 f3 f3' p4 le4 t4 z4 s4 p5 t5 z5 s5 m1 m2 f2 f6 f7 f8 f9
  simp only [mDef, mSeq, mSet, mVar, mC, mOp, mArg, mCall, mCons, mNil, Ou.bind, Ou.stm, mRet, List.getElem?_cons_zero, List.getElem?_cons_succ, List.set_cons_zero, List.set_cons_succ, List.length_cons, List.length_nil, List.cons_append, List.nil_append, List.append_nil, List.map_cons, List.map_nil, List.replicate_succ, List.replicate_zero, Nat.reduceAdd, Nat.reduceSub, if_true, ite_true, mFor, mIR2] at g1 g2 g3 ⊢
  simp only [f0', f13, f1]
  simp only [List.getElem?_cons_zero, List.getElem?_cons_succ, List.set_cons_zero, List.set_cons_succ]
  rw [g1]
  dsimp only [List.getElem?_cons_zero, List.getElem?_cons_succ, List.set_cons_zero, List.set_cons_succ]
  rw [g2]
  dsimp only [List.getElem?_cons_zero, List.getElem?_cons_succ, List.set_cons_zero, List.set_cons_succ]
  rw [g3]
  dsimp only
  simp only [f10, f11, f12, g4, if_true, List.getElem?_cons_zero, List.getElem?_cons_succ]
end K15
end

section
set_option Elab.async false
set_option linter.all false
set_option maxRecDepth 100000
set_option maxHeartbeats 2000000
namespace K15
open PySem L2 Xq
local macro_rules | `(tactic| walk_at "ex") => `(tactic| simp only [mDef, mSeq, mSet, mRet, mDrop, mIf, mVar, mC, mOp, mIx, mArg, mCall, mCons, mNil, mTst, mNotT, mAndT, mOrT, mAndV, mOrV, mNotV, mUn, mChain, Ou.bind, Ou.stm, mNext, mStop, mBM, mLst, mTup, new, mSetIx, mDGet, mDPut, mDIn, mIsi, mSl, mPart, mNo, mAug, mAsg, List.getElem?_cons_zero, List.getElem?_cons_succ, List.set_cons_zero, List.set_cons_succ, List.length_cons, List.length_nil, List.cons_append, List.nil_append, List.append_nil, List.map_cons, List.map_nil, List.replicate_succ, List.replicate_zero, Nat.reduceAdd, Nat.reduceSub, if_true, ite_true, mFor, mWhile, mIR1, mIR2, mNewT, mNewK, mIList])
local macro_rules | `(tactic| walk_at "exh") => `(tactic| simp only [mDef, mSeq, mSet, mRet, mDrop, mIf, mVar, mC, mOp, mIx, mArg, mCall, mCons, mNil, mTst, mNotT, mAndT, mOrT, mAndV, mOrV, mNotV, mUn, mChain, Ou.bind, Ou.stm, mNext, mStop, mBM, mLst, mTup, new, mSetIx, mDGet, mDPut, mDIn, mIsi, mSl, mPart, mNo, mAug, mAsg, List.getElem?_cons_zero, List.getElem?_cons_succ, List.set_cons_zero, List.set_cons_succ, List.length_cons, List.length_nil, List.cons_append, List.nil_append, List.append_nil, List.map_cons, List.map_nil, List.replicate_succ, List.replicate_zero, Nat.reduceAdd, Nat.reduceSub, if_true, ite_true, mFor, mWhile, mIR1, mIR2, mNewT, mNewK, mIList, Int.toNat_natCast, List.length_map, Bool.false_eq_true, if_false, Option.isSome_some, Option.isSome_none, decide_true, Bool.not_true, Bool.not_false, *])

/-! ### a rule told by one place more -/
theorem val_cons (s : Int) : ∀ (w : List Int) (n : Int), w.foldl (fun n x => n * s + x) n = n * s ^ w.length + val s w
  | [], n => by simp [val]
  | x :: w, n => by
    have e1 := val_cons s w (n * s + x)
    have e2 := val_cons s w (0 * s + x)
    show w.foldl (fun n x => n * s + x) (n * s + x) = n * s ^ (w.length + 1) + w.foldl (fun n x => n * s + x) (0 * s + x)
    rw [e1, e2, Int.pow_succ, Int.add_mul, Int.add_mul, Int.zero_mul, Int.zero_mul, Int.zero_add, ← Int.mul_assoc]
    have e3 : n * s * s ^ w.length = n * s ^ w.length * s := by rw [Int.mul_assoc, Int.mul_assoc, Int.mul_comm s]
    omega
theorem rep_getD (t : List Int) : ∀ (n a i : Nat), a < n → i < t.length → ((List.replicate n t).flatten).getD (a * t.length + i) 0 = t.getD i 0
  | 0, _, _, h, _ => absurd h (Nat.not_lt_zero _)
  | n + 1, 0, i, _, hi => by
    rw [List.replicate_succ, List.flatten_cons, Nat.zero_mul, Nat.zero_add]
    simp only [List.getD]
    rw [List.getElem?_append_left hi]
  | n + 1, a + 1, i, h, hi => by
    rw [List.replicate_succ, List.flatten_cons]
    have e := rep_getD t n a i (by omega) hi
    simp only [List.getD] at e ⊢
    rw [List.getElem?_append_right (by rw [Nat.succ_mul]; omega), show (a + 1) * t.length + i - t.length = a * t.length + i by rw [Nat.succ_mul]; omega]
    exact e
theorem word_front (low : Int) (m : Nat) (ring : List Int) (k : Nat) : word (low - 1) (m + 1) ring k = ring.getD (((low - 1) % ring.length + k) % ring.length).toNat 0 :: word low m ring k := by
  unfold word
  rw [List.range_succ_eq_map, List.map_cons, List.map_map]
  refine congr (congrArg List.cons ?_) (List.map_congr_left fun j _ => ?_)
  · show ring.getD (((low - 1) % ring.length + k + ((0 : Nat) : Int)) % ring.length).toNat 0 = _
    rw [show ((low - 1) % ring.length + k + ((0 : Nat) : Int)) = (low - 1) % ring.length + k by omega]
  · show ring.getD (((low - 1) % ring.length + k + ((j + 1 : Nat) : Int)) % ring.length).toNat 0 = _
    have e1 : ((low - 1) % ring.length + k + ((j + 1 : Nat) : Int)) % (ring.length : Int) = (low + k + j) % ring.length := by
      rw [Int.add_assoc, Int.emod_add_emod]
      congr 1
      omega
    have e2 : (low % ring.length + k + j) % (ring.length : Int) = (low + k + j) % ring.length := by
      rw [Int.add_assoc, Int.emod_add_emod, ← Int.add_assoc]
    rw [e1, e2]
theorem word_behind (low : Int) (m : Nat) (ring : List Int) (k : Nat) : word low (m + 1) ring k = word low m ring k ++ [ring.getD ((low % ring.length + k + (m : Int)) % ring.length).toNat 0] := by
  unfold word
  rw [List.range_succ, List.map_append]
  rfl
theorem ring_sign {s : Int} {ring : List Int} (hr : 1 ≤ ring.length) (hs : signs s ring) (i : Int) : 0 ≤ ring.getD (i % ring.length).toNat 0 ∧ ring.getD (i % ring.length).toNat 0 < s := by
  have q := md ring.length (by omega) i
  exact hs _ (getD_mem (by omega))
theorem led_front {s low : Int} {m : Nat} {t ring : List Int} (h2 : 2 ≤ s) (ht : (t.length : Int) = s ^ m) (hr : 1 ≤ ring.length) (hs : signs s ring) :
    ledI s (low - 1) (m + 1) ((List.replicate s.toNat t).flatten) ring = ledI s low m t ring := by
  unfold ledI
  refine List.map_congr_left fun k _ => ?_
  rw [word_front]
  have q := ring_sign hr hs ((low - 1) % ring.length + k)
  have b := val_bound (s := s) (by omega) (word_signs (low := low) (m := m) hr hs k)
  rw [word_len, ← ht] at b
  obtain ⟨a, ea⟩ : ∃ a : Nat, ring.getD (((low - 1) % ring.length + k) % ring.length).toNat 0 = a := ⟨_, (Int.toNat_of_nonneg q.1).symm⟩
  rw [ea] at q ⊢
  have ev : val s ((a : Int) :: word low m ring k) = a * (t.length : Int) + val s (word low m ring k) := by
    show (word low m ring k).foldl (fun n x => n * s + x) (0 * s + a) = _
    rw [val_cons, word_len, ← ht, Int.zero_mul, Int.zero_add]
  obtain ⟨i, ei⟩ : ∃ i : Nat, val s (word low m ring k) = i := ⟨_, (Int.toNat_of_nonneg b.1).symm⟩
  rw [ei] at b
  rw [ev, ei]
  rw [show ((a : Int) * (t.length : Int) + (i : Int)).toNat = a * t.length + i by
    rw [show (a : Int) * (t.length : Int) + (i : Int) = ((a * t.length + i : Nat) : Int) by push_cast; rfl]; exact Int.toNat_natCast _]
  exact rep_getD t _ a i (by omega) (by omega)
theorem led_behind {s low : Int} {m n : Nat} {t ring : List Int} (h2 : 2 ≤ s) (ht : (t.length : Int) = s ^ m) (hr : 1 ≤ ring.length) (hs : signs s ring) (en : (n : Int) = t.length * s) :
    ledI s low (m + 1) ((List.range n).map fun k : Nat => t.getD ((k : Int) / s).toNat 0) ring = ledI s low m t ring := by
  unfold ledI
  refine List.map_congr_left fun k _ => ?_
  rw [word_behind]
  have q := ring_sign hr hs (low % ring.length + k + (m : Int))
  have b := val_bound (s := s) (by omega) (word_signs (low := low) (m := m) hr hs k)
  rw [word_len, ← ht] at b
  obtain ⟨a, ea⟩ : ∃ a : Int, ring.getD ((low % ring.length + k + (m : Int)) % ring.length).toNat 0 = a := ⟨_, rfl⟩
  rw [ea] at q ⊢
  obtain ⟨v, ev⟩ : ∃ v : Int, val s (word low m ring k) = v := ⟨_, rfl⟩
  have e1 : val s (word low m ring k ++ [a]) = v * s + a := by
    unfold val at ev ⊢
    rw [List.foldl_append, ev]; rfl
  rw [ev] at b
  rw [e1]
  have c1 : 0 ≤ v * s + a := Int.add_nonneg (Int.mul_nonneg b.1 (by omega)) q.1
  have c2 : v * s + a < n := by
    rw [en]
    have : (v + 1) * s ≤ t.length * s := Int.mul_le_mul_of_nonneg_right (by omega) (by omega)
    rw [Int.add_mul, Int.one_mul] at this
    omega
  have c3 : (v * s + a) / s = v := by
    rw [Int.add_comm, Int.add_mul_ediv_right _ _ (by omega : s ≠ 0), Int.ediv_eq_zero_of_lt q.1 q.2, Int.zero_add]
  have z : (v * s + a).toNat < n := by omega
  simp only [List.getD, List.getElem?_map, List.getElem?_range z, Option.map_some, Option.getD_some]
  rw [Int.toNat_of_nonneg c1, c3, ev]
theorem it_len {s low : Int} {m : Nat} {t ring : List Int} : ∀ k, (it (ledI s low m t) ring k).length = ring.length
  | 0 => rfl
  | k + 1 => by
    show (ledI s low m t (it (ledI s low m t) ring k)).length = _
    rw [led_len, it_len k]
theorem it_signs {h : CH} {o : Nat} {s low : Int} {m : Nat} {t ring : List Int} (r : Rule h o s low m t) (hr : 1 ≤ ring.length) (hs : signs s ring) : ∀ k, signs s (it (ledI s low m t) ring k)
  | 0 => hs
  | k + 1 => led_signs r (by rw [it_len]; exact hr) (it_signs r hr hs k)
theorem told_mk {h : CH} {o o' : Nat} {s low low' : Int} {m m' : Nat} {t t' ring : List Int} (r : Rule h o s low m t) (r' : Rule h o' s low' m' t') (e : ∀ ring : List Int, 1 ≤ ring.length → signs s ring → ledI s low' m' t' ring = ledI s low m t ring) (hr : 1 ≤ ring.length) (hl : ring.length ≤ 1000) (hs : signs s ring) :
    Told h o' s low' m' t' ring (it (ledI s low m t) ring) :=
  ⟨r', hr, hl, rfl, fun k => e _ (by rw [it_len]; exact hr) (it_signs r hr hs k), it_len, it_signs r hr hs⟩
theorem rep_signs {s : Int} {t : List Int} (hs : signs s t) (n : Nat) : signs s ((List.replicate n t).flatten) := fun x hx => by
  obtain ⟨l, hl, hx⟩ := List.mem_flatten.mp hx
  rw [List.eq_of_mem_replicate hl] at hx
  exact hs x hx
theorem rep_len (t : List Int) (n : Nat) : ((List.replicate n t).flatten).length = n * t.length := by
  induction n with
  | zero => simp
  | succ n ih => rw [List.replicate_succ, List.flatten_cons, List.length_append, ih, Nat.succ_mul]; omega
end K15
end

section
set_option Elab.async false
set_option linter.all false
set_option maxRecDepth 100000
set_option maxHeartbeats 2000000
namespace K15
open PySem L2 Xq
local macro_rules | `(tactic| walk_at "ex") => `(tactic| simp only [mDef, mSeq, mSet, mRet, mDrop, mIf, mVar, mC, mOp, mIx, mArg, mCall, mCons, mNil, mTst, mNotT, mAndT, mOrT, mAndV, mOrV, mNotV, mUn, mChain, Ou.bind, Ou.stm, mNext, mStop, mBM, mLst, mTup, new, mSetIx, mDGet, mDPut, mDIn, mIsi, mSl, mPart, mNo, mAug, mAsg, List.getElem?_cons_zero, List.getElem?_cons_succ, List.set_cons_zero, List.set_cons_succ, List.length_cons, List.length_nil, List.cons_append, List.nil_append, List.append_nil, List.map_cons, List.map_nil, List.replicate_succ, List.replicate_zero, Nat.reduceAdd, Nat.reduceSub, if_true, ite_true, mFor, mWhile, mIR1, mIR2, mNewT, mNewK, mIList])
local macro_rules | `(tactic| walk_at "exh") => `(tactic| simp only [mDef, mSeq, mSet, mRet, mDrop, mIf, mVar, mC, mOp, mIx, mArg, mCall, mCons, mNil, mTst, mNotT, mAndT, mOrT, mAndV, mOrV, mNotV, mUn, mChain, Ou.bind, Ou.stm, mNext, mStop, mBM, mLst, mTup, new, mSetIx, mDGet, mDPut, mDIn, mIsi, mSl, mPart, mNo, mAug, mAsg, List.getElem?_cons_zero, List.getElem?_cons_succ, List.set_cons_zero, List.set_cons_succ, List.length_cons, List.length_nil, List.cons_append, List.nil_append, List.append_nil, List.map_cons, List.map_nil, List.replicate_succ, List.replicate_zero, Nat.reduceAdd, Nat.reduceSub, if_true, ite_true, mFor, mWhile, mIR1, mIR2, mNewT, mNewK, mIList, Int.toNat_natCast, List.length_map, Bool.false_eq_true, if_false, Option.isSome_some, Option.isSome_none, decide_true, Bool.not_true, Bool.not_false, *])

theorem seq_P {G : SO → Prop} {a b : MS} {ns : List Int} {c : CS} {h : CH} (P : CS → CH → Prop) (e : ∃ (c' : CS) (h' : CH), a ns c h = .nx c' h' ∧ P c' h') (k : ∀ c' h', P c' h' → G (b ns c' h')) : G (mSeq a b ns c h) := by
  obtain ⟨c', h', e, p⟩ := e
  unfold mSeq
  rw [e]
  exact k c' h' p
theorem def_rt {n l : Nat} {b : MS} {ns : List Int} {vs : List CV} {h : CH} {v : CV} (hl : vs.length = n) (e : ∃ h', b ns (vs.map some ++ List.replicate (l - n) none) h = .rt v h') : ∃ h', mDef n l b ns vs h = .ok v h' := by
  obtain ⟨h', e⟩ := e
  refine ⟨h', ?_⟩
  unfold mDef
  rw [if_pos hl, e]
/-- what stands after the rule is made and told -/
structure Wide (h : CH) (o' o : Nat) (s low low' : Int) (m m' : Nat) (t t' : List Int) : Prop where
  r : Rule h o s low m t
  r' : Rule h o' s low' m' t'
  e : ∀ ring : List Int, 1 ≤ ring.length → signs s ring → ledI s low' m' t' ring = ledI s low m t ring
theorem fIxT1 {h : CH} {o : Nat} {s low : Int} {m : Nat} {t : List Int} (r : Rule h o s low m t) (ns : List Int) : fIxT ns (.ref o) (.int 1) h = .ok (.int low) h := r.i1 ns
theorem fLe_int (i : Int) (h : CH) : fLe (.int i) (.int 256) h = .ok (.bl (!ltZ 256 i)) h := rfl
/-- the first way of telling -/
theorem wide_front (ns : List Int) {h : CH} {s low : Int} {m o tb : Nat} {t : List Int} (r : Rule h o s low m t) (et : h[tb]? = some (.lst (t.map .int))) (hle : ltZ 256 (t.length * s) = false) (hm : m ≤ 3) (a b c d e f g k : Option CV) (n1 n2 n3 : Option CV) :
    ∃ (h' : CH) (o' : Nat) (t' : List Int), mSet 8 (mTup (mCons (mVar 3) (mCons (mOp fSub (mIx fIxT (mVar 7) (mC (.int 1))) (mC (.int 1))) (mCons (mArg fTupOf (mCons (mOp fRep (mVar 6) (mVar 3)) mNil)) mNil)))) ns
      [a, b, c, some (.int s), d, e, some (.ref tb), some (.ref o), f, g, k, n1, n2, n3] h = .nx [a, b, c, some (.int s), d, e, some (.ref tb), some (.ref o), some (.ref o'), g, k, n1, n2, n3] h' ∧ h <+: h' ∧ Wide h' o' o s low (low - 1) m (m + 1) t t' := by
  have h2 := r.h2
  have h9 := r.h9
  have le : t.length * s ≤ 256 := by
    by_cases c : (256 : Int) < t.length * s
    · rw [ltZ_iff.mpr c] at hle; exact absurd hle (by decide)
    · omega
  have f1 := r.i1 ns
  have f2 := fSub_int
  obtain ⟨t', et'⟩ : ∃ t', (List.replicate s.toNat t).flatten = t' := ⟨_, rfl⟩
  have el : t'.length = s.toNat * t.length := by rw [← et', rep_len]
  have el2 : (t'.length : Int) = t.length * s := by
    rw [el, Int.natCast_mul, Int.toNat_of_nonneg (by omega), Int.mul_comm]
  have emap : (List.replicate s.toNat (t.map CV.int)).flatten = t'.map .int := by
    rw [← et', List.map_flatten, List.map_replicate]
  obtain ⟨h1, eh1⟩ : ∃ h1, h ++ [CO.lst (t'.map CV.int)] = h1 := ⟨_, rfl⟩
  have p1 : h <+: h1 := by rw [← eh1]; exact List.prefix_append _ _
  have t1 : h1[h.length]? = some (.lst (t'.map .int)) := by rw [← eh1]; exact len_new
  have f3 : fRep (.ref tb) (.int s) h = .ok (.ref h.length) h1 := by
    unfold fRep
    rw [ownL_ref et]
    dsimp only
    have b : (in64 s && (Nat.ble s.natAbs 1000000 && lineB ((t.map CV.int).length * s.toNat))) = true := by
      rw [in64_iff.mpr ⟨by omega, by omega⟩, Nat.ble_eq_true_of_le (by omega : s.natAbs ≤ 1000000), lineB_of (by rw [List.length_map, Nat.mul_comm]; omega)]; rfl
    rw [if_pos b, emap]
    show Ou.ok _ _ = _
    rw [eh1]
  obtain ⟨h3, eh3⟩ : ∃ h3, h1 ++ [CO.tup (t'.map CV.int)] = h3 := ⟨_, rfl⟩
  have p3 : h1 <+: h3 := by rw [← eh3]; exact List.prefix_append _ _
  have t3 : h3[h1.length]? = some (.tup (t'.map .int)) := by rw [← eh3]; exact len_new
  have f4 : fTupOf ns [.ref h.length] h1 = .ok (.ref h1.length) h3 := by rw [fTupOf_lst t1, eh3]
  have f5 : lineB 3 = true := rfl
  refine ⟨h3 ++ [.tup [.int s, .int (low - 1), .ref h1.length]], h3.length, t', ?_, pre_new (p1.trans p3), r.mono (pre_new (p1.trans p3)), ⟨⟨h1.length, len_new, pre_get (List.prefix_append _ _) t3⟩, ?_, h2, h9, by omega, by omega, by omega, by rw [← et']; exact rep_signs r.sg _⟩, fun ring hr hs => by rw [← et']; exact led_front h2 r.len hr hs⟩
  · clear p1 t1 p3 t3 el el2 emap et' et r h2 h9 le hle hm
    walk_at "exh"
  · rw [el2, r.len, Int.pow_succ]
/-- the other -/
theorem wide_behind (ns : List Int) {h : CH} {s low : Int} {m o tb : Nat} {t : List Int} (r : Rule h o s low m t) (et : h[tb]? = some (.lst (t.map .int))) (hle : ltZ 256 (t.length * s) = false) (hm : m ≤ 3) (a b c d e f g k : Option CV) (n1 n2 n3 : Option CV) :
    ∃ (h' : CH) (o' : Nat) (t' : List Int) (k' : Option CV), mSeq (mSet 10 (mLc FUEL [13] (mIR1 (mOp fMul (mArg fLen (mCons (mVar 6) mNil)) (mVar 3))) (gN 13) mYes m_law_e1))
    (mSet 8 (mTup (mCons (mVar 3) (mCons (mIx fIxT (mVar 7) (mC (.int 1))) (mCons (mArg fTupOf (mCons (mVar 10) mNil)) mNil))))) ns
      [a, b, c, some (.int s), d, e, some (.ref tb), some (.ref o), f, g, k, n1, n2, n3] h = .nx [a, b, c, some (.int s), d, e, some (.ref tb), some (.ref o), some (.ref o'), g, k', n1, n2, n3] h' ∧ h <+: h' ∧ Wide h' o' o s low low m (m + 1) t t' := by
  have hF := fuel
  generalize FUEL = ff at hF ⊢
  have h2 := r.h2
  have h9 := r.h9
  have le : t.length * s ≤ 256 := by
    by_cases c : (256 : Int) < t.length * s
    · rw [ltZ_iff.mpr c] at hle; exact absurd hle (by decide)
    · omega
  have ge : 0 ≤ t.length * s := Int.mul_nonneg (by omega) (by omega)
  obtain ⟨n, en⟩ : ∃ n : Nat, t.length * s = (n : Int) := ⟨(t.length * s).toNat, (Int.toNat_of_nonneg ge).symm⟩
  have f1 : fLen ns [.ref tb] h = .ok (.int t.length) h := by rw [fLen_lst et, List.length_map]
  have f2 : ∀ h, fMul (.int (t.length : Int)) (.int s) h = .ok (.int (n : Int)) h := fun h => by rw [fMul_r (in64_sign (by omega) h9), en]
  have f3 := r62_nat (show n ≤ 1000000 by omega)
  have it : mIR1 (mOp fMul (mArg fLen (mCons (mVar 6) mNil)) (mVar 3)) ns [a, b, c, some (.int s), d, e, some (.ref tb), some (.ref o), f, g, k, n1, n2, n3] h = .ok (nxR 0 n) h := by
    clear hF r et hle hm h2 h9 le ge en
    walk_at "exh"
  obtain ⟨h1, z1, z2, z3⟩ := lcR (ns := ns) (c := [a, b, c, some (.int s), d, e, some (.ref tb), some (.ref o), f, g, k, n1, n2, n3]) (vs := [13]) (e := m_law_e1) (s := 13) (f := ff) it (by omega) (by omega) (fun i : Nat => .int (t.getD ((i : Int) / s).toNat 0)) (fun h' => h <+: h') (List.prefix_append _ _) (fun h' o p _ => pre_set p (Nat.le_refl _)) (fun i h' hi hl p => by
      refine ⟨h', ?_, List.prefix_refl _, p⟩
      have q0 : 0 ≤ (i : Int) / s := Int.ediv_nonneg (by omega) (by omega)
      have q1 : (i : Int) / s < t.length := Int.ediv_lt_of_lt_mul (by omega) (by rw [en]; omega)
      have f1 : ∀ i h, fDiv (.int i) (.int s) h = .ok (.int (i / s)) h := fun _ _ => fDiv_int (by omega) (by omega)
      have f3 : fIxL ns (.ref tb) (.int ((i : Int) / s)) h' = .ok (.int (t.getD ((i : Int) / s).toNat 0)) h' := ix_list ns (pre_get p et) q0 q1
      show m_law_e1 ns [a, b, c, some (.int s), d, e, some (.ref tb), some (.ref o), f, g, k, n1, n2, some (.int (0 + (i : Int)))] h' = _
      rw [Int.zero_add]
      unfold m_law_e1
      clear hF r et hle hm h2 h9 le ge en it p hl hi q0 q1
      walk_at "exh")
  obtain ⟨t', et'⟩ : ∃ t', ((List.range n).map fun k : Nat => t.getD ((k : Int) / s).toNat 0) = t' := ⟨_, rfl⟩
  have t1 : h1[h.length]? = some (.lst (t'.map .int)) := by rw [z2, ← et', List.map_map]; rfl
  have el : t'.length = n := by rw [← et']; simp
  obtain ⟨h3, eh3⟩ : ∃ h3, h1 ++ [CO.tup (t'.map CV.int)] = h3 := ⟨_, rfl⟩
  have p3 : h1 <+: h3 := by rw [← eh3]; exact List.prefix_append _ _
  have t3 : h3[h1.length]? = some (.tup (t'.map .int)) := by rw [← eh3]; exact len_new
  have f4 : fTupOf ns [.ref h.length] h1 = .ok (.ref h1.length) h3 := by rw [fTupOf_lst t1, eh3]
  have f5 : lineB 3 = true := rfl
  have f6 := (r.mono z3).i1 ns
  refine ⟨h3 ++ [.tup [.int s, .int low, .ref h1.length]], h3.length, t', some (.ref h.length), ?_, pre_new (z3.trans p3), r.mono (pre_new (z3.trans p3)), ⟨⟨h1.length, len_new, pre_get (List.prefix_append _ _) t3⟩, ?_, h2, h9, by omega, by omega, by omega, fun x hx => ?_⟩, fun ring hr hs => by rw [← et']; exact led_behind h2 r.len hr hs en.symm⟩
  · clear p3 t1 t3 el et' et r h2 h9 le hle hm z2 z3 hF ge en it f1 f2 f3
    walk_at "exh"
  · rw [el, ← en, r.len, Int.pow_succ]
  · rw [← et'] at hx
    obtain ⟨i, hi, rfl⟩ := List.mem_map.mp hx
    have hi := List.mem_range.mp hi
    have q0 : 0 ≤ (i : Int) / s := Int.ediv_nonneg (by omega) (by omega)
    have q1 : (i : Int) / s < t.length := Int.ediv_lt_of_lt_mul (by omega) (by rw [en]; omega)
    exact r.sg _ (getD_mem (by omega))
end K15
end

section
set_option Elab.async false
set_option linter.all false
set_option maxRecDepth 100000
set_option maxHeartbeats 2000000
namespace K15
open PySem L2 Xq
local macro_rules | `(tactic| walk_at "ex") => `(tactic| simp only [mDef, mSeq, mSet, mRet, mDrop, mIf, mVar, mC, mOp, mIx, mArg, mCall, mCons, mNil, mTst, mNotT, mAndT, mOrT, mAndV, mOrV, mNotV, mUn, mChain, Ou.bind, Ou.stm, mNext, mStop, mBM, mLst, mTup, new, mSetIx, mDGet, mDPut, mDIn, mIsi, mSl, mPart, mNo, mAug, mAsg, List.getElem?_cons_zero, List.getElem?_cons_succ, List.set_cons_zero, List.set_cons_succ, List.length_cons, List.length_nil, List.cons_append, List.nil_append, List.append_nil, List.map_cons, List.map_nil, List.replicate_succ, List.replicate_zero, Nat.reduceAdd, Nat.reduceSub, if_true, ite_true, mFor, mWhile, mIR1, mIR2, mNewT, mNewK, mIList])
local macro_rules | `(tactic| walk_at "exh") => `(tactic| simp only [mDef, mSeq, mSet, mRet, mDrop, mIf, mVar, mC, mOp, mIx, mArg, mCall, mCons, mNil, mTst, mNotT, mAndT, mOrT, mAndV, mOrV, mNotV, mUn, mChain, Ou.bind, Ou.stm, mNext, mStop, mBM, mLst, mTup, new, mSetIx, mDGet, mDPut, mDIn, mIsi, mSl, mPart, mNo, mAug, mAsg, List.getElem?_cons_zero, List.getElem?_cons_succ, List.set_cons_zero, List.set_cons_succ, List.length_cons, List.length_nil, List.cons_append, List.nil_append, List.append_nil, List.map_cons, List.map_nil, List.replicate_succ, List.replicate_zero, Nat.reduceAdd, Nat.reduceSub, if_true, ite_true, mFor, mWhile, mIR1, mIR2, mNewT, mNewK, mIList, Int.toNat_natCast, List.length_map, Bool.false_eq_true, if_false, Option.isSome_some, Option.isSome_none, decide_true, Bool.not_true, Bool.not_false, *])

def Yes (o : SO) : Prop := ∃ h', o = .rt (.bl true) h'
theorem cell_lit (ns : List Int) (h : CH) (k : Nat) : m__law_cell_at ns [.scr, .int (k : Int)] h = .ok (.int (ns.getD k 0)) h := cell_ok ns k h
theorem says_of (ns : List Int) {h : CH} {o rr : Nat} {s low : Int} {m : Nat} {t ring : List Int} {g : Nat → List Int} (T : Told h o s low m t ring g) (er : h[rr]? = some (.lst (ring.map .int))) (L : Nat) (hL : L ≤ 1100) {due : CV} (c : (due = .non ∧ Dis g L) ∨ ∃ v j k, due = .ref v ∧ Rep g L j k ∧ h[v]? = some (.tup [.int j, .int ((k : Int) - j)])) :
    ∃ h', m__law_says ns [.ref o, .ref rr, .int ((L : Int) - 1), due] h = .ok (.bl true) h' ∧ h <+: h' := by
  rcases c with ⟨rfl, d⟩ | ⟨v, j, k, rfl, r, e⟩
  · exact says_none ns T er L hL d
  · exact says_rep ns T er L hL r e
theorem main (ns : List Int) (hns : ns.length ≤ 63) : ∃ ch, m_law ns [.scr] [] = .ok (.bl true) ch := by
  unfold m_law
  refine def_rt rfl ?_
  show Yes (mSeq _ _ ns [some .scr, none, none, none, none, none, none, none, none, none, none, none, none, none] [])
  -- xs
  refine seq_P (fun c h => ∃ (xs : List Int), c = [some .scr, some (.ref 0), none, none, none, none, none, none, none, none, none, none, none, none] ∧ h[0]? = some (.lst (xs.map .int)) ∧ xs.length = 12) ?_ ?_
  · have f1 : m__law_cell_at ns [.scr, .int 0] [] = .ok (.int (ns.getD 0 0)) [] := cell_ok ns 0 []
    obtain ⟨h', xs, f2, _, e, l⟩ := stream_ok ns (h := []) (ns.getD 0 0) 12 (by omega)
    have f2 : m__law_stream ns [.int (ns.getD 0 0), .int 12] [] = .ok (.ref 0) h' := f2
    refine ⟨_, h', ?_, xs, rfl, e, l⟩
    clear e l
    walk_at "exh"
  rintro _ h ⟨xs, rfl, ex, lx⟩
  have ix : ∀ (i : Nat), i < 12 → fIxL ns (.ref 0) (.int (i : Int)) h = .ok (.int (xs.getD i 0)) h := fun i hi => ix_list ns ex (by omega) (by omega)
  -- way
  refine seq_P (fun c h' => h' = h ∧ ∃ (way : Int), c = [some .scr, some (.ref 0), some (.int way), none, none, none, none, none, none, none, none, none, none, none] ∧ 0 ≤ way ∧ way < 3) ?_ ?_
  · have f1 : fIxL ns (.ref 0) (.int 8) h = .ok (.int (xs.getD 8 0)) h := ix 8 (by omega)
    have f2 : ∀ i h, fMod (.int i) (.int 3) h = .ok (.int (i % 3)) h := fun _ _ => fMod_int (by decide)
    refine ⟨_, h, ?_, rfl, xs.getD 8 0 % 3, rfl, md 3 (by decide) _⟩
    clear ix ex lx hns
    walk_at "exh"
  rintro _ h ⟨rfl, way, rfl, w0, w3⟩
  -- signs
  refine seq_P (fun c h' => h' = h ∧ ∃ (s : Int), c = [some .scr, some (.ref 0), some (.int way), some (.int s), none, none, none, none, none, none, none, none, none, none] ∧ 2 ≤ s ∧ s ≤ 9) ?_ ?_
  · have f1 : fIxL ns (.ref 0) (.int 9) h = .ok (.int (xs.getD 9 0)) h := ix 9 (by omega)
    have f2 : ∀ i h, fMod (.int i) (.int 8) h = .ok (.int (i % 8)) h := fun _ _ => fMod_int (by decide)
    have f3 := fAdd_int
    have q := md 8 (by decide) (xs.getD 9 0)
    refine ⟨_, h, ?_, rfl, 2 + xs.getD 9 0 % 8, rfl, by omega, by omega⟩
    clear ix ex lx hns q w0 w3
    walk_at "exh"
  rintro _ h ⟨rfl, s, rfl, h2, h9⟩
  -- many
  refine seq_P (fun c h' => h' = h ∧ ∃ (m : Nat), c = [some .scr, some (.ref 0), some (.int way), some (.int s), some (.int m), none, none, none, none, none, none, none, none, none] ∧ (m = 2 ∨ m = 3 ∧ s ≤ 6)) ?_ ?_
  · have f1 : fIxL ns (.ref 0) (.int 10) h = .ok (.int (xs.getD 10 0)) h := ix 10 (by omega)
    have f2 : ∀ i h, fMod (.int i) (.int 2) h = .ok (.int (i % 2)) h := fun _ _ => fMod_int (by decide)
    have f3 := fAdd_int
    have f4 : ∀ h, fLt (.int s) (.int 7) h = .ok (.bl (ltZ s 7)) h := fun _ => rfl
    have f5 : ∀ b h, fInt1 ns [.bl b] h = .ok (.int (if b = true then 1 else 0)) h := fun _ _ => rfl
    have f6 : ∀ i b h, fMul (.int i) (.int (if b = true then 1 else 0)) h = .ok (.int (i * (if b = true then 1 else 0))) h := fun i b h => by cases b <;> exact fMul_r rfl
    have q := md 2 (by decide) (xs.getD 10 0)
    refine ⟨_, h, ?_, rfl, (2 + xs.getD 10 0 % 2 * (if ltZ s 7 = true then 1 else 0)).toNat, rfl, ?_⟩
    · have e : ((2 + xs.getD 10 0 % 2 * (if ltZ s 7 = true then 1 else 0)).toNat : Int) = 2 + xs.getD 10 0 % 2 * (if ltZ s 7 = true then 1 else 0) := by
        apply Int.toNat_of_nonneg
        split <;> omega
      rw [e]
      clear ix ex lx hns q w0 w3 h2 h9 e
      walk_at "exh"
    · by_cases c : s < 7
      · rw [ltZ_iff.mpr c, if_pos rfl]
        omega
      · have c' : ltZ s 7 = false := by rw [ltZ_eq]; exact decide_eq_false c
        rw [c', if_neg (by decide)]
        omega
  rintro _ h ⟨rfl, m, rfl, hm⟩
  -- size
  refine seq_P (fun c h' => h <+: h' ∧ ∃ (N : Nat), c = [some .scr, some (.ref 0), some (.int way), some (.int s), some (.int m), some (.int N), none, none, none, none, none, none, none, none] ∧ 1 ≤ N ∧ N ≤ 120) ?_ ?_
  · obtain ⟨h1, eh1⟩ : ∃ h1, h ++ [CO.lst [CV.int 14, CV.int 40, CV.int 120]] = h1 := ⟨_, rfl⟩
    have p1 : h <+: h1 := by rw [← eh1]; exact List.prefix_append _ _
    have t1 : h1[h.length]? = some (.lst (([14, 40, 120] : List Int).map .int)) := by rw [← eh1]; exact len_new
    obtain ⟨b, eb⟩ : ∃ b : Int, ([14, 40, 120] : List Int).getD way.toNat 0 = b := ⟨_, rfl⟩
    have hb : 0 < b ∧ b ≤ 120 := by
      have k : way = 0 ∨ way = 1 ∨ way = 2 := by omega
      rcases k with rfl | rfl | rfl <;> (rw [← eb]; decide)
    have f1 : m__law_cell_at ns [.scr, .int 4] h = .ok (.int (ns.getD 4 0)) h := cell_ok ns 4 h
    have f2 : fIxL ns (.ref h.length) (.int way) h1 = .ok (.int b) h1 := by
      rw [ix_list ns t1 w0 w3, eb]
    have f3 := fAdd_int
    have f4 : ∀ i h, fMod (.int i) (.int b) h = .ok (.int (i % b)) h := fun _ _ => fMod_int hb.1
    have f5 : lineB 3 = true := rfl
    have q := md b hb.1 (ns.getD 4 0)
    refine ⟨_, h1, ?_, p1, (1 + ns.getD 4 0 % b).toNat, rfl, by omega, by omega⟩
    rw [show (((1 + ns.getD 4 0 % b).toNat : Nat) : Int) = 1 + ns.getD 4 0 % b from Int.toNat_of_nonneg (by omega)]
    clear ix ex lx hns q w0 w3 h2 h9 hb eb t1 p1 hm
    walk_at "exh"
  rintro _ h1 ⟨p1, N, rfl, n1, n120⟩
  replace ex := pre_get p1 ex
  clear p1 ix
  -- the ring as long as it may be
  refine seq_P (fun c h' => ∃ (N : Nat) (xs : List Int), c = [some .scr, some (.ref 0), some (.int way), some (.int s), some (.int m), some (.int N), none, none, none, none, none, none, none, none] ∧ 1 ≤ N ∧ N ≤ 120 ∧ h'[0]? = some (.lst (xs.map .int)) ∧ xs.length = 12) ?_ ?_
  · have f1 : fEq (.int way) (.int 1) h1 = .ok (.bl (decide (way = 1))) h1 := rfl
    have f2 : fIxL ns (.ref 0) (.int 11) h1 = .ok (.int (xs.getD 11 0)) h1 := ix_list ns ex (by omega) (by omega)
    have f3 : ∀ i h, fMod (.int i) (.int 2) h = .ok (.int (i % 2)) h := fun _ _ => fMod_int (by decide)
    have f4 : ∀ i h, fEq (.int i) (.int 0) h = .ok (.bl (decide (i = 0))) h := fun _ _ => rfl
    by_cases c1 : way = 1
    · by_cases c2 : xs.getD 11 0 % 2 = 0
      · have f5 : m__law_cell_at ns [.scr, .int 4] h1 = .ok (.int (ns.getD 4 0)) h1 := cell_ok ns 4 h1
        have f6 : ∀ i h, fMod (.int i) (.int 120) h = .ok (.int (i % 120)) h := fun _ _ => fMod_int (by decide)
        have f7 := fAdd_int
        have f8 : setC (.ref 0) (.int 1) (.int 0) h1 = some (h1.set 0 (.lst ((xs.map .int).set 1 (.int 0)))) := setC_at ex (by omega) (by rw [List.length_map]; omega)
        have q := md 120 (by decide) (ns.getD 4 0)
        have d1 : decide (way = 1) = true := decide_eq_true c1
        have d2 : decide (xs.getD 11 0 % 2 = 0) = true := decide_eq_true c2
        refine ⟨_, _, ?_, (1 + ns.getD 4 0 % 120).toNat, xs.set 1 0, rfl, by omega, by omega, by rw [set_get ex, List.map_set], by simp [lx]⟩
        rw [show (((1 + ns.getD 4 0 % 120).toNat : Nat) : Int) = 1 + ns.getD 4 0 % 120 from Int.toNat_of_nonneg (by omega)]
        clear ex lx hns q w0 w3 h2 h9 hm n1 n120 c1 c2
        walk_at "exh"
      · have d1 : decide (way = 1) = true := decide_eq_true c1
        have d2 : decide (xs.getD 11 0 % 2 = 0) = false := decide_eq_false c2
        refine ⟨_, h1, ?_, N, xs, rfl, n1, n120, ex, lx⟩
        clear ex lx hns w0 w3 h2 h9 hm n1 n120 c1 c2
        walk_at "exh"
    · have d1 : decide (way = 1) = false := decide_eq_false c1
      refine ⟨_, h1, ?_, N, xs, rfl, n1, n120, ex, lx⟩
      clear ex lx hns w0 w3 h2 h9 hm n1 n120 c1
      walk_at "exh"
  clear ex lx xs n1 n120 N h h1
  rintro _ h ⟨N, xs, rfl, n1, n120, ex, lx⟩
  -- table
  refine seq_P (fun c h' => ∃ (tb : Nat) (t : List Int), c = [some .scr, some (.ref 0), some (.int way), some (.int s), some (.int m), some (.int N), some (.ref tb), none, none, none, none, none, none, none] ∧ h'[tb]? = some (.lst (t.map .int)) ∧ (t.length : Int) = s ^ m ∧ t.length ≤ 1000 ∧ signs s t) ?_ ?_
  · obtain ⟨M, eM, lM⟩ : ∃ M : Nat, s ^ m = (M : Int) ∧ M ≤ 1000 := by
      have k : s = 2 ∨ s = 3 ∨ s = 4 ∨ s = 5 ∨ s = 6 ∨ s = 7 ∨ s = 8 ∨ s = 9 := by omega
      rcases hm with rfl | ⟨rfl, l⟩
      · rcases k with rfl | rfl | rfl | rfl | rfl | rfl | rfl | rfl
        · exact ⟨4, rfl, by omega⟩
        · exact ⟨9, rfl, by omega⟩
        · exact ⟨16, rfl, by omega⟩
        · exact ⟨25, rfl, by omega⟩
        · exact ⟨36, rfl, by omega⟩
        · exact ⟨49, rfl, by omega⟩
        · exact ⟨64, rfl, by omega⟩
        · exact ⟨81, rfl, by omega⟩
      · rcases k with rfl | rfl | rfl | rfl | rfl | rfl | rfl | rfl
        · exact ⟨8, rfl, by omega⟩
        · exact ⟨27, rfl, by omega⟩
        · exact ⟨64, rfl, by omega⟩
        · exact ⟨125, rfl, by omega⟩
        · exact ⟨216, rfl, by omega⟩
        all_goals exact absurd l (by decide)
    obtain ⟨h', n, t, f1, p, e, l, sg⟩ := table_ok ns (way := way) (h := h) h2 h9 (by omega : 1 ≤ m) (by omega : m ≤ 9) eM lM ex lx
    refine ⟨_, h', ?_, n, t, rfl, e, by rw [eM, l], by omega, sg⟩
    clear ex lx hns w0 w3 h2 h9 hm n1 n120 eM lM p e l sg
    walk_at "exh"
  clear ex lx xs h
  rintro _ h ⟨tb, t, rfl, et, lt, lt2, st⟩
  have hm3 : 1 ≤ m ∧ m ≤ 3 := by omega
  -- one
  refine seq_P (fun c h' => ∃ (o : Nat) (low : Int), c = [some .scr, some (.ref 0), some (.int way), some (.int s), some (.int m), some (.int N), some (.ref tb), some (.ref o), none, none, none, none, none, none] ∧ h <+: h' ∧ Rule h' o s low m t) ?_ ?_
  · have f1 : m__law_cell_at ns [.scr, .int 1] h = .ok (.int (ns.getD 1 0)) h := cell_ok ns 1 h
    obtain ⟨low, f2⟩ := low_ok ns (ns.getD 1 0) h
    obtain ⟨h1, eh1⟩ : ∃ h1, h ++ [CO.tup (t.map CV.int)] = h1 := ⟨_, rfl⟩
    have p1 : h <+: h1 := by rw [← eh1]; exact List.prefix_append _ _
    have t1 : h1[h.length]? = some (.tup (t.map .int)) := by rw [← eh1]; exact len_new
    have f3 : fTupOf ns [.ref tb] h = .ok (.ref h.length) h1 := by rw [fTupOf_lst et, eh1]
    have f4 : lineB 3 = true := rfl
    refine ⟨_, h1 ++ [.tup [.int s, .int low, .ref h.length]], ?_, h1.length, low, rfl, pre_new p1, ⟨⟨h.length, len_new, pre_get (List.prefix_append _ _) t1⟩, lt, h2, h9, by omega, by omega, lt2, st⟩⟩
    clear et lt lt2 st hns w0 w3 h2 h9 hm n1 n120 p1 t1 eh1 hm3
    walk_at "exh"
  rintro _ h1 ⟨o, low, rfl, p1, r⟩
  replace et := pre_get p1 et
  clear p1 lt lt2 st h hm
  -- told
  refine seq_P (fun c h' => h' = h1 ∧ c = [some .scr, some (.ref 0), some (.int way), some (.int s), some (.int m), some (.int N), some (.ref tb), some (.ref o), some (.ref o), none, none, none, none, none]) ?_ ?_
  · refine ⟨_, h1, ?_, rfl, rfl⟩
    clear r et
    walk_at "exh"
  rintro _ h1 ⟨rfl, rfl⟩
  -- wider
  refine seq_P (fun c h' => h' = h1 ∧ ∃ w : Int, c = [some .scr, some (.ref 0), some (.int way), some (.int s), some (.int m), some (.int N), some (.ref tb), some (.ref o), some (.ref o), some (.int w), none, none, none, none]) ?_ ?_
  · have f1 : m__law_cell_at ns [.scr, .int 2] h1 = .ok (.int (ns.getD 2 0)) h1 := cell_ok ns 2 h1
    have f2 : ∀ i h, fMod (.int i) (.int 6) h = .ok (.int (i % 6)) h := fun _ _ => fMod_int (by decide)
    refine ⟨_, h1, ?_, rfl, ns.getD 2 0 % 6, rfl⟩
    clear r et hns
    walk_at "exh"
  rintro _ h1 ⟨rfl, w, rfl⟩
  -- one place more ahead
  refine seq_P (fun c h' => h1 <+: h' ∧ ∃ (o' : Nat) (low' : Int) (m' : Nat) (t' : List Int), c = [some .scr, some (.ref 0), some (.int way), some (.int s), some (.int m), some (.int N), some (.ref tb), some (.ref o), some (.ref o'), some (.int w), none, none, none, none] ∧ Wide h' o' o s low low' m m' t t') ?_ ?_
  · have f1 : fEq (.int w) (.int 1) h1 = .ok (.bl (decide (w = 1))) h1 := rfl
    have f2 : fLen ns [.ref tb] h1 = .ok (.int t.length) h1 := by rw [fLen_lst et, List.length_map]
    have f3 : ∀ h, fMul (.int (t.length : Int)) (.int s) h = .ok (.int (t.length * s)) h := fun h => fMul_r (in64_sign (by omega) h9)
    have f4 := fLe_int
    by_cases c1 : w = 1
    · have d1 : decide (w = 1) = true := decide_eq_true c1
      by_cases c2 : ltZ 256 (t.length * s) = true
      · refine ⟨_, h1, ?_, List.prefix_refl _, o, low, m, t, rfl, r, r, fun _ _ _ => rfl⟩
        clear et r hns w0 w3 h2 h9 n1 n120 hm3 c1
        walk_at "exh"
      · have c2 : ltZ 256 (t.length * s) = false := by simpa using c2
        obtain ⟨h', o', t', e, p, W⟩ := wide_front ns r et c2 hm3.2 (some .scr) (some (.ref 0)) (some (.int way)) (some (.int m)) (some (.int N)) (some (.ref o)) (some (.int w)) none none none none
        refine ⟨_, h', ?_, p, o', low - 1, m + 1, t', rfl, W⟩
        rw [← e]
        have t : ((mAndT (mTst (mOp fEq (mVar 9) (mC (.int 1)))) (mTst (mOp fLe (mOp fMul (mArg fLen (mCons (mVar 6) mNil)) (mVar 3)) (mC (.int 256)))))) ns [some .scr, some (.ref 0), some (.int way), some (.int s), some (.int m), some (.int N), some (.ref tb), some (.ref o), some (.ref o), some (.int w), none, none, none, none] h1 = .ok true h1 := by
          clear et r hns w0 w3 h2 h9 n1 n120 hm3 c1 e p W
          walk_at "exh"
        unfold mIf
        rw [t]
        rfl
    · have d1 : decide (w = 1) = false := decide_eq_false c1
      refine ⟨_, h1, ?_, List.prefix_refl _, o, low, m, t, rfl, r, r, fun _ _ _ => rfl⟩
      clear et r hns w0 w3 h2 h9 n1 n120 hm3 c1
      walk_at "exh"
  rintro _ h2' ⟨p2, o', low', m', t', rfl, W⟩
  replace et := pre_get p2 et
  clear p2 r h1
  -- one place more behind
  refine seq_P (fun c h' => ∃ (o' : Nat) (low' : Int) (m' : Nat) (t' : List Int) (k' : Option CV), c = [some .scr, some (.ref 0), some (.int way), some (.int s), some (.int m), some (.int N), some (.ref tb), some (.ref o), some (.ref o'), some (.int w), k', none, none, none] ∧ Wide h' o' o s low low' m m' t t') ?_ ?_
  · have f1 : fEq (.int w) (.int 4) h2' = .ok (.bl (decide (w = 4))) h2' := rfl
    have f2 : fLen ns [.ref tb] h2' = .ok (.int t.length) h2' := by rw [fLen_lst et, List.length_map]
    have f3 : ∀ h, fMul (.int (t.length : Int)) (.int s) h = .ok (.int (t.length * s)) h := fun h => fMul_r (in64_sign (by omega) h9)
    have f4 := fLe_int
    by_cases c1 : w = 4
    · have d1 : decide (w = 4) = true := decide_eq_true c1
      by_cases c2 : ltZ 256 (t.length * s) = true
      · refine ⟨_, h2', ?_, o', low', m', t', none, rfl, W⟩
        clear et W hns w0 w3 h2 h9 n1 n120 hm3 c1
        walk_at "exh"
      · have c2 : ltZ 256 (t.length * s) = false := by simpa using c2
        obtain ⟨h', o2, t2, k2, e, p, W'⟩ := wide_behind ns W.r et c2 hm3.2 (some .scr) (some (.ref 0)) (some (.int way)) (some (.int m)) (some (.int N)) (some (.ref o')) (some (.int w)) none none none none
        refine ⟨_, h', ?_, o2, low, m + 1, t2, k2, rfl, W'⟩
        rw [← e]
        have t : ((mAndT (mTst (mOp fEq (mVar 9) (mC (.int 4)))) (mTst (mOp fLe (mOp fMul (mArg fLen (mCons (mVar 6) mNil)) (mVar 3)) (mC (.int 256)))))) ns [some .scr, some (.ref 0), some (.int way), some (.int s), some (.int m), some (.int N), some (.ref tb), some (.ref o), some (.ref o'), some (.int w), none, none, none, none] h2' = .ok true h2' := by
          clear et W hns w0 w3 h2 h9 n1 n120 hm3 c1 e p W'
          walk_at "exh"
        unfold mIf
        rw [t]
        rfl
    · have d1 : decide (w = 4) = false := decide_eq_false c1
      refine ⟨_, h2', ?_, o', low', m', t', none, rfl, W⟩
      clear et W hns w0 w3 h2 h9 n1 n120 hm3 c1
      walk_at "exh"
  clear W et o' low' m' t' h2'
  rintro _ h ⟨o', low', m', t', k', rfl, W⟩
  -- ring
  refine seq_P (fun c h' => ∃ (rr : Nat) (ring : List Int), c = [some .scr, some (.ref 0), some (.int way), some (.int s), some (.int m), some (.int N), some (.ref tb), some (.ref o), some (.ref o'), some (.int w), k', some (.ref rr), none, none] ∧ h <+: h' ∧ h'[rr]? = some (.lst (ring.map .int)) ∧ ring.length = N ∧ signs s ring) ?_ ?_
  · obtain ⟨h', n, l, f1, p, e, z, sg⟩ := ring_ok ns (h := h) (way := way) hns h2 h9 n1 n120
    refine ⟨_, h', ?_, n, l, rfl, p, e, z, sg⟩
    clear W hns w0 w3 h2 h9 n1 n120 hm3 p e z sg
    walk_at "exh"
  rintro _ h1 ⟨rr, ring, rfl, p, er, lr, sr⟩
  have r := W.r.mono p
  have r' := W.r'.mono p
  have We := W.e
  clear p W h
  have T := told_mk r r (fun _ _ _ => rfl) (by omega) (by omega) sr
  have T' := told_mk r r' We (by omega) (by omega) sr
  -- due
  obtain ⟨g, eg⟩ : ∃ g, it (ledI s low m t) ring = g := ⟨_, rfl⟩
  rw [eg] at T T'
  refine seq_P (fun c h' => ∃ (due : CV), c = [some .scr, some (.ref 0), some (.int way), some (.int s), some (.int m), some (.int N), some (.ref tb), some (.ref o), some (.ref o'), some (.int w), k', some (.ref rr), some due, none] ∧ h1 <+: h' ∧ ((due = .non ∧ Dis g 1001) ∨ ∃ v j k, due = .ref v ∧ Rep g 1001 j k ∧ h'[v]? = some (.tup [.int j, .int ((k : Int) - j)]))) ?_ ?_
  · obtain ⟨h', p, c⟩ := due_ok ns r er (by omega) (by omega) sr T.g0 T.gl T.gn T.gs
    rcases c with ⟨f1, d⟩ | ⟨v, j, k, f1, rep, e⟩
    · refine ⟨_, h', ?_, .non, rfl, p, .inl ⟨rfl, d⟩⟩
      clear hns w0 w3 h2 h9 n1 n120 hm3 p d r r' T T' We er lr sr eg
      walk_at "exh"
    · refine ⟨_, h', ?_, .ref v, rfl, p, .inr ⟨v, j, k, rfl, rep, e⟩⟩
      clear hns w0 w3 h2 h9 n1 n120 hm3 p rep e r r' T T' We er lr sr eg
      walk_at "exh"
  rintro _ h ⟨due, rfl, p, hd⟩
  replace er := pre_get p er
  replace T' := T'.mono p
  clear p T r r' We h1 hns w0 w3 h2 h9 n1 n120 hm3 lr sr eg
  -- what is told
  refine seq_P (fun c h' => h <+: h' ∧ c = [some .scr, some (.ref 0), some (.int way), some (.int s), some (.int m), some (.int N), some (.ref tb), some (.ref o), some (.ref o'), some (.int w), k', some (.ref rr), some due, none]) ?_ ?_
  · obtain ⟨h', f1, p⟩ := says_of ns T' er 1001 (by omega) hd
    have f1 : m__law_says ns [.ref o', .ref rr, .int 1000, due] h = .ok (.bl true) h' := f1
    refine ⟨_, h', ?_, p, rfl⟩
    clear T' er hd p
    walk_at "exh"
  rintro _ h1 ⟨p, rfl⟩
  replace er := pre_get p er
  replace T' := T'.mono p
  rcases hd with ⟨rfl, d⟩ | ⟨v, j, k, rfl, rep, ev⟩
  · have f1 : ∀ h, fIsN .non .non h = .ok (.bl true) h := fun _ => rfl
    refine ⟨h1, ?_⟩
    clear T' er d p
    walk_at "exh"
  · have f1 : ∀ h, fIsN (.ref v) .non h = .ok (.bl false) h := fun _ => rfl
    replace ev := pre_get p ev
    have hjk := rep.1
    have hk := rep.2.1
    obtain ⟨ha, f2, pa⟩ := says_rep ns T' er (k + 1) (by omega) (j := j) (k := k) ⟨rep.1, by omega, rep.2.2⟩ ev
    obtain ⟨hb, f3, pb⟩ := says_none ns (T'.mono pa) (pre_get pa er) k (by omega) fun a b x y => rep.2.2.2 a b x y
    rw [show (((k + 1 : Nat) : Int) - 1) = k by omega] at f2
    have f4 : ∀ h, h1 <+: h → fSumT ns [.ref v] h = .ok (.int k) h := fun h p => by
      unfold fSumT
      dsimp only
      rw [tupC_ref (pre_get p ev)]
      dsimp only
      rw [show ([.int j, .int ((k : Int) - j)] : List CV) = ([(j : Int), (k : Int) - j] : List Int).map .int from rfl, intsC_map]
      dsimp only
      rw [show ([(j : Int), (k : Int) - j] : List Int).sum = k by simp; omega]
    have f5 := f4 h1 (List.prefix_refl _)
    have f6 := f4 ha pa
    have f7 := fSub_int
    refine ⟨hb, ?_⟩
    clear T' er p rep ev hjk hk pa pb f4
    walk_at "exh"
end K15
end

section
set_option Elab.async false
set_option linter.all false
set_option maxRecDepth 100000
set_option maxHeartbeats 0
namespace Xq
open PySem PySem.Spec PyProof.Rows L2
theorem to0 {P : Program} {w : World} {K : PySem.W.Frag} {mg : Str → Option Value} {base : Heap} {k : Nat} {f : Addr} {fd : FuncData} {ps : List Str} {sp : Sp} (F : FnOk P w K mg base (L2.CX P w) k f fd ps sp) : FnOk P w K mg base CX0 k f fd ps (fun vs H Q _ => sp vs H Q E0) :=
  ⟨fun vs H Q _ h => F.len vs H Q _ h, fun A outer s H args us vs Q E hr he hb hv h => codeAny_mono (F.run A outer s H args us vs Q E0 hr he hb hv h) fun r s' hq => by
    cases r with
    | ok fl => cases fl <;> exact hq
    | error e =>
      obtain ⟨_, _, _, _, _, _, _, _, _, _, _, _, z⟩ := hq
      exact z.elim⟩
end Xq
namespace K15
open PySem PySem.Spec PyProof.Rows L2 Xq
end K15
open PySem PySem.W PySem.Calls PyProof.Rows
theorem PySem.Challenge.cw_rowrules_k15_rings_that_come_late_holds : PySem.Challenge.rw_rowrules_k15_rings_that_come_late.Holds := by
  w_on; o_law
  refine HandSHeadRun.head_any (r := OpenLaw.row PySem.Challenge.rw_rowrules_k15_rings_that_come_late) (q := view (OpenLaw.row PySem.Challenge.rw_rowrules_k15_rings_that_come_late).prog [27]) (H := K15.hk) (ob := K15.ob) (M := 40000) (loose := K15.loose) (d := HandSHeadRun.topDef (OpenLaw.row PySem.Challenge.rw_rowrules_k15_rings_that_come_late).prog 27) (kwd := []) K15.ob_eq
    (by kernel_rfl) (fun s => by kernel_rfl) K15.run (by kernel_rfl) (by kernel_rfl) (by kernel_rfl) (by rfl) (by first | assumption | decide +kernel) (by decide +kernel) ⟨rfl, rfl, rfl, rfl, rfl, by decide +kernel⟩ ?hw ?hc
  case hw => w_witness2
  case hc =>
    refine L2.walk_ofE (l := PySem.Challenge.rw_rowrules_k15_rings_that_come_late) (n := 63) (k := 7) (x := "script") (CX := L2.CX0) rfl (by decide) (by kernel_rfl) ⟨rfl, by decide, by decide⟩ ?F (fun _ _ _ _ z => z)
    intro w mg fa h Y G hmg0
    obtain ⟨K, KX, c⟩ := Y
    have hmg : mg ("law" : PySem.Str) = some (.ref fa) := by
      have e : (HandSHeadRun.topDef (OpenLaw.row PySem.Challenge.rw_rowrules_k15_rings_that_come_late).prog 27).name = ("law" : PySem.Str) := by kernel_rfl
      rw [← e]
      exact hmg0
    obtain ⟨fd, hb, hF⟩ := K15.facts (P := (PySem.Challenge.rw_rowrules_k15_rings_that_come_late).prog) (w := w) (cl := fun _ => .none) KX G hmg c
    refine ⟨K, fd, fun vs H Q _ => Xq.spM K (fun _ => .none) K15.m_law vs H Q L2.E0, KX, hb, fun H a ns hl _ hS => ?_, fun base h1 h2 => Xq.to0 (hF base h1 h2)⟩
    obtain ⟨ch, e⟩ := K15.main ns hl
    refine ⟨⟨0, a, ns, H⟩, [], [.scr], [], ⟨rfl, .nil, fun n o z => by simp at z, fun b o z => ⟨by simp, z⟩, hS, Int.le_refl _⟩, .cons rfl .nil, ?_⟩
    show Xq.Post _ _ _ _ _ _ _ (K15.m_law ns [.scr] [])
    rw [e]
    exact fun ρ' w H' _ _ r => r
end
