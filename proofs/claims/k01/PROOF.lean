import PyProof.Rows.All
import Wide.All
import OpenK.AllK
import Wide.FinOn
import HandS.ForMost
import HandS.ForExc
import HandS.Wide
import HandS.IsInst
import HandS.TupAny
import HandS.TupMul
import HandS.TupLe
import HandS.Deep
import HandS.Style
import HandS.Flow
import HandS.DictComp
import HandS.DictTup
import HandS.SortRule
import HandS.SortInts
import HandS.RaiseMore
import HandS.Conv
import PyProof.ReprLen
import HandS.TupLen
import KE.GoesMore
import KE.GoesEnum
import HandS.Zip
import HandS.Walk
import PyProof.EnumMake
import PySem.Challenge.RW_dayshut_k01_whole_next_open_and_next_shu
set_option Elab.async false
set_option linter.all false
set_option maxRecDepth 100000
set_option maxHeartbeats 4000000
namespace PL
open PySem PySem.Spec L2
/-! ### data -/
inductive D where
  | non | bl (b : Bool) | int (i : Int) | str (s : Str) | tup (l : List D) | lst (l : List D) | rol (l : List D) | dct (l : List (D × D)) | fn (n : Nat)
def kD : Key → D
  | .inl i => .int i
  | .inr x => .str x
/-- where the defs stand; what is written -/
structure Ct where
  K : PySem.W.Frag
  fa : Nat → Option Addr
def KSeq (cls : String) (K : PySem.W.Frag) (a : Addr) (xs : List V) : Prop :=
  ∃ (o : Obj) (its : Array Value) (n : Nat), K.lookup a = some o ∧ o.cls = .type cls ∧ o.dict = none ∧ o.data = .seq its n ∧ its.size ≤ sizeLine ∧ Vals xs its.toList
section
variable (C : Ct)
mutual
inductive Rp (A : Addr → Prop) (H : Hp) : V → D → Prop
  | non : Rp A H .non .non
  | bl (b : Bool) : Rp A H (.bl b) (.bl b)
  | int (i : Int) : Rp A H (.int i) (.int i)
  | str (x : Str) : Rp A H (.str x) (.str x)
  | tup {a : Addr} {vs : List V} {ds : List D} : H a = some (.tup vs) → ¬ A a → RpL A H vs ds → Rp A H (.ref a) (.tup ds)
  | tupK {a : Addr} {vs : List V} {ds : List D} : KSeq "tuple" C.K a vs → RpL A H vs ds → Rp A H (.ref a) (.tup ds)
  | lst {a : Addr} {vs : List V} {ds : List D} : H a = some (.lst vs) → ¬ A a → RpL A H vs ds → Rp A H (.ref a) (.lst ds)
  | rol {a : Addr} {o : Obj} {vs : List V} {ds : List D} : H a = some (.frz o (.lst vs)) → ¬ A a → RpL A H vs ds → Rp A H (.ref a) (.rol ds)
  | rolK {a : Addr} {vs : List V} {ds : List D} : KSeq "list" C.K a vs → RpL A H vs ds → Rp A H (.ref a) (.rol ds)
  | dK {a : Addr} {kvs : List (Key × V)} {ps : List (D × D)} : H a = some (.dK kvs) → ¬ A a → RpK A H kvs ps → Rp A H (.ref a) (.dct ps)
  | dT {a : Addr} {kvs : List (List Key × V)} {ps : List (D × D)} : H a = some (.dT kvs) → ¬ A a → RpT A H kvs ps → Rp A H (.ref a) (.dct ps)
  | fn {n : Nat} {a : Addr} : C.fa n = some a → Rp A H (.ref a) (.fn n)
inductive RpL (A : Addr → Prop) (H : Hp) : List V → List D → Prop
  | nil : RpL A H [] []
  | cons {v : V} {vs : List V} {d : D} {ds : List D} : Rp A H v d → RpL A H vs ds → RpL A H (v :: vs) (d :: ds)
inductive RpK (A : Addr → Prop) (H : Hp) : List (Key × V) → List (D × D) → Prop
  | nil : RpK A H [] []
  | cons {k : Key} {v : V} {vs : List (Key × V)} {d : D} {ds : List (D × D)} : Rp A H v d → RpK A H vs ds → RpK A H ((k, v) :: vs) ((kD k, d) :: ds)
inductive RpT (A : Addr → Prop) (H : Hp) : List (List Key × V) → List (D × D) → Prop
  | nil : RpT A H [] []
  | cons {k : List Key} {v : V} {vs : List (List Key × V)} {d : D} {ds : List (D × D)} : Rp A H v d → RpT A H vs ds → RpT A H ((k, v) :: vs) ((.tup (k.map kD), d) :: ds)
end
end
section
variable {C : Ct} {A A' : Addr → Prop} {H H' : Hp}
/-- what is read stands where only A's objects may have changed -/
structure Mv (A A' : Addr → Prop) (H H' : Hp) : Prop where
  keep : ∀ b o, H b = some o → ¬ A b → H' b = some o
  new : ∀ b, A' b → A b ∨ H b = none
theorem Mv.at (m : Mv A A' H H') {a : Addr} {o : HO} (h : H a = some o) (n : ¬ A a) : H' a = some o ∧ ¬ A' a :=
  ⟨m.keep a o h n, fun z => (m.new a z).elim n fun q => by rw [h] at q; cases q⟩
mutual
theorem Rp.mv (m : Mv A A' H H') : ∀ {v : V} {d : D}, Rp C A H v d → Rp C A' H' v d
  | _, _, .non => .non
  | _, _, .bl b => .bl b
  | _, _, .int i => .int i
  | _, _, .str x => .str x
  | _, _, .tup h n r => .tup (m.at h n).1 (m.at h n).2 (RpL.mv m r)
  | _, _, .tupK k r => .tupK k (RpL.mv m r)
  | _, _, .lst h n r => .lst (m.at h n).1 (m.at h n).2 (RpL.mv m r)
  | _, _, .rol h n r => .rol (m.at h n).1 (m.at h n).2 (RpL.mv m r)
  | _, _, .rolK k r => .rolK k (RpL.mv m r)
  | _, _, .dK h n r => .dK (m.at h n).1 (m.at h n).2 (RpK.mv m r)
  | _, _, .dT h n r => .dT (m.at h n).1 (m.at h n).2 (RpT.mv m r)
  | _, _, .fn h => .fn h
theorem RpL.mv (m : Mv A A' H H') : ∀ {v : List V} {d : List D}, RpL C A H v d → RpL C A' H' v d
  | _, _, .nil => .nil
  | _, _, .cons h r => .cons (Rp.mv m h) (RpL.mv m r)
theorem RpK.mv (m : Mv A A' H H') : ∀ {v : List (Key × V)} {d : List (D × D)}, RpK C A H v d → RpK C A' H' v d
  | _, _, .nil => .nil
  | _, _, .cons h r => .cons (Rp.mv m h) (RpK.mv m r)
theorem RpT.mv (m : Mv A A' H H') : ∀ {v : List (List Key × V)} {d : List (D × D)}, RpT C A H v d → RpT C A' H' v d
  | _, _, .nil => .nil
  | _, _, .cons h r => .cons (Rp.mv m h) (RpT.mv m r)
end
theorem Mv.sub (h : ∀ b, A' b → A b) : Mv A A' H H := ⟨fun _ _ e _ => e, fun b z => .inl (h b z)⟩
theorem Mv.grow (h : ∀ b, A' b → A b ∨ H b = none) : Mv A A' H H := ⟨fun _ _ e _ => e, h⟩
theorem RpL.length : ∀ {vs : List V} {ds : List D}, RpL C A H vs ds → vs.length = ds.length
  | _, _, .nil => rfl
  | _, _, .cons _ r => by simp [RpL.length r]
theorem RpL.get : ∀ {vs : List V} {ds : List D} {i : Nat} {d : D}, RpL C A H vs ds → ds[i]? = some d → ∃ v, vs[i]? = some v ∧ Rp C A H v d
  | _, _, _, _, .nil, e => by simp at e
  | _, _, 0, _, .cons h _, e => by simp at e; subst e; exact ⟨_, rfl, h⟩
  | _, _, i + 1, _, .cons _ r, e => by
    obtain ⟨v, h1, h2⟩ := RpL.get (i := i) r (by simpa using e)
    exact ⟨v, by simpa using h1, h2⟩
theorem RpL.get' : ∀ {vs : List V} {ds : List D} {i : Nat} {v : V}, RpL C A H vs ds → vs[i]? = some v → ∃ d, ds[i]? = some d ∧ Rp C A H v d
  | _, _, _, _, .nil, e => by simp at e
  | _, _, 0, _, .cons h _, e => by simp at e; subst e; exact ⟨_, rfl, h⟩
  | _, _, i + 1, _, .cons _ r, e => by
    obtain ⟨v, h1, h2⟩ := RpL.get' (i := i) r (by simpa using e)
    exact ⟨v, by simpa using h1, h2⟩
theorem RpL.append : ∀ {vs ws : List V} {ds es : List D}, RpL C A H vs ds → RpL C A H ws es → RpL C A H (vs ++ ws) (ds ++ es)
  | _, _, _, _, .nil, s => s
  | _, _, _, _, .cons h r, s => .cons h (RpL.append r s)
theorem RpL.take : ∀ {vs : List V} {ds : List D} (n : Nat), RpL C A H vs ds → RpL C A H (vs.take n) (ds.take n)
  | _, _, 0, _ => .nil
  | _, _, _ + 1, .nil => .nil
  | _, _, n + 1, .cons h r => .cons h (RpL.take n r)
theorem RpL.drop : ∀ {vs : List V} {ds : List D} (n : Nat), RpL C A H vs ds → RpL C A H (vs.drop n) (ds.drop n)
  | _, _, 0, r => r
  | _, _, _ + 1, .nil => .nil
  | _, _, n + 1, .cons _ r => RpL.drop n r
theorem RpL.set {v : V} {d : D} (h : Rp C A H v d) : ∀ {vs : List V} {ds : List D} (i : Nat), RpL C A H vs ds → RpL C A H (vs.set i v) (ds.set i d)
  | _, _, _, .nil => .nil
  | _, _, 0, .cons _ r => .cons h r
  | _, _, i + 1, .cons q r => .cons q (RpL.set h i r)
theorem RpL.rep {v : V} {d : D} (h : Rp C A H v d) : ∀ n, RpL C A H (List.replicate n v) (List.replicate n d)
  | 0 => .nil
  | n + 1 => .cons h (RpL.rep h n)
theorem RpL.rev : ∀ {vs : List V} {ds : List D}, RpL C A H vs ds → RpL C A H vs.reverse ds.reverse
  | _, _, .nil => .nil
  | _, _, .cons h r => by
    rw [List.reverse_cons, List.reverse_cons]
    exact (RpL.rev r).append (.cons h .nil)
end
/-! ### slots -/
inductive Sl where
  | n | v (d : D) | o (d : D) | p (d : D)
abbrev En := List Sl
inductive R where
  | v (d : D) | o (i : Nat) | f (d : D)
/-- what stands at the address of a list or dict that only one name has -/
inductive OwnAt (C : Ct) (A : Addr → Prop) (H : Hp) (a : Addr) : D → Prop
  | lst {vs : List V} {ds : List D} : H a = some (.lst vs) → RpL C A H vs ds → OwnAt C A H a (.lst ds)
  | dK {kvs : List (Key × V)} {ps : List (D × D)} : H a = some (.dK kvs) → RpK C A H kvs ps → OwnAt C A H a (.dct ps)
  | dT {kvs : List (List Key × V)} {ps : List (D × D)} : H a = some (.dT kvs) → RpT C A H kvs ps → OwnAt C A H a (.dct ps)
def IsOw (σ : St) (env : En) (i : Nat) (a : Addr) (d : D) : Prop := (env[i]? = some (.o d) ∨ env[i]? = some (.p d)) ∧ σ[i]? = some (some (.ref a))
def Own (σ : St) (env : En) (a : Addr) : Prop := ∃ i d, IsOw σ env i a d
def AA (B : Addr → Prop) (σ : St) (env : En) (a : Addr) : Prop := B a ∨ Own σ env a
/-- the heap and the slots at the entry -/
structure Gh where
  H0 : Hp
  σ0 : St
  pp : Nat → Prop
abbrev Gc (H : Hp) (vs : List V) (as : En) : Gh := ⟨H, vs.map some, fun i => ∃ d, as[i]? = some (.p d)⟩
structure EnvR (C : Ct) (G : Gh) (B : Addr → Prop) (H : Hp) (σ : St) (env : En) : Prop where
  len : σ.length = env.length
  val : ∀ (i : Nat) (d : D), env[i]? = some (.v d) → ∃ v : V, σ[i]? = some (some v) ∧ Rp C (AA B σ env) H v d
  own : ∀ (i : Nat) (d : D), env[i]? = some (.o d) → ∃ a : Addr, σ[i]? = some (some (V.ref a)) ∧ OwnAt C (AA B σ env) H a d ∧ G.H0 a = none
  par : ∀ (i : Nat) (d : D), env[i]? = some (.p d) → ∃ a : Addr, σ[i]? = some (some (V.ref a)) ∧ OwnAt C (AA B σ env) H a d ∧ G.σ0[i]? = some (some (.ref a)) ∧ G.pp i
  inj : ∀ i j a d e, IsOw σ env i a d → IsOw σ env j a e → i = j
  bdom : ∀ a, B a → H a ≠ none
  bdis : ∀ a, B a → ¬ Own σ env a
  ent : ∀ a, G.H0 a ≠ none → H a ≠ none
/-- what one step may have done -/
structure Stp (H : Hp) (σ : St) (env : En) (H' : Hp) (σ' : St) (env' : En) : Prop where
  fr : ∀ b o, H b = some o → ¬ Own σ env b → H' b = some o
  dom : ∀ b, H b ≠ none → H' b ≠ none
  own : ∀ b, Own σ' env' b → Own σ env b ∨ H b = none
theorem Stp.refl {H : Hp} {σ : St} {env : En} : Stp H σ env H σ env := ⟨fun _ _ e _ => e, fun _ h => h, fun _ h => .inl h⟩
theorem Stp.trans {H H1 H2 : Hp} {σ σ1 σ2 : St} {env env1 env2 : En} (a : Stp H σ env H1 σ1 env1) (b : Stp H1 σ1 env1 H2 σ2 env2) : Stp H σ env H2 σ2 env2 where
  fr := fun x o e n => b.fr x o (a.fr x o e n) fun z => (a.own x z).elim n fun q => by rw [e] at q; cases q
  dom := fun x h => b.dom x (a.dom x h)
  own := fun x z => by
    rcases b.own x z with h | h
    · exact a.own x h
    · refine .inr ?_
      cases q : H x with
      | none => rfl
      | some o => exact absurd h (a.dom x (by rw [q]; exact fun z => nomatch z))
theorem Stp.same {H H' : Hp} {σ : St} {env : En} (h : Same H H') : Stp H σ env H' σ env :=
  ⟨fun b o e _ => h b o e, fun b n => by
    cases q : H b with
    | none => exact absurd q n
    | some o => rw [h b o q]; exact (fun z => nomatch z), fun _ h => .inl h⟩
section
variable {C : Ct} {G : Gh} {B B' : Addr → Prop} {H H' : Hp} {σ σ' : St} {env env' : En}
theorem Stp.mv (s : Stp H σ env H' σ' env') : Mv (AA B σ env) (AA B σ' env') H H' :=
  ⟨fun b o e n => s.fr b o e fun z => n (.inr z), fun b z => z.elim (fun q => .inl (.inl q)) fun q => (s.own b q).elim (fun r => .inl (.inr r)) .inr⟩
theorem EnvR.get (E : EnvR C G B H σ env) {i : Nat} {d : D} (h : env[i]? = some (.v d) ∨ env[i]? = some (.o d) ∨ env[i]? = some (.p d)) :
    ∃ v : V, σ[i]? = some (some v) ∧ (Rp C (AA B σ env) H v d ∨ ∃ a, v = .ref a ∧ OwnAt C (AA B σ env) H a d) := by
  rcases h with h | h | h
  · obtain ⟨v, e, r⟩ := E.val i d h
    exact ⟨v, e, .inl r⟩
  · obtain ⟨a, e, r, _⟩ := E.own i d h
    exact ⟨_, e, .inr ⟨a, rfl, r⟩⟩
  · obtain ⟨a, e, r, _⟩ := E.par i d h
    exact ⟨_, e, .inr ⟨a, rfl, r⟩⟩
theorem OwnAt.mv {A A' : Addr → Prop} (m : Mv A A' H H') {a : Addr} {d : D} (h : OwnAt C A H a d) (k : ∀ o, H a = some o → H' a = some o) : OwnAt C A' H' a d := by
  cases h with
  | lst e r => exact .lst (k _ e) (r.mv m)
  | dK e r => exact .dK (k _ e) (r.mv m)
  | dT e r => exact .dT (k _ e) (r.mv m)
abbrev NoA : Addr → Prop := fun _ => False
theorem Mv.noA {A : Addr → Prop} : Mv A NoA H H := .sub fun _ z => z.elim
/-- read for a moment -/
theorem OwnAt.rp {A : Addr → Prop} {a : Addr} {d : D} (h : OwnAt C A H a d) : Rp C NoA H (.ref a) d := by
  cases h with
  | lst e r => exact .lst e id (r.mv .noA)
  | dK e r => exact .dK e id (r.mv .noA)
  | dT e r => exact .dT e id (r.mv .noA)
theorem OwnAt.rpA {A A' : Addr → Prop} {a : Addr} {d : D} (h : OwnAt C A H a d) (hs : ∀ b, A' b → A b) (n : ¬ A' a) : Rp C A' H (.ref a) d := by
  cases h with
  | lst e r => exact .lst e n (r.mv (.sub hs))
  | dK e r => exact .dK e n (r.mv (.sub hs))
  | dT e r => exact .dT e n (r.mv (.sub hs))
theorem OwnAt.dom {A : Addr → Prop} {a : Addr} {d : D} (h : OwnAt C A H a d) : H a ≠ none := by
  cases h with
  | lst e _ => rw [e]; exact fun z => nomatch z
  | dK e _ => rw [e]; exact fun z => nomatch z
  | dT e _ => rw [e]; exact fun z => nomatch z
theorem EnvR.owned (E : EnvR C G B H σ env) {a : Addr} (h : Own σ env a) : ∃ d, OwnAt C (AA B σ env) H a d := by
  obtain ⟨i, d, h, e⟩ := h
  rcases h with h | h
  · obtain ⟨a', e', r, _⟩ := E.own i d h
    rw [e] at e'; cases e'
    exact ⟨d, r⟩
  · obtain ⟨a', e', r, _⟩ := E.par i d h
    rw [e] at e'; cases e'
    exact ⟨d, r⟩
theorem EnvR.adom (E : EnvR C G B H σ env) {a : Addr} (h : AA B σ env a) : H a ≠ none := by
  rcases h with h | h
  · exact E.bdom a h
  · obtain ⟨d, r⟩ := E.owned h
    exact r.dom
/-- the same slots over a heap in which all that was tracked stands; new things may be kept apart -/
theorem EnvR.same (E : EnvR C G B H σ env) (s : Same H H') (hs : ∀ a, B' a → B a ∨ H a = none) (hd : ∀ a, B' a → H' a ≠ none) : EnvR C G B' H' σ env := by
  have m : Mv (AA B σ env) (AA B' σ env) H H' := ⟨fun b o e _ => s b o e, fun b z => z.elim (fun q => (hs b q).elim (fun r => .inl (.inl r)) .inr) fun q => .inl (.inr q)⟩
  refine ⟨E.len, fun i d h => ?_, fun i d h => ?_, fun i d h => ?_, E.inj, hd, fun a h z => ?_, fun a h => (Stp.same (σ := σ) (env := env) s).dom a (E.ent a h)⟩
  · obtain ⟨v, e, r⟩ := E.val i d h
    exact ⟨v, e, r.mv m⟩
  · obtain ⟨a, e, r, z⟩ := E.own i d h
    exact ⟨a, e, r.mv m fun o => s a o, z⟩
  · obtain ⟨a, e, r, z⟩ := E.par i d h
    exact ⟨a, e, r.mv m fun o => s a o, z⟩
  · rcases hs a h with q | q
    · exact E.bdis a q z
    · obtain ⟨d, r⟩ := E.owned z
      exact r.dom q
theorem EnvR.same0 (E : EnvR C G B H σ env) (s : Same H H') : EnvR C G B H' σ env :=
  E.same s (fun _ h => .inl h) fun a h => (Stp.same (σ := σ) (env := env) s).dom a (E.bdom a h)
theorem EnvR.less (E : EnvR C G B H σ env) (h : ∀ a, B' a → B a) : EnvR C G B' H σ env := E.same (fun _ _ e => e) (fun a z => .inl (h a z)) fun a z => E.bdom a (h a z)
theorem same_upd {H : Hp} {p : Addr} {o : HO} (h : H p = none) : Same H (upd H p o) := fun b x e => by
  have ne : b ≠ p := fun z => by rw [z, h] at e; cases e
  rw [upd_ne ne]
  exact e
abbrev Plus (B : Addr → Prop) (p : Addr) : Addr → Prop := fun a => B a ∨ a = p
/-- a new object that nothing else reads -/
theorem EnvR.fresh (E : EnvR C G B H σ env) {p : Addr} {o : HO} (h : H p = none) : EnvR C G (Plus B p) (upd H p o) σ env :=
  E.same (same_upd h) (fun a z => z.elim .inl fun q => .inr (q ▸ h)) fun a z => z.elim (fun q => (Stp.same (σ := σ) (env := env) (same_upd h)).dom a (E.bdom a q)) fun q => by rw [q, upd_same]; exact fun z => nomatch z
end
end PL
set_option maxHeartbeats 4000000
namespace PL
open PySem PySem.Spec L2
/-! ### what the values are worth -/
abbrev SZ : Nat := 16777216
mutual
def py : D → PyData
  | .non => .none
  | .bl b => .bool b
  | .int i => .int i
  | .str s => .str s
  | .tup l => .tuple (pyL l)
  | .lst l => .list (pyL l)
  | .rol _ => .none
  | .dct _ => .none
  | .fn _ => .none
def pyL : List D → List PyData
  | [] => []
  | d :: r => py d :: pyL r
end
mutual
/-- == -/
def eqv : D → D → Bool
  | .non, .non => true
  | .bl a, .bl b => a == b
  | .bl a, .int j => (if a then 1 else 0) == j
  | .int i, .bl b => i == (if b then 1 else 0)
  | .int i, .int j => i == j
  | .str x, .str y => x == y
  | .tup l, .tup m => eqvL l m
  | .lst l, .lst m => eqvL l m
  | _, _ => false
def eqvL : List D → List D → Bool
  | [], [] => true
  | x :: l, y :: m => eqv x y && eqvL l m
  | _, _ => false
end
/-- plain data of at most so many levels -/
def okE : Nat → D → Bool
  | _, .non => true
  | _, .bl _ => true
  | _, .int _ => true
  | _, .str x => PyData.strOk x
  | n + 1, .tup l => l.all (okE n)
  | n + 1, .lst l => l.all (okE n)
  | _, _ => false
abbrev LV : Nat := 9
def eqD (a b : D) : Option Bool := if okE LV a && okE LV b then some (eqv a b) else none
/-- what repr may take -/
def okR : Nat → D → Bool
  | _, .non => true
  | _, .bl _ => true
  | _, .int i => decide (i.natAbs.log2 < 1920)
  | _, .str x => PyData.strOk x
  | n + 1, .tup l => l.all (okR n)
  | n + 1, .lst l => l.all (okR n)
  | _, _ => false
def szR : Nat → D → Nat
  | _, .int _ => 1921
  | _, .str x => 10 * x.length + 2
  | n + 1, .tup l => (l.map fun d => szR n d + 2).sum + 3
  | n + 1, .lst l => (l.map fun d => szR n d + 2).sum + 3
  | _, _ => 5
def reprD (d : D) : Option Str := if okR LV d && decide (szR LV d ≤ SZ) then some (PyData.shown (py d)) else none
def truD : D → Option Bool
  | .bl b => some b
  | .int i => some (i != 0)
  | .non => some false
  | .str x => if x.length ≤ SZ then some (x.length != 0) else none
  | .lst l => some (!l.isEmpty)
  | .tup l => some (!l.isEmpty)
  | _ => none
inductive Bop where
  | add | sub | mul | div | mod | pow
inductive Cop where
  | lt | le | gt | ge | eq | ne | isIn | notIn | is | isNot
def mkT (l : List D) : Option R := if l.length ≤ SZ then some (.v (.tup l)) else none
def mkL (l : List D) : Option R := if l.length ≤ SZ then some (.f (.lst l)) else none
def mulS (s : Str) (n : Nat) : Str := ⟨(List.replicate n s.cps.toList).flatten.toArray⟩
def binD : Bop → D → D → Option R
  | .add, .int a, .int b => some (.v (.int (a + b)))
  | .add, .str a, .str b => if a.length + b.length ≤ SZ then some (.v (.str (a ++ b))) else none
  | .add, .tup a, .tup b => mkT (a ++ b)
  | .add, .lst a, .lst b => mkL (a ++ b)
  | .sub, .int a, .int b => some (.v (.int (a - b)))
  | .mul, .int a, .int b => if a.natAbs.log2 + b.natAbs.log2 < 1000000 then some (.v (.int (a * b))) else none
  | .mul, .lst l, .int k => if -(2 ^ 63) ≤ k ∧ k < 2 ^ 63 ∧ l.length * k.toNat ≤ SZ then some (.f (.lst (List.replicate k.toNat l).flatten)) else none
  | .mul, .tup l, .int k => if -(2 ^ 63) ≤ k ∧ k < 2 ^ 63 ∧ (l.length = 0 ∨ k ≤ 1 ∨ (k ≤ 1000 ∧ l.length ≤ 1000)) then some (.v (.tup (List.replicate k.toNat l).flatten)) else none
  | .mul, .str s, .int k => if -(2 ^ 63) ≤ k ∧ k < 2 ^ 63 ∧ s.length * k.toNat ≤ SZ then some (.v (.str (mulS s k.toNat))) else none
  | .div, .int a, .int b => if 0 < b ∧ b.natAbs.log2 < 9000 then some (.v (.int (a / b))) else none
  | .mod, .int a, .int b => if 0 < b then some (.v (.int (a % b))) else none
  | .pow, .int a, .int b => if 0 ≤ b ∧ b ≤ 1000000 ∧ a.natAbs < 2 ^ 64 then some (.v (.int (a ^ b.toNat))) else none
  | _, _, _ => none
def isIntL : List D → Option (List Int)
  | [] => some []
  | .int i :: r => (isIntL r).map (i :: ·)
  | _ :: _ => none
def lexLt : List Int → List Int → Bool
  | [], [] => false
  | [], _ :: _ => true
  | _ :: _, [] => false
  | a :: r, b :: s => if a < b then true else if b < a then false else lexLt r s
def signOf (s : Str) : Option Nat := match s.cps.toList with
  | [c] => some c
  | _ => none
def cmpD : Cop → D → D → Option Bool
  | .lt, .int a, .int b => some (decide (a < b))
  | .le, .int a, .int b => some (decide (a ≤ b))
  | .gt, .int a, .int b => some (decide (b < a))
  | .ge, .int a, .int b => some (decide (b ≤ a))
  | .lt, .str a, .str b => some (decide (a.cps.toList < b.cps.toList))
  | .eq, .str a, .str b => some (decide (a = b))
  | .ne, .str a, .str b => some (!decide (a = b))
  | .eq, a, b => eqD a b
  | .ne, a, b => (eqD a b).map (!·)
  | .isIn, .str a, .str b => (signOf a).map fun c => decide (c ∈ b.cps.toList)
  | .notIn, .str a, .str b => (signOf a).map fun c => !decide (c ∈ b.cps.toList)
  | .isIn, a, .lst l => if okE LV a && okE LV (.lst l) then some (l.any fun z => eqv z a) else none
  | .notIn, a, .lst l => if okE LV a && okE LV (.lst l) then some (!l.any fun z => eqv z a) else none
  | .isIn, a, .tup l => if okE LV a && okE LV (.tup l) then some (l.any fun z => eqv z a) else none
  | .notIn, a, .tup l => if okE LV a && okE LV (.tup l) then some (!l.any fun z => eqv z a) else none
  | .is, .bl a, .bl b => some (decide (a = b))
  | .isNot, .bl a, .bl b => some (!decide (a = b))
  | .is, .non, .non => some true
  | .isNot, .non, .non => some false
  | .is, _, .non => some false
  | .isNot, _, .non => some true
  | _, _, _ => none
def idxD : D → D → Option D
  | .lst l, .int i => atI l i
  | .rol l, .int i => atI l i
  | .tup l, .int i => atI l i
  | .str s, .int i => if s.length ≤ SZ then (atI s.cps.toList i).map fun c => .str ⟨#[c]⟩ else none
  | _, _ => none
def cutD (l : List D) (lo hi : Option Int) : List D := (l.drop (HT.sIx l.length 0 lo)).take (HT.sIx l.length l.length hi - HT.sIx l.length 0 lo)
def slcD (d : D) (lo hi : Option Int) : Option R := match d with
  | .lst l => some (.f (.lst (cutD l lo hi)))
  | .rol l => some (.f (.lst (cutD l lo hi)))
  | .tup l => some (.v (.tup (cutD l lo hi)))
  | .str s => if s.length ≤ SZ then some (.v (.str (cutS s lo hi))) else none
  | _ => none
inductive Bi where
  | len | abs | int | max | min | sum | any | all | sorted | tuple | list | str | repr
def isBlL : List D → Option (List Bool)
  | [] => some []
  | .bl i :: r => (isBlL r).map (i :: ·)
  | _ :: _ => none
def mxI : List Int → Option Int
  | [] => none
  | a :: r => some (r.foldl (fun x y => if y > x then y else x) a)
def mnI : List Int → Option Int
  | [] => none
  | a :: r => some (r.foldl (fun x y => if y < x then y else x) a)
def insI (x : Int) : List Int → List Int
  | [] => [x]
  | y :: r => if y < x then y :: insI x r else x :: y :: r
def srtI (l : List Int) : List Int := l.foldr insI []
def isPairL : List D → Option (List (Int × Int))
  | [] => some []
  | .tup [.int i, .int j] :: r => (isPairL r).map ((i, j) :: ·)
  | _ :: _ => none
def ltPr (a b : Int × Int) : Bool := if a.1 < b.1 then true else if b.1 < a.1 then false else decide (a.2 < b.2)
def insP (x : Int × Int) : List (Int × Int) → List (Int × Int)
  | [] => [x]
  | y :: r => if ltPr y x then y :: insP x r else x :: y :: r
def srtP (l : List (Int × Int)) : List (Int × Int) := l.foldr insP []
def prD (p : Int × Int) : D := .tup [.int p.1, .int p.2]
def biD : Bi → List D → Option R
  | .len, [.lst l] => some (.v (.int l.length))
  | .len, [.rol l] => some (.v (.int l.length))
  | .len, [.tup l] => some (.v (.int l.length))
  | .len, [.str s] => if s.length ≤ SZ then some (.v (.int s.length)) else none
  | .len, [.dct l] => some (.v (.int l.length))
  | .abs, [.int i] => some (.v (.int (if i < 0 then -i else i)))
  | .int, [.int i] => some (.v (.int i))
  | .int, [.bl b] => some (.v (.int (if b then 1 else 0)))
  | .max, [.int i, .int j] => some (.v (.int (if j > i then j else i)))
  | .min, [.int i, .int j] => some (.v (.int (if j < i then j else i)))
  | .max, [.lst l] => ((isIntL l).bind mxI).map fun x => .v (.int x)
  | .min, [.lst l] => ((isIntL l).bind mnI).map fun x => .v (.int x)
  | .sum, [.lst l] => (isIntL l).map fun x => .v (.int x.sum)
  | .any, [.lst l] => (isBlL l).map fun x => .v (.bl (x.any id))
  | .all, [.lst l] => (isBlL l).map fun x => .v (.bl (x.all id))
  | .sorted, [.lst l] => match isIntL l with
    | some x => some (.f (.lst ((srtI x).map .int)))
    | none => none
  | .tuple, [.lst l] => some (.v (.tup l))
  | .tuple, [.tup l] => some (.v (.tup l))
  | .list, [.lst l] => some (.f (.lst l))
  | .list, [.tup l] => some (.f (.lst l))
  | .str, [.int i] => if i.natAbs.log2 < 1920 then some (.v (.str (toString i))) else none
  | .repr, [d] => (reprD d).map fun x => .v (.str x)
  | _, _ => none
/-- isinstance -/
inductive Ty where
  | int | bool | tuple | str | list | dict
def tyN : Ty → String
  | .int => "int" | .bool => "bool" | .tuple => "tuple" | .str => "str" | .list => "list" | .dict => "dict"
def dTy : D → Option String
  | .non => some "NoneType" | .bl _ => some "bool" | .int _ => some "int" | .str _ => some "str" | .tup _ => some "tuple" | .lst _ => some "list" | .rol _ => some "list" | .dct _ => some "dict" | .fn _ => none
def isTy : Ty → D → Option Bool
  | .int, .int _ => some true
  | .int, .bl _ => some true
  | .bool, .bl _ => some true
  | .tuple, .tup _ => some true
  | .str, .str _ => some true
  | .list, .lst _ => some true
  | .list, .rol _ => some true
  | .dict, .dct _ => some true
  | _, .fn _ => none
  | _, _ => some false
/-! ### programs -/
inductive Tg where
  | nm (i : Nat) | tp (l : List Tg)
inductive Ml where
  | append | extend | pop | popAt | insert
inductive Un where
  | not | neg
mutual
inductive Ex where
  | k (d : D)
  | v (i : Nat)
  | g (x : Str)
  | bin (op : Bop) (a b : Ex)
  | cmp (op : Cop) (a b : Ex)
  | cmp2 (op op' : Cop) (a b c : Ex)
  | and (l : List Ex)
  | or (l : List Ex)
  | not (a : Ex)
  | neg (a : Ex)
  | ite (c a b : Ex)
  | tup (l : List Ex)
  | lst (l : List Ex)
  | idx (a i : Ex)
  | slc (a : Ex) (lo hi : Option Ex)
  | rev (a : Ex)
  | call (f : Nat) (l : List Ex)
  | bi (b : Bi) (l : List Ex)
  | isi (a : Ex) (t : Ty)
  | ml (m : Ml) (i : Nat) (l : List Ex)
  | lc (e : Ex) (tg : Tg) (it : It') (cs : List Ex) (own : List Nat)
inductive It' where
  | e (a : Ex)
  | rg1 (a : Ex)
  | rg2 (a b : Ex)
  | rg3 (a b c : Ex)
  | enum (a : Ex)
  | zip (a b : Ex)
end
inductive Sx where
  | asg (tg : Tg) (e : Ex)
  | asc (i : Nat) (e : Ex)
  | par (is : List Nat) (es : List Ex)
  | sto (i : Nat) (ix e : Ex)
  | ex (e : Ex)
  | ret (e : Ex)
  | ife (c : Ex) (a b : List Sx)
  | wh (c : Ex) (b : List Sx)
  | fr (tg : Tg) (it : It') (b : List Sx)
  | pas | brk | con
  | rse
inductive Fl where
  | nx | bk | ct | rt (r : R)
/-! ### their run -/
def lk (env : En) (i : Nat) : Option D := match env[i]? with
  | some (.v d) => some d
  | some (.o d) => some d
  | some (.p d) => some d
  | _ => none
/-- a result as it can be read -/
def rd : R → En → Option D
  | .v d, _ => some d
  | .f d, _ => some d
  | .o i, env => lk env i
/-- a result that goes elsewhere: its name loses it -/
def giv : R → En → Option (D × En)
  | .v d, env => some (d, env)
  | .f d, env => some (d, env)
  | .o i, env => match env[i]? with
    | some (.o d) => some (d, env.set i (.v d))
    | some (.v d) => some (d, env)
    | _ => none
def givs : List R → En → Option (List D × En)
  | [], env => some ([], env)
  | r :: rs, env => match giv r env with
    | some (d, e1) => match givs rs e1 with
      | some (ds, e2) => some (d :: ds, e2)
      | none => none
    | none => none
def rds : List R → En → Option (List D)
  | [], _ => some []
  | r :: rs, env => match rd r env with
    | some d => match rds rs env with
      | some ds => some (d :: ds)
      | none => none
    | none => none
def unf : R → R
  | .f d => .v d
  | r => r
def putS (env : En) (i : Nat) (s : Sl) : Option En := match env[i]? with
  | some (.p _) => none
  | some _ => some (env.set i s)
  | none => none
mutual
def asgT : Tg → D → En → Option En
  | .nm i, d, env => putS env i (.v d)
  | .tp l, .tup ds, env => asgTs l ds env
  | .tp _, _, _ => none
def asgTs : List Tg → List D → En → Option En
  | [], [], env => some env
  | t :: ts, d :: ds, env => match asgT t d env with
    | some e1 => asgTs ts ds e1
    | none => none
  | _, _, _ => none
end
/-- a whole result put at a name -/
def asgR (i : Nat) (r : R) (env : En) : Option En := match r with
  | .v d => putS env i (.v d)
  | .f d => putS env i (.o d)
  | .o j => match giv (.o j) env with
    | some (d, e1) => putS e1 i (.v d)
    | none => none
def asg (tg : Tg) (r : R) (env : En) : Option En := match tg with
  | .nm i => asgR i r env
  | .tp l => match rd r env with
    | some d => asgT (.tp l) d env
    | none => none
def argS : List R → En → Option (List Sl)
  | [], _ => some []
  | .o i :: rs, env => match env[i]? with
    | some (.v d) => (argS rs env).map (Sl.v d :: ·)
    | some (.o d) => (argS rs env).map (Sl.p d :: ·)
    | some (.p d) => (argS rs env).map (Sl.p d :: ·)
    | _ => none
  | .v d :: rs, env => (argS rs env).map (Sl.v d :: ·)
  | .f d :: rs, env => (argS rs env).map (Sl.v d :: ·)
def ows : List R → En → List Nat
  | [], _ => []
  | .o i :: rs, env => match env[i]? with
    | some (.o _) => i :: ows rs env
    | some (.p _) => i :: ows rs env
    | _ => ows rs env
  | _ :: rs, env => ows rs env
def bak (env0 : En) : List R → List Sl → En → Option En
  | [], [], env => some env
  | .o i :: rs, s :: ss, env => match env0[i]?, s with
    | some (.v _), _ => bak env0 rs ss env
    | some (.o _), .p d => bak env0 rs ss (env.set i (.o d))
    | some (.p _), .p d => bak env0 rs ss (env.set i (.p d))
    | _, _ => none
  | .v _ :: rs, _ :: ss, env => bak env0 rs ss env
  | .f _ :: rs, _ :: ss, env => bak env0 rs ss env
  | _, _, _ => none
def nodupB : List Nat → Bool
  | [] => true
  | i :: r => !r.contains i && nodupB r
abbrev FT := Nat → List Sl → Option (R × List Sl)
def callR (F : FT) (f : Nat) (rs : List R) (env : En) : Option (R × En) :=
  if nodupB (ows rs env) then match argS rs env with
    | some as => match F f as with
      | some (r, fin) => match bak env rs fin env with
        | some e2 => some (r, e2)
        | none => none
      | none => none
    | none => none
  else none
/-- a list that a name has is changed -/
def mlD : Ml → List D → List D → Option (D × List D)
  | .append, l, [x] => if l.length < SZ then some (.non, l ++ [x]) else none
  | .extend, l, [.lst m] => if l.length + m.length ≤ SZ then some (.non, l ++ m) else none
  | .pop, l, [] => match l[l.length - 1]? with
    | some y => some (y, l.dropLast)
    | none => none
  | .popAt, l, [.int i] => match ixN l.length i with
    | some k => match l[k]? with
      | some y => if -(2 ^ 63) ≤ i ∧ i < 2 ^ 63 then some (y, l.eraseIdx k) else none
      | none => none
    | none => none
  | _, _, _ => none
def wipeE (env : En) : List Nat → En
  | [] => env
  | i :: r => (wipeE env r).set i .n
def restE (env old : En) : List Nat → En
  | [] => env
  | i :: r => match old[i]? with
    | some s => (restE env old r).set i s
    | none => restE env old r
/-- the items that are walked, and the list that must stay as it is -/
def walkD : D → Option (List D)
  | .lst l => some l
  | .rol l => some l
  | .tup l => some l
  | .str s => some (s.cps.toList.map fun c => .str ⟨#[c]⟩)
  | _ => none
def rgD (lo hi : Int) : List D := (List.range (hi - lo).toNat).map fun (i : Nat) => D.int (lo + (i : Int))
def inR (i : Int) : Bool := decide (-(2 ^ 62) ≤ i) && decide (i < 2 ^ 62)
def enumD : Nat → List D → List D
  | _, [] => []
  | i, d :: r => .tup [.int i, d] :: enumD (i + 1) r
def zipD : List D → List D → List D
  | a :: l, b :: m => .tup [a, b] :: zipD l m
  | _, _ => []
def sameS : Option Sl → Option Sl → Prop := Eq
def loopC (t : D → En → Option (Option D × En)) : List D → En → Option (List D × En)
  | [], env => some ([], env)
  | d :: r, env => match t d env with
    | some (o, e1) => match loopC t r e1 with
      | some (l, e2) => some ((match o with | some x => x :: l | none => l), e2)
      | none => none
    | none => none
def loopF (t : D → En → Option (Fl × En)) : List D → En → Option (Fl × En)
  | [], env => some (.nx, env)
  | d :: r, env => match t d env with
    | some (.nx, e1) => loopF t r e1
    | some (.ct, e1) => loopF t r e1
    | some (.bk, e1) => some (.nx, e1)
    | some (.rt x, e1) => some (.rt x, e1)
    | none => none
def loopW (c : En → Option (Bool × En)) (b : En → Option (Fl × En)) : Nat → En → Option (Fl × En)
  | 0, _ => none
  | n + 1, env => match c env with
    | some (true, e1) => match b e1 with
      | some (.nx, e2) => loopW c b n e2
      | some (.ct, e2) => loopW c b n e2
      | some (.bk, e2) => some (.nx, e2)
      | some (.rt x, e2) => some (.rt x, e2)
      | none => none
    | some (false, e1) => some (.nx, e1)
    | none => none
end PL
set_option maxHeartbeats 4000000
namespace PL
open PySem PySem.Spec L2
mutual
def beqD : D → D → Bool
  | .non, .non => true
  | .bl a, .bl b => a == b
  | .int a, .int b => a == b
  | .str a, .str b => a == b
  | .tup l, .tup m => beqL l m
  | .lst l, .lst m => beqL l m
  | .rol l, .rol m => beqL l m
  | .dct l, .dct m => beqK l m
  | .fn a, .fn b => a == b
  | _, _ => false
def beqL : List D → List D → Bool
  | [], [] => true
  | a :: l, b :: m => beqD a b && beqL l m
  | _, _ => false
def beqK : List (D × D) → List (D × D) → Bool
  | [], [] => true
  | (a, x) :: l, (b, y) :: m => beqD a b && beqD x y && beqK l m
  | _, _ => false
end
mutual
theorem beqD_eq : ∀ {a b : D}, beqD a b = true → a = b
  | .non, b, h => by cases b <;> simp_all [beqD]
  | .bl a, b, h => by cases b <;> simp_all [beqD]
  | .int a, b, h => by cases b <;> simp_all [beqD]
  | .str a, b, h => by cases b <;> simp_all [beqD]
  | .fn a, b, h => by cases b <;> simp_all [beqD]
  | .tup l, b, h => by
    cases b <;> simp only [beqD, Bool.false_eq_true] at h
    rw [beqL_eq h]
  | .lst l, b, h => by
    cases b <;> simp only [beqD, Bool.false_eq_true] at h
    rw [beqL_eq h]
  | .rol l, b, h => by
    cases b <;> simp only [beqD, Bool.false_eq_true] at h
    rw [beqL_eq h]
  | .dct l, b, h => by
    cases b <;> simp only [beqD, Bool.false_eq_true] at h
    rw [beqK_eq h]
theorem beqL_eq : ∀ {a b : List D}, beqL a b = true → a = b
  | [], b, h => by cases b <;> simp_all [beqL]
  | a :: l, b, h => by
    cases b with
    | nil => simp [beqL] at h
    | cons x m =>
      simp only [beqL, Bool.and_eq_true] at h
      rw [beqD_eq h.1, beqL_eq h.2]
theorem beqK_eq : ∀ {a b : List (D × D)}, beqK a b = true → a = b
  | [], b, h => by cases b <;> simp_all [beqK]
  | (a, x) :: l, b, h => by
    cases b with
    | nil => simp [beqK] at h
    | cons y m =>
      obtain ⟨y1, y2⟩ := y
      simp only [beqK, Bool.and_eq_true] at h
      rw [beqD_eq h.1.1, beqD_eq h.1.2, beqK_eq h.2]
end
mutual
theorem beqD_self : ∀ a : D, beqD a a = true
  | .non => rfl
  | .bl a => by simp [beqD]
  | .int a => by simp [beqD]
  | .str a => by simp [beqD]
  | .fn a => by simp [beqD]
  | .tup l => by simp only [beqD]; exact beqL_self l
  | .lst l => by simp only [beqD]; exact beqL_self l
  | .rol l => by simp only [beqD]; exact beqL_self l
  | .dct l => by simp only [beqD]; exact beqK_self l
theorem beqL_self : ∀ a : List D, beqL a a = true
  | [] => rfl
  | a :: l => by simp only [beqL, beqD_self a, beqL_self l, Bool.and_self]
theorem beqK_self : ∀ a : List (D × D), beqK a a = true
  | [] => rfl
  | (a, x) :: l => by simp only [beqK, beqD_self a, beqD_self x, beqK_self l, Bool.and_self]
end
abbrev Gs := List (Nat × D)
def grd (gs : Gs) (env : En) : Bool := gs.all fun g => match env[g.1]? with
  | some (.o d) => beqD g.2 d
  | some (.p d) => beqD g.2 d
  | _ => false
def gOf : R → En → Gs
  | .o i, env => match env[i]? with
    | some (.o d) => [(i, d)]
    | some (.p d) => [(i, d)]
    | _ => []
  | _, _ => []
def lsB (env : En) (i : Nat) : Bool := match env[i]? with
  | some (.o (.lst _)) => true
  | some (.p (.lst _)) => true
  | _ => false
def isMl (m : Ml) (i : Nat) (vs : List D) (env : En) : Option (D × En) := match env[i]? with
  | some (.o (.lst l)) => match mlD m l vs with
    | some (x, l') => some (x, env.set i (.o (.lst l')))
    | none => none
  | some (.p (.lst l)) => match mlD m l vs with
    | some (x, l') => some (x, env.set i (.p (.lst l')))
    | none => none
  | _ => none
def stoD (i : Nat) (ix x : D) (env : En) : Option En := match env[i]?, ix with
  | some (.o (.lst l)), .int j => match ixN l.length j with
    | some k => some (env.set i (.o (.lst (l.set k x))))
    | none => none
  | some (.p (.lst l)), .int j => match ixN l.length j with
    | some k => some (env.set i (.p (.lst (l.set k x))))
    | none => none
  | _, _ => none
def toB : Option (R × En) → Option (Bool × En)
  | some (x, e1) => match rd x e1 with
    | some (.bl b) => some (b, e1)
    | _ => none
  | none => none
section
variable (F : FT) (gl : Str → Option D)
mutual
def ev : Ex → En → Option (R × En)
  | .k d, env => some (.v d, env)
  | .v i, env => match env[i]? with
    | some (.v d) => some (.v d, env)
    | some (.o _) => some (.o i, env)
    | some (.p _) => some (.o i, env)
    | _ => none
  | .g x, env => (gl x).map fun d => (.v d, env)
  | .bin op a b, env => match ev a env with
    | some (x, e1) => match ev b e1 with
      | some (y, e2) => match rd x e2, rd y e2 with
        | some p, some q => (binD op p q).map fun r => (r, e2)
        | _, _ => none
      | none => none
    | none => none
  | .cmp op a b, env => match ev a env with
    | some (x, e1) => match ev b e1 with
      | some (y, e2) => match rd x e2, rd y e2 with
        | some p, some q => (cmpD op p q).map fun r => (.v (.bl r), e2)
        | _, _ => none
      | none => none
    | none => none
  | .cmp2 op op' a b c, env => match ev a env with
    | some (x, e1) => match ev b e1 with
      | some (y, e2) => match rd x e2, rd y e2 with
        | some p, some q => match cmpD op p q with
          | some true => match ev c e2 with
            | some (z, e3) => match rd y e3, rd z e3 with
              | some q', some s => (cmpD op' q' s).map fun r => (.v (.bl r), e3)
              | _, _ => none
            | none => none
          | some false => some (.v (.bl false), e2)
          | none => none
        | _, _ => none
      | none => none
    | none => none
  | .and l, env => evAnd l env
  | .or l, env => evOr l env
  | .not a, env => match ev a env with
    | some (x, e1) => match rd x e1 with
      | some (.bl b) => some (.v (.bl (!b)), e1)
      | _ => none
    | none => none
  | .neg a, env => match ev a env with
    | some (x, e1) => match rd x e1 with
      | some (.int i) => some (.v (.int (-i)), e1)
      | _ => none
    | none => none
  | .ite c a b, env => match toB (ev c env) with
    | some (true, e1) => ev a e1
    | some (false, e1) => ev b e1
    | none => none
  | .tup l, env => match evs l env with
    | some (rs, e1) => match givs rs e1 with
      | some (ds, e2) => (mkT ds).map fun r => (r, e2)
      | none => none
    | none => none
  | .lst l, env => match evs l env with
    | some (rs, e1) => match givs rs e1 with
      | some (ds, e2) => (mkL ds).map fun r => (r, e2)
      | none => none
    | none => none
  | .idx a i, env => match ev a env with
    | some (x, e1) => match ev i e1 with
      | some (y, e2) => match rd x e2, rd y e2 with
        | some p, some q => (idxD p q).map fun r => (.v r, e2)
        | _, _ => none
      | none => none
    | none => none
  | .slc a lo hi, env => match ev a env with
    | some (x, e1) => match evO lo e1 with
      | some (l, e2) => match evO hi e2 with
        | some (h, e3) => match rd x e3 with
          | some p => (slcD p l h).map fun r => (r, e3)
          | none => none
        | none => none
      | none => none
    | none => none
  | .rev a, env => match ev a env with
    | some (x, e1) => match rd x e1 with
      | some (.lst l) => some (.f (.lst l.reverse), e1)
      | _ => none
    | none => none
  | .call f l, env => match evs l env with
    | some (rs, e1) => callR F f rs e1
    | none => none
  | .bi b l, env => match evs l env with
    | some (rs, e1) => match rds rs e1 with
      | some ds => (biD b ds).map fun r => (r, e1)
      | none => none
    | none => none
  | .isi a t, env => match ev a env with
    | some (x, e1) => match rd x e1 with
      | some d => (isTy t d).map fun b => (.v (.bl b), e1)
      | none => none
    | none => none
  | .ml m i l, env => if lsB env i then match evs l env with
    | some (rs, e1) => match givs rs e1 with
      | some (ds, e2) => match isMl m i ds e2 with
        | some (x, e3) => some (.v x, e3)
        | none => none
      | none => none
    | none => none else none
  | .lc e tg it cs own, env => match evI it env with
    | some (ds, gs, e1) => match loopC (fun d e2 => match asgT tg d (wipeE e2 own) with
        | some e3 => match tsts cs e3 with
          | some (true, e4) => match ev e e4 with
            | some (r, e5) => match giv r e5 with
              | some (x, e6) => if grd gs (restE e6 e2 own) then some (some x, restE e6 e2 own) else none
              | none => none
            | none => none
          | some (false, e4) => if grd gs (restE e4 e2 own) then some (none, restE e4 e2 own) else none
          | none => none
        | none => none) ds e1 with
      | some (l, e2) => if l.length ≤ SZ then some (.f (.lst l), e2) else none
      | none => none
    | none => none
def evAnd : List Ex → En → Option (R × En)
  | [], _ => none
  | [a], env => ev a env
  | a :: b :: l, env => match ev a env with
    | some (x, e1) => match rd x e1 with
      | some (.bl true) => evAnd (b :: l) e1
      | some (.bl false) => some (.v (.bl false), e1)
      | _ => none
    | none => none
def evOr : List Ex → En → Option (R × En)
  | [], _ => none
  | [a], env => ev a env
  | a :: b :: l, env => match ev a env with
    | some (x, e1) => match rd x e1 with
      | some (.bl false) => evOr (b :: l) e1
      | some (.bl true) => some (.v (.bl true), e1)
      | _ => none
    | none => none
def evs : List Ex → En → Option (List R × En)
  | [], env => some ([], env)
  | a :: l, env => match ev a env with
    | some (x, e1) => match evs l e1 with
      | some (xs, e2) => some (unf x :: xs, e2)
      | none => none
    | none => none
def evO : Option Ex → En → Option (Option Int × En)
  | none, env => some (none, env)
  | some a, env => match ev a env with
    | some (x, e1) => match rd x e1 with
      | some (.int i) => some (some i, e1)
      | _ => none
    | none => none
def evI : It' → En → Option (List D × Gs × En)
  | .e a, env => match ev a env with
    | some (x, e1) => match rd x e1 with
      | some d => (walkD d).map fun l => (l, gOf x e1, e1)
      | none => none
    | none => none
  | .rg1 a, env => match ev a env with
    | some (x, e1) => match rd x e1 with
      | some (.int j) => if inR j then some (rgD 0 j, [], e1) else none
      | _ => none
    | none => none
  | .rg2 a b, env => match ev a env with
    | some (x, e1) => match ev b e1 with
      | some (y, e2) => match rd x e2, rd y e2 with
        | some (.int i), some (.int j) => if inR i && inR j then some (rgD i j, [], e2) else none
        | _, _ => none
      | none => none
    | none => none
  | .rg3 _ _ _, _ => none
  | .enum a, env => match ev a env with
    | some (x, e1) => match rd x e1 with
      | some (.lst l) => some (enumD 0 l, gOf x e1, e1)
      | some (.tup l) => some (enumD 0 l, gOf x e1, e1)
      | some (.str z) => some (enumD 0 (z.cps.toList.map fun c => .str ⟨#[c]⟩), [], e1)
      | _ => none
    | none => none
  | .zip a b, env => match ev a env with
    | some (x, e1) => match ev b e1 with
      | some (y, e2) => match rd x e2, rd y e2 with
        | some (.lst l), some (.lst m) => some (zipD l m, gOf x e2 ++ gOf y e2, e2)
        | some (.tup l), some (.tup m) => some (zipD l m, gOf x e2 ++ gOf y e2, e2)
        | _, _ => none
      | none => none
    | none => none
def tsts : List Ex → En → Option (Bool × En)
  | [], env => some (true, env)
  | a :: l, env => match toB (ev a env) with
    | some (true, e1) => tsts l e1
    | some (false, e1) => some (false, e1)
    | none => none
termination_by structural x => x
end
end
end PL
set_option maxHeartbeats 4000000
namespace PL
open PySem PySem.Spec L2
/-- what a return hands out -/
def outR : R → En → Option R
  | .v d, _ => some (.v d)
  | .f d, _ => some (.f d)
  | .o i, env => match env[i]? with
    | some (.v d) => some (.v d)
    | some (.o d) => some (.f d)
    | _ => none
def nrm : R → En → Option (R × En)
  | .o i, env => match giv (.o i) env with
    | some (d, e1) => some (.v d, e1)
    | none => none
  | r, env => some (r, env)
def lockE : Gs → En → En
  | [], env => env
  | (i, _) :: r, env => match env[i]? with
    | some (.o x) => (lockE r env).set i (.p x)
    | _ => lockE r env
def unlE (old : En) : Gs → En → En
  | [], env => env
  | (i, _) :: r, env => match old[i]?, env[i]? with
    | some (.o _), some (.p x) => (unlE old r env).set i (.o x)
    | _, _ => unlE old r env
def nrmL : List R → En → Option (List R × En)
  | [], env => some ([], env)
  | r :: rs, env => match nrm r env with
    | some (r', e1) => match nrmL rs e1 with
      | some (rs', e2) => some (r' :: rs', e2)
      | none => none
    | none => none
def asgL : List Nat → List R → En → Option En
  | [], [], env => some env
  | i :: is, r :: rs, env => match asgR i r env with
    | some e1 => asgL is rs e1
    | none => none
  | _, _, _ => none
def grdP (gs : Gs) (env : En) : Bool := gs.all fun g => match env[g.1]? with
  | some (.p d) => beqD g.2 d
  | _ => false
def parB : List Sl → List Sl → Bool
  | [], _ => true
  | .p _ :: r, .p _ :: s => parB r s
  | .p _ :: _, _ => false
  | _ :: r, s => parB r s.tail
abbrev FU : Nat := 1000000000000000000
section
variable (F : FT) (gl : Str → Option D)
def evsF : List Ex → En → Option (List R × En)
  | [], env => some ([], env)
  | a :: l, env => match ev F gl a env with
    | some (x, e1) => match evsF l e1 with
      | some (xs, e2) => some (x :: xs, e2)
      | none => none
    | none => none
mutual
def exS : Sx → En → Option (Fl × En)
  | .asg tg e, env => match ev F gl e env with
    | some (r, e1) => match asg tg r e1 with
      | some e2 => some (.nx, e2)
      | none => none
    | none => none
  | .asc i e, env => match ev F gl e env with
    | some (r, e1) => match asgR i r e1 with
      | some e2 => some (.nx, e2)
      | none => none
    | none => none
  | .par is es, env => match evsF F gl es env with
    | some (rs, e1) => match nrmL rs e1 with
      | some (rs', e2) => match asgL is rs' e2 with
        | some e3 => some (.nx, e3)
        | none => none
      | none => none
    | none => none
  | .sto i ix e, env => match ev F gl e env with
    | some (x, e1) => match giv x e1 with
      | some (d, e2) => if lsB e2 i then match ev F gl ix e2 with
        | some (y, e3) => match rd y e3 with
          | some p => match stoD i p d e3 with
            | some e4 => some (.nx, e4)
            | none => none
          | none => none
        | none => none
        else none
      | none => none
    | none => none
  | .ex e, env => match ev F gl e env with
    | some (_, e1) => some (.nx, e1)
    | none => none
  | .ret e, env => match ev F gl e env with
    | some (r, e1) => match outR r e1 with
      | some x => some (.rt x, e1)
      | none => none
    | none => none
  | .ife c a b, env => match toB (ev F gl c env) with
    | some (true, e1) => exL a e1
    | some (false, e1) => exL b e1
    | none => none
  | .wh c b, env => loopW (fun e1 => toB (ev F gl c e1)) (fun e1 => exL b e1) FU env
  | .fr tg it b, env => match evI F gl it env with
    | some (ds, gs, e1) => match loopF (fun d e2 => match asgT tg d e2 with
        | some e3 => match exL b e3 with
          | some (fl, e4) => if grdP gs e4 then some (fl, e4) else none
          | none => none
        | none => none) ds (lockE gs e1) with
      | some (fl, e5) => some (fl, unlE e1 gs e5)
      | none => none
    | none => none
  | .pas, env => some (.nx, env)
  | .brk, env => some (.bk, env)
  | .con, env => some (.ct, env)
  | .rse, _ => none
def exL : List Sx → En → Option (Fl × En)
  | [], env => some (.nx, env)
  | s :: l, env => match exS s env with
    | some (.nx, e1) => exL l e1
    | some (fl, e1) => some (fl, e1)
    | none => none
end
end
structure Df where
  np : Nat
  nn : Nat
  body : List Sx
def callF (P : List Df) (gl : Str → Option D) : Nat → FT
  | 0, _, _ => none
  | k + 1, f, as => match P[f]? with
    | some df => if as.length = df.np then
        match exL (callF P gl k) gl df.body (as ++ List.replicate (df.nn - df.np) .n) with
        | some (.rt r, env) => if parB as env then some (r, env.take df.np) else none
        | some (.nx, env) => if parB as env then some (.v .non, env.take df.np) else none
        | _ => none
      else none
    | none => none
end PL
set_option maxHeartbeats 4000000
namespace PL
open PySem PySem.Spec L2
/-! ### views of values -/
inductive Vw (C : Ct) (A : Addr → Prop) (H : Hp) : V → D → Prop
  | rp {v : V} {d : D} : Rp C A H v d → Vw C A H v d
  | own {a : Addr} {d : D} : OwnAt C A H a d → Vw C A H (.ref a) d
inductive VwL (C : Ct) (A : Addr → Prop) (H : Hp) : List V → List D → Prop
  | nil : VwL C A H [] []
  | cons {v : V} {vs : List V} {d : D} {ds : List D} : Vw C A H v d → VwL C A H vs ds → VwL C A H (v :: vs) (d :: ds)
section
variable {C : Ct} {A : Addr → Prop} {H : Hp} {v : V}
theorem Vw.int {i : Int} (h : Vw C A H v (.int i)) : v = .int i := by
  rcases h with h | h
  · cases h; rfl
  · cases h
theorem Vw.bl {i : Bool} (h : Vw C A H v (.bl i)) : v = .bl i := by
  rcases h with h | h
  · cases h; rfl
  · cases h
theorem Vw.str {i : Str} (h : Vw C A H v (.str i)) : v = .str i := by
  rcases h with h | h
  · cases h; rfl
  · cases h
theorem Vw.non (h : Vw C A H v .non) : v = .non := by
  rcases h with h | h
  · cases h; rfl
  · cases h
theorem Vw.fn {n : Nat} (h : Vw C A H v (.fn n)) : ∃ a, v = .ref a ∧ C.fa n = some a := by
  rcases h with h | h
  · cases h with | fn e => exact ⟨_, rfl, e⟩
  · cases h
theorem Vw.lst {l : List D} (h : Vw C A H v (.lst l)) : ∃ a vs, v = .ref a ∧ H a = some (.lst vs) ∧ RpL C A H vs l := by
  rcases h with h | h
  · cases h with | lst e n r => exact ⟨_, _, rfl, e, r⟩
  · cases h with | lst e r => exact ⟨_, _, rfl, e, r⟩
theorem KSeq.tup {K : PySem.W.Frag} {a : Addr} {xs : List V} (h : KSeq "tuple" K a xs) : SqT K H a xs := by
  obtain ⟨o, its, n, h1, h2, _, h3, h4, h5⟩ := h
  exact .inr ⟨o, its, n, h1, h2, h3, h4, h5⟩
theorem KSeq.lst {K : PySem.W.Frag} {a : Addr} {xs : List V} (h : KSeq "list" K a xs) : SqL K H a xs := .inr h
theorem Rp.tup' {l : List D} (h : Rp C A H v (.tup l)) : ∃ a vs, v = .ref a ∧ SqT C.K H a vs ∧ RpL C A H vs l := by
  cases h with
  | tup e n r => exact ⟨_, _, rfl, .inl (.inl e), r⟩
  | tupK k r => exact ⟨_, _, rfl, k.tup, r⟩
theorem Vw.tup {l : List D} (h : Vw C A H v (.tup l)) : ∃ a vs, v = .ref a ∧ SqT C.K H a vs ∧ RpL C A H vs l := by
  rcases h with h | h
  · exact h.tup'
  · cases h
theorem Vw.rol {l : List D} (h : Vw C A H v (.rol l)) : ∃ a vs, v = .ref a ∧ SqL C.K H a vs ∧ RpL C A H vs l := by
  rcases h with h | h
  · cases h with
    | rol e n r => exact ⟨_, _, rfl, .inl (.inr ⟨_, e⟩), r⟩
    | rolK k r => exact ⟨_, _, rfl, k.lst, r⟩
  · cases h
theorem Vw.dct {l : List (D × D)} (h : Vw C A H v (.dct l)) : ∃ a, v = .ref a ∧ ((∃ kvs, H a = some (.dK kvs) ∧ RpK C A H kvs l) ∨ ∃ kvs, H a = some (.dT kvs) ∧ RpT C A H kvs l) := by
  rcases h with h | h
  · cases h with
    | dK e n r => exact ⟨_, rfl, .inl ⟨_, e, r⟩⟩
    | dT e n r => exact ⟨_, rfl, .inr ⟨_, e, r⟩⟩
  · cases h with
    | dK e r => exact ⟨_, rfl, .inl ⟨_, e, r⟩⟩
    | dT e r => exact ⟨_, rfl, .inr ⟨_, e, r⟩⟩
theorem Vw.rp0 {d : D} (h : Vw C A H v d) : Rp C NoA H v d := by
  rcases h with h | h
  · exact h.mv .noA
  · exact h.rp
theorem RpK.length : ∀ {vs : List (Key × V)} {ds : List (D × D)}, RpK C A H vs ds → vs.length = ds.length
  | _, _, .nil => rfl
  | _, _, .cons _ r => by simp [RpK.length r]
theorem RpT.length : ∀ {vs : List (List Key × V)} {ds : List (D × D)}, RpT C A H vs ds → vs.length = ds.length
  | _, _, .nil => rfl
  | _, _, .cons _ r => by simp [RpT.length r]
mutual
theorem Rp.dp : ∀ {n : Nat} {d : D} {v : V}, okE n d = true → Rp C A H v d → Dp C.K H v (py d)
  | _, _, _, _, .non => .non
  | _, _, _, _, .bl b => .bl b
  | _, _, _, _, .int i => .int i
  | _, _, _, _, .str x => .str x
  | n, _, _, o, .tup e k r => by
    cases n with
    | zero => simp [okE] at o
    | succ n =>
      simp only [okE] at o
      simp only [py]
      exact .tup (.inl (.inl e)) (RpL.dp (n := n) (fun x hx => List.all_eq_true.mp o x hx) r)
  | n, _, _, o, .tupK k r => by
    cases n with
    | zero => simp [okE] at o
    | succ n =>
      simp only [okE] at o
      simp only [py]
      exact .tup k.tup (RpL.dp (n := n) (fun x hx => List.all_eq_true.mp o x hx) r)
  | n, _, _, o, .lst e k r => by
    cases n with
    | zero => simp [okE] at o
    | succ n =>
      simp only [okE] at o
      simp only [py]
      exact .lst (.inl (.inl e)) (RpL.dp (n := n) (fun x hx => List.all_eq_true.mp o x hx) r)
  | n, _, _, o, .rol _ _ _ => by cases n <;> simp [okE] at o
  | n, _, _, o, .rolK _ _ => by cases n <;> simp [okE] at o
  | n, _, _, o, .dK _ _ _ => by cases n <;> simp [okE] at o
  | n, _, _, o, .dT _ _ _ => by cases n <;> simp [okE] at o
  | n, _, _, o, .fn _ => by cases n <;> simp [okE] at o
theorem RpL.dp : ∀ {n : Nat} {d : List D} {v : List V}, (∀ x ∈ d, okE n x = true) → RpL C A H v d → DpAll C.K H v (pyL d)
  | _, _, _, _, .nil => by simp only [pyL]; exact .nil
  | n, _, _, o, .cons h r => by
    simp only [pyL]
    exact .cons (Rp.dp (n := n) (o _ List.mem_cons_self) h) (RpL.dp (n := n) (fun x hx => o x (List.mem_cons_of_mem _ hx)) r)
end
mutual
theorem okE_lay : ∀ {n : Nat} (d : D), okE n d = true → (py d).canLay0 = true ∧ (py d).depth ≤ n
  | _, .non, _ => by simp [py, PyData.canLay0, PyData.depth]
  | _, .bl _, _ => by simp [py, PyData.canLay0, PyData.depth]
  | _, .int _, _ => by simp [py, PyData.canLay0, PyData.depth]
  | n, .str x, h => by
    have h' : PyData.strOk x = true := by cases n <;> simpa [okE] using h
    simp [py, PyData.canLay0, PyData.depth, h']
  | 0, .tup l, h => by simp [okE] at h
  | 0, .lst l, h => by simp [okE] at h
  | n + 1, .tup l, h => by
    simp only [okE] at h
    obtain ⟨h1, h2⟩ := okE_layL (n := n) l fun x hx => List.all_eq_true.mp h x hx
    simp only [py, PyData.canLay0, PyData.depth]
    exact ⟨h1, by omega⟩
  | n + 1, .lst l, h => by
    simp only [okE] at h
    obtain ⟨h1, h2⟩ := okE_layL (n := n) l fun x hx => List.all_eq_true.mp h x hx
    simp only [py, PyData.canLay0, PyData.depth]
    exact ⟨h1, by omega⟩
  | n, .rol l, h => by cases n <;> simp [okE] at h
  | n, .dct l, h => by cases n <;> simp [okE] at h
  | n, .fn l, h => by cases n <;> simp [okE] at h
theorem okE_layL : ∀ {n : Nat} (l : List D), (∀ x ∈ l, okE n x = true) → PyData.canLayAll0 (pyL l) = true ∧ PyData.depthAll (pyL l) ≤ n
  | _, [], _ => by simp [pyL, PyData.canLayAll0, PyData.depthAll]
  | n, d :: r, h => by
    obtain ⟨h1, h2⟩ := okE_lay (n := n) d (h d List.mem_cons_self)
    obtain ⟨h3, h4⟩ := okE_layL (n := n) r fun x hx => h x (List.mem_cons_of_mem _ hx)
    simp only [pyL, PyData.canLayAll0, PyData.depthAll, h1, h3, Bool.and_self, true_and]
    omega
end
theorem okE_shaped {d : D} (h : okE LV d = true) : SeqAt.shaped (py d) = true := by
  obtain ⟨h1, h2⟩ := okE_lay d h
  unfold SeqAt.shaped
  rw [h1, decide_eq_true (show (py d).depth ≤ 64 by unfold LV at h2; omega)]
  rfl
end
mutual
theorem py_eqv : ∀ {n : Nat} {a b : D}, okE n a = true → okE n b = true → PyData.eqv (py a) (py b) = eqv a b
  | n, a, b, ha, hb => by
    cases a with
    | tup l =>
      cases n with
      | zero => simp [okE] at ha
      | succ n =>
        simp only [okE] at ha
        cases b with
        | tup m =>
          simp only [okE] at hb
          simp only [py, PyData.eqv, eqv]
          exact py_eqvL (n := n) (fun x hx => List.all_eq_true.mp ha x hx) (fun x hx => List.all_eq_true.mp hb x hx)
        | rol l => simp [okE] at hb
        | dct l => simp [okE] at hb
        | fn l => simp [okE] at hb
        | _ => simp [py, PyData.eqv, eqv]
    | lst l =>
      cases n with
      | zero => simp [okE] at ha
      | succ n =>
        simp only [okE] at ha
        cases b with
        | lst m =>
          simp only [okE] at hb
          simp only [py, PyData.eqv, eqv]
          exact py_eqvL (n := n) (fun x hx => List.all_eq_true.mp ha x hx) (fun x hx => List.all_eq_true.mp hb x hx)
        | rol l => simp [okE] at hb
        | dct l => simp [okE] at hb
        | fn l => simp [okE] at hb
        | _ => simp [py, PyData.eqv, eqv]
    | rol l => cases n <;> simp [okE] at ha
    | dct l => cases n <;> simp [okE] at ha
    | fn l => cases n <;> simp [okE] at ha
    | _ =>
      cases b with
      | rol l => cases n <;> simp [okE] at hb
      | dct l => cases n <;> simp [okE] at hb
      | fn l => cases n <;> simp [okE] at hb
      | _ => simp [py, PyData.eqv, eqv]
theorem py_eqvL : ∀ {n : Nat} {a b : List D}, (∀ x ∈ a, okE n x = true) → (∀ x ∈ b, okE n x = true) → PyData.eqvAll (pyL a) (pyL b) = eqvL a b
  | _, [], [], _, _ => by simp [pyL, PyData.eqvAll, eqvL]
  | _, [], _ :: _, _, _ => by simp [pyL, PyData.eqvAll, eqvL]
  | _, _ :: _, [], _, _ => by simp [pyL, PyData.eqvAll, eqvL]
  | n, a :: l, b :: m, ha, hb => by
    simp only [pyL, PyData.eqvAll, eqvL]
    rw [py_eqv (n := n) (ha a List.mem_cons_self) (hb b List.mem_cons_self), py_eqvL (n := n) (fun x hx => ha x (List.mem_cons_of_mem _ hx)) fun x hx => hb x (List.mem_cons_of_mem _ hx)]
end
end PL
set_option maxHeartbeats 4000000
namespace PL
open PySem PySem.Spec PyProof.Rows L2
theorem tup_same (l : Addr) (items : Array Value) (n : Nat) (dd : Option Addr) (sl : Array (Option Value)) (x : Int) (u : Tok) (c0 : (decide (x < -(2 ^ 63)) || decide (x ≥ 2 ^ 63)) = false) (c1 : (items.isEmpty || x == 1) = true) :
    Meets (Builtin.«tuple.__mul__» ⟨[.ref l, .int x u], []⟩) (fun _ R s => s.heap.get? l = some { cls := .type "tuple", dict := dd, data := .seq items n, slots := sl } ∧ R (.ok (.ret (Value.ref l))) s) :=
  .of_wp fun prog w A R s h => by
    obtain ⟨hp, g, d, tk, os⟩ := s
    obtain ⟨hl, h⟩ := h
    have f1 := AutoSeq1.idx_int
    wp_walk using wpAny_loadPart' hl
    repeat (first
      | (refine wpAny_ite_false (decide_eq_false (by rw [c0]; exact Bool.false_ne_true)) ?_; wp_walk using wpAny_loadPart' hl)
      | (refine wpAny_ite_true (decide_eq_true c1) ?_; wp_walk using wpAny_loadPart' hl))
    exact ⟨_, rfl, h⟩
theorem tup_none (l : Addr) (items : Array Value) (n : Nat) (dd : Option Addr) (sl : Array (Option Value)) (x : Int) (u : Tok) (c0 : (decide (x < -(2 ^ 63)) || decide (x ≥ 2 ^ 63)) = false) (c1 : (items.isEmpty || x == 1) = false)
    (c2 : (decide (x ≤ 0) || items.isEmpty) = true) :
    Meets (Builtin.«tuple.__mul__» ⟨[.ref l, .int x u], []⟩) (fun _ R s => s.heap.get? l = some { cls := .type "tuple", dict := dd, data := .seq items n, slots := sl } ∧
      R (.ok (.ret (Value.ref s.heap.objs.size))) { s with heap := s.heap.push { cls := Value.type "tuple", data := Data.seq #[] }, toks := s.toks }) :=
  .of_wp fun prog w A R s h => by
    obtain ⟨hp, g, d, tk, os⟩ := s
    obtain ⟨hl, h⟩ := h
    have f1 := AutoSeq1.idx_int
    wp_walk using wpAny_loadPart' hl
    repeat (first
      | (refine wpAny_ite_false (decide_eq_false (by rw [c0]; exact Bool.false_ne_true)) ?_; wp_walk using wpAny_loadPart' hl)
      | (refine wpAny_ite_false (decide_eq_false (by rw [c1]; exact Bool.false_ne_true)) ?_; wp_walk using wpAny_loadPart' hl)
      | (refine wpAny_ite_true (decide_eq_true c2) ?_; wp_walk using wpAny_loadPart' hl))
    exact ⟨_, rfl, h⟩
/-- a tuple that is not copied, or an empty one -/
def rMulT (K : PySem.W.Frag) : R2 := fun x y H Q => ∃ l k xs, x = .ref l ∧ y = .int k ∧ SqT K H l xs ∧ -(2 ^ 63) ≤ k ∧ k < 2 ^ 63 ∧ (((xs = [] ∨ k = 1) ∧ Q (.ref l) H) ∨ (xs ≠ [] ∧ k ≤ 0 ∧ ∀ p, H p = none → Q (.ref p) (upd H p (.tup []))))
theorem op_mulT {X : Cx} : OpR X (binaryOp .Mult) (rMulT X.K) := by
  intro pins s σ H x y v u Q I rx ry h
  obtain ⟨l, k, xs, rfl, rfl, hT, h1, h2, h⟩ := h
  cases rx
  obtain ⟨t, rfl⟩ := ry
  obtain ⟨its, r, ⟨⟨cls, dd, data, sl⟩, ho, hc, n, hd⟩, hs⟩ := I.tuple hT
  simp only at hc hd
  subst hc hd
  have hle : its.length = xs.length := r.length.symm
  have c0 : (decide (k < -(2 ^ 63)) || decide (k ≥ 2 ^ 63)) = false := by
    rw [decide_eq_false (by omega), decide_eq_false (by omega)] <;> rfl
  rcases h with ⟨hz, q⟩ | ⟨hz, hk, q⟩
  · have c1 : (its.toArray.isEmpty || k == 1) = true := by
      rcases hz with hz | hz
      · subst hz
        have : its = [] := List.eq_nil_of_length_eq_zero hle
        rw [this]; rfl
      · rw [hz]; simp
    refine wpAny_binaryOp_repeat_ref (T := "tuple") (U := "int") (by decide) ⟨_, ho, rfl⟩ (fun s' => typeIs_int s' k t) noFill_tuple_mul F.fills_int_mul F.slot_int_rmul repeat_tuple F.slot_int_index.lookup
      (call_meets F.slot_int_rmul (typeIs_int s k t) F.entry_int_rmul (F.args_int_rmul_2 _ _) (int_rmul_tuple k t l its.toArray n dd sl)
        ⟨ho, rfl, ⟨_, ho, rfl⟩, call_meets F.slot_tuple_mul ⟨_, ho, rfl⟩ F.entry_tuple_mul (F.args_tuple_mul_2 _ _) (tup_same l its.toArray n dd sl k t c0 c1) ⟨ho, ?_⟩⟩)
    exact ⟨.ref l, H, I, rfl, q⟩
  · have hi : its.toArray.isEmpty = false := by
      cases its with
      | nil => exact absurd (List.eq_nil_of_length_eq_zero hle.symm) hz
      | cons a b => rfl
    have c1 : (its.toArray.isEmpty || k == 1) = false := by
      rw [hi, Bool.false_or]
      exact beq_eq_false_iff_ne.mpr (by omega)
    have c2 : (decide (k ≤ 0) || its.toArray.isEmpty) = true := by
      rw [decide_eq_true hk]
      rfl
    refine wpAny_binaryOp_repeat_ref (T := "tuple") (U := "int") (by decide) ⟨_, ho, rfl⟩ (fun s' => typeIs_int s' k t) noFill_tuple_mul F.fills_int_mul F.slot_int_rmul repeat_tuple F.slot_int_index.lookup
      (call_meets F.slot_int_rmul (typeIs_int s k t) F.entry_int_rmul (F.args_int_rmul_2 _ _) (int_rmul_tuple k t l its.toArray n dd sl)
        ⟨ho, rfl, ⟨_, ho, rfl⟩, call_meets F.slot_tuple_mul ⟨_, ho, rfl⟩ F.entry_tuple_mul (F.args_tuple_mul_2 _ _) (tup_none l its.toArray n dd sl k t c0 c1 c2) ⟨ho, ?_⟩⟩)
    refine ⟨.ref s.heap.objs.size, _, I.laid (t' := s.toks) (o := .tup []) (fun b ob q => Heap.get?_push_of_some _ q) (Nat.le_refl _) ?_, rfl, q _ (I.hok.fresh (Nat.le_refl _))⟩
    exact ⟨Nat.zero_le _, [], .nil, IsTup.new _ _⟩
/-- a text, some times -/
theorem foldl_cps (its : List Nat) : ∀ (k : Nat) (acc : List Nat), List.foldl (fun x1 x2 => x1 ++ x2) acc.toArray (List.replicate k its.toArray) = (acc ++ (List.replicate k its).flatten).toArray
  | 0, acc => by simp
  | k + 1, acc => by
    have e : acc.toArray ++ its.toArray = (acc ++ its).toArray := by simp
    rw [List.replicate_succ, List.foldl_cons, e, foldl_cps its k]
    simp [List.replicate_succ]
def rMulS : R2 := fun x y H Q => ∃ a k, x = .str a ∧ y = .int k ∧ -(2 ^ 63) ≤ k ∧ k < 2 ^ 63 ∧ a.length * k.toNat ≤ sizeLine ∧ Q (.str (mulS a k.toNat)) H
theorem op_mulS {X : Cx} : OpR X (binaryOp .Mult) rMulS := by
  intro pins s σ H x y v u Q I rx ry h
  obtain ⟨a, k, rfl, rfl, h1, h2, h3, q⟩ := h
  obtain ⟨t, rfl⟩ := rx
  obtain ⟨t', rfl⟩ := ry
  have c0 : (decide (k < -(2 ^ 63 : Int)) || decide (k ≥ 2 ^ 63)) = false := by
    rw [decide_eq_false (by omega), decide_eq_false (by omega)] <;> rfl
  have hsz := sizeLine_eq
  refine P.mul_str c0 (fun n1 n2 => ?_) (fun n1 n2 => ?_) ?_
  · have hk : (1 : Int) ≤ k := by omega
    have ha : a.length ≠ 0 := fun z => by simp [z] at n2
    have e : ((k.toNat : Nat) : Int) = k := Int.toNat_of_nonneg (by omega)
    have h4 : (a.length : Int) * k ≤ 16777216 := by
      rw [← e]
      have : ((a.length * k.toNat : Nat) : Int) ≤ ((16777216 : Nat) : Int) := Int.ofNat_le.mpr (by omega)
      simpa using this
    have : (a.length : Int) ≤ (2 ^ 63 - 1) / k := (Int.le_ediv_iff_mul_le (by omega)).mpr (by omega)
    omega
  · unfold Builtin.Str.tooLong
    exact decide_eq_false (by omega)
  · have em : ∀ {n : Nat}, a.length = 0 → mulS a n = a := fun {n} z => by
      have hc : a.cps.toList = [] := List.eq_nil_of_length_eq_zero (by simpa [Str.length] using z)
      unfold mulS
      rw [hc]
      have : (List.replicate n ([] : List Nat)).flatten = [] := by simp
      rw [this]
      have : a.cps = #[] := Array.eq_empty_of_size_eq_zero (by simpa [Str.length] using z)
      cases a
      simp_all
    by_cases n1 : k < 1
    · rw [if_pos n1]
      have : k.toNat = 0 := by omega
      rw [this] at q
      exact ⟨by decide, .str _, H, I.tok _, ⟨_, rfl⟩, q⟩
    · rw [if_neg n1]
      by_cases n2 : (k == 1 || a.length == 0) = true
      · rw [if_pos n2]
        have : mulS a k.toNat = a := by
          by_cases z : a.length = 0
          · exact em z
          · have k1 : k = 1 := by simpa [z] using n2
            rw [k1]
            show mulS a 1 = a
            unfold mulS
            simp
        rw [this] at q
        exact ⟨.str _, H, I, ⟨_, rfl⟩, q⟩
      · rw [if_neg n2]
        have : (⟨(List.replicate k.toNat a.cps).foldl (· ++ ·) #[]⟩ : Str) = mulS a k.toNat := by
          have := foldl_cps a.cps.toList k.toNat []
          unfold mulS
          simpa using this
        rw [this]
        refine ⟨?_, .str _, H, I.tok _, ⟨_, rfl⟩, q⟩
        show (mulS a k.toNat).cps.size ≤ sizeLine
        unfold mulS
        simp only [List.size_toArray, List.length_flatten, List.map_replicate, List.sum_replicate_nat, Array.length_toList]
        have : a.cps.size = a.length := rfl
        rw [this, Nat.mul_comm]
        exact h3
end PL
set_option maxHeartbeats 4000000
namespace PL
open PySem PySem.Spec L2
def Out (C : Ct) (A : Addr → Prop) (H : Hp) (r : R) (Q : VK) : Prop := match r with
  | .v d => ∀ v H', Same H H' → Rp C A H' v d → Q v H'
  | .f d => ∀ p o, H p = none → OwnAt C (Plus A p) (upd H p o) p d → Q (.ref p) (upd H p o)
  | .o _ => True
abbrev Dom (A : Addr → Prop) (H : Hp) : Prop := ∀ a, A a → H a ≠ none
section
variable {C : Ct} {A : Addr → Prop} {H : Hp} {Q : VK}
theorem Out.sc {v : V} {d : D} (h : Out C A H (.v d) Q) (r : Rp C A H v d) : Q v H := h v H (Same.refl H) r
theorem Dom.not (dm : Dom A H) {p : Addr} (hp : H p = none) : ¬ A p := fun z => dm p z hp
theorem mv_upd (dm : Dom A H) {p : Addr} {o : HO} (hp : H p = none) : Mv A A H (upd H p o) := ⟨fun b x e _ => same_upd hp b x e, fun _ z => .inl z⟩
theorem mv_plus (dm : Dom A H) {p : Addr} {o : HO} (hp : H p = none) : Mv A (Plus A p) H (upd H p o) := ⟨fun b x e _ => same_upd hp b x e, fun b z => z.elim .inl fun q => .inr (q ▸ hp)⟩
theorem Out.tup {vs : List V} {ds : List D} (h : Out C A H (.v (.tup ds)) Q) (dm : Dom A H) (r : RpL C A H vs ds) {p : Addr} (hp : H p = none) : Q (.ref p) (upd H p (.tup vs)) :=
  h _ _ (same_upd hp) (.tup upd_same (dm.not hp) (r.mv (mv_upd dm hp)))
theorem Out.lst {vs : List V} {ds : List D} (h : Out C A H (.f (.lst ds)) Q) (dm : Dom A H) (r : RpL C A H vs ds) {p : Addr} (hp : H p = none) : Q (.ref p) (upd H p (.lst vs)) :=
  h p _ hp (.lst upd_same (r.mv (mv_plus dm hp)))
end
def opOf : Bop → Operator
  | .add => .Add | .sub => .Sub | .mul => .Mult | .div => .FloorDiv | .mod => .Mod | .pow => .Pow
def copOf : Cop → CmpOp
  | .lt => .Lt | .le => .LtE | .gt => .Gt | .ge => .GtE | .eq => .Eq | .ne => .NotEq | .isIn => .In | .notIn => .NotIn | .is => .Is | .isNot => .IsNot
def rBin (C : Ct) (op : Bop) : R2 := fun x y H Q => ∃ A p q r, Dom A H ∧ Vw C A H x p ∧ Vw C A H y q ∧ binD op p q = some r ∧ Out C A H r Q
theorem SZ_eq : sizeLine = SZ := sizeLine_eq
theorem sz_le {n : Nat} (h : n ≤ SZ) : n ≤ sizeLine := by rw [SZ_eq]; exact h
theorem RpL.flat {C : Ct} {A : Addr → Prop} {H : Hp} {vs : List V} {ds : List D} (h : RpL C A H vs ds) : ∀ n, RpL C A H (List.replicate n vs).flatten (List.replicate n ds).flatten
  | 0 => .nil
  | n + 1 => by
    rw [List.replicate_succ, List.replicate_succ, List.flatten_cons, List.flatten_cons]
    exact h.append (RpL.flat h n)
section
variable {X : Cx} {fa : Nat → Option Addr}
theorem opBin (op : Bop) : OpR X (binaryOp (opOf op)) (rBin ⟨X.K, fa⟩ op) := by
  intro pins s σ H x y v u Q I rx ry h
  obtain ⟨A, p, q, r, dm, vx, vy, e, o⟩ := h
  unfold binD at e
  split at e
  · cases e; cases vx.int; cases vy.int
    exact op_add pins s σ H _ _ v u Q I rx ry ⟨_, _, rfl, rfl, o.sc (.int _)⟩
  · rename_i a b
    split at e
    · rename_i hz
      cases e; cases vx.str; cases vy.str
      exact op_add_str pins s σ H _ _ v u Q I rx ry ⟨_, _, rfl, rfl, sz_le hz, o.sc (.str _)⟩
    · cases e
  · rename_i a b
    unfold mkT at e
    split at e
    · rename_i hz
      cases e
      obtain ⟨pa, vs, rfl, hs, ra⟩ := vx.tup
      obtain ⟨pb, ws, rfl, ht, rb⟩ := vy.tup
      have hl : vs.length + ws.length ≤ sizeLine := sz_le (by rw [ra.length, rb.length, ← List.length_append]; exact hz)
      refine op_catA pins s σ H _ _ v u Q I rx ry ⟨pa, pb, vs, ws, rfl, rfl, hs, ht, hl, fun z => ?_, fun _ z => ?_, fun _ _ p hp => o.tup dm (ra.append rb) hp⟩
      · subst z
        cases ra
        refine o.sc ?_
        rcases vy with vy | vy
        · exact vy
        · cases vy
      · subst z
        cases rb
        refine o.sc ?_
        rw [List.append_nil]
        rcases vx with vx | vx
        · exact vx
        · cases vx
    · cases e
  · rename_i a b
    unfold mkL at e
    split at e
    · rename_i hz
      cases e
      obtain ⟨pa, vs, rfl, hs, ra⟩ := vx.lst
      obtain ⟨pb, ws, rfl, ht, rb⟩ := vy.lst
      have hl : vs.length + ws.length ≤ sizeLine := sz_le (by rw [ra.length, rb.length, ← List.length_append]; exact hz)
      exact op_cat pins s σ H _ _ v u Q I rx ry ⟨pa, pb, vs, ws, rfl, rfl, hs, ht, hl, fun p hp => o.lst dm (ra.append rb) hp⟩
    · cases e
  · cases e; cases vx.int; cases vy.int
    exact op_sub pins s σ H _ _ v u Q I rx ry ⟨_, _, rfl, rfl, o.sc (.int _)⟩
  · split at e
    · rename_i hz
      cases e; cases vx.int; cases vy.int
      exact op_mulW pins s σ H _ _ v u Q I rx ry ⟨_, _, rfl, rfl, hz, o.sc (.int _)⟩
    · cases e
  · rename_i l k
    split at e
    · rename_i hz
      obtain ⟨h1, h2, h3⟩ := hz
      cases e; cases vy.int
      obtain ⟨pa, vs, rfl, hs, ra⟩ := vx.lst
      exact op_rep pins s σ H _ _ v u Q I rx ry ⟨pa, k, vs, rfl, rfl, hs, h1, h2, sz_le (by rw [ra.length]; exact h3), fun p hp => o.lst dm (ra.flat _) hp⟩
    · cases e
  · rename_i l k
    split at e
    · rename_i hz
      obtain ⟨h1, h2, h3⟩ := hz
      cases e; cases vy.int
      obtain ⟨pa, vs, rfl, hs, ra⟩ := vx.tup
      have hvl := ra.length
      by_cases hsame : vs = [] ∨ k = 1
      · refine op_mulT pins s σ H _ _ v u Q I rx ry ⟨pa, k, vs, rfl, rfl, hs, h1, h2, .inl ⟨hsame, o.sc ?_⟩⟩
        have e : (List.replicate k.toNat l).flatten = l := by
          rcases hsame with z | z
          · subst z
            cases ra
            simp
          · rw [z]
            show (List.replicate 1 l).flatten = l
            simp
        rw [e]
        cases vx with
        | rp h => exact h
        | own h => cases h
      · rw [not_or] at hsame
        by_cases hk : k ≤ 0
        · refine op_mulT pins s σ H _ _ v u Q I rx ry ⟨pa, k, vs, rfl, rfl, hs, h1, h2, .inr ⟨hsame.1, hk, fun p hp => ?_⟩⟩
          have e : (List.replicate k.toNat l).flatten = [] := by
            have : k.toNat = 0 := by omega
            rw [this]; rfl
          rw [e] at o
          exact o.tup dm .nil hp
        · have hl0 : vs.length ≠ 0 := fun z => hsame.1 (List.eq_nil_of_length_eq_zero z)
          have h4 : k ≤ 1000 ∧ l.length ≤ 1000 := by
            rcases h3 with z | z | z
            · omega
            · have := hsame.2; omega
            · exact z
          exact op_repT pins s σ H _ _ v u Q I rx ry ⟨pa, k, vs, rfl, rfl, hs, hsame.1, by have := hsame.2; omega, h4.1, by omega, fun p hp => o.tup dm (ra.flat _) hp⟩
    · cases e
  · rename_i a k
    split at e
    · rename_i hz
      cases e; cases vx.str; cases vy.int
      exact op_mulS pins s σ H _ _ v u Q I rx ry ⟨_, _, rfl, rfl, hz.1, hz.2.1, sz_le hz.2.2, o.sc (.str _)⟩
    · cases e
  · split at e
    · rename_i hz
      cases e; cases vx.int; cases vy.int
      exact op_fdivW pins s σ H _ _ v u Q I rx ry ⟨_, _, rfl, rfl, hz, o.sc (.int _)⟩
    · cases e
  · split at e
    · rename_i hz
      cases e; cases vx.int; cases vy.int
      exact op_mod pins s σ H _ _ v u Q I rx ry ⟨_, _, rfl, rfl, hz, o.sc (.int _)⟩
    · cases e
  · split at e
    · rename_i hz
      cases e; cases vx.int; cases vy.int
      exact op_pow pins s σ H _ _ v u Q I rx ry ⟨_, _, rfl, rfl, hz, o.sc (.int _)⟩
    · cases e
  · cases e
/-! ### comparisons -/
def rCmp (C : Ct) (op : Cop) : R2 := fun x y H Q => ∃ A p q r, Vw C A H x p ∧ Vw C A H y q ∧ cmpD op p q = some r ∧ Q (.bl r) H
theorem Vw.dp {C : Ct} {A : Addr → Prop} {H : Hp} {v : V} {d : D} (h : Vw C A H v d) (o : okE LV d = true) : Dp C.K H v (py d) := h.rp0.dp o
theorem pyL_any {n : Nat} {a : D} (ha : okE n a = true) : ∀ {l : List D}, (∀ x ∈ l, okE n x = true) → (pyL l).any (fun z => PyData.eqv z (py a)) = l.any fun z => eqv z a
  | [], _ => by simp [pyL]
  | d :: r, h => by
    simp only [pyL, List.any_cons]
    rw [py_eqv (n := n) (h d List.mem_cons_self) ha, pyL_any ha fun x hx => h x (List.mem_cons_of_mem _ hx)]
theorem okE_up : ∀ {n : Nat} {d : D}, okE n d = true → okE (n + 1) d = true := by
  intro n
  induction n with
  | zero =>
    intro d h
    cases d <;> simp_all [okE]
  | succ n ih =>
    intro d h
    cases d with
    | tup l =>
      simp only [okE, List.all_eq_true] at h ⊢
      exact fun x hx => ih (h x hx)
    | lst l =>
      simp only [okE, List.all_eq_true] at h ⊢
      exact fun x hx => ih (h x hx)
    | _ => simp_all [okE]
theorem okE_items {l : List D} (h : okE LV (.lst l) = true) : ∀ x ∈ l, okE LV x = true := fun x hx => okE_up (n := 8) (List.all_eq_true.mp (by simpa only [okE] using h) x hx)
theorem okE_itemsT {l : List D} (h : okE LV (.tup l) = true) : ∀ x ∈ l, okE LV x = true := fun x hx => okE_up (n := 8) (List.all_eq_true.mp (by simpa only [okE] using h) x hx)
theorem canLay_mem : ∀ {l : List PyData}, PyData.canLayAll0 l = true → ∀ x ∈ l, x.canLay0 = true := fun {l} h x hx => PyData.canLay0_of_mem l x h hx
end
end PL
set_option maxHeartbeats 4000000
namespace PL
open PySem PySem.Spec L2
section
variable {X : Cx} {fa : Nat → Option Addr}
theorem room_in {a : D} {l : List PyData} {A : Around} (ha : (py a).depth ≤ 64) (hu : A.units + 66 < cLine) : A.units + 1 + min (PyData.depthAll l) (py a).depth < cLine := by
  have : min (PyData.depthAll l) (py a).depth ≤ (py a).depth := Nat.min_le_right _ _
  omega
theorem signOf_eq {a : Str} {c : Nat} (h : signOf a = some c) : a = ⟨#[c]⟩ := by
  unfold signOf at h
  split at h
  · rename_i c' e
    cases h
    obtain ⟨cps⟩ := a
    obtain ⟨l⟩ := cps
    simp only at e
    subst e
    rfl
  · cases h
theorem opCmp (hu : X.A.units + 66 < cLine) (op : Cop) : OpR X (compareOp (copOf op)) (rCmp ⟨X.K, fa⟩ op) := by
  intro pins s σ H x y v u Q I rx ry h
  obtain ⟨A, p, q, r, vx, vy, e, o⟩ := h
  unfold cmpD at e
  split at e
  · cases e; cases vx.int; cases vy.int
    exact op_lt pins s σ H _ _ v u Q I rx ry ⟨_, _, rfl, rfl, o⟩
  · cases e; cases vx.int; cases vy.int
    exact op_le pins s σ H _ _ v u Q I rx ry ⟨_, _, rfl, rfl, o⟩
  · cases e; cases vx.int; cases vy.int
    exact op_gt pins s σ H _ _ v u Q I rx ry ⟨_, _, rfl, rfl, o⟩
  · cases e; cases vx.int; cases vy.int
    exact op_ge pins s σ H _ _ v u Q I rx ry ⟨_, _, rfl, rfl, o⟩
  · cases e; cases vx.str; cases vy.str
    exact op_lt_str pins s σ H _ _ v u Q I rx ry ⟨_, _, rfl, rfl, o⟩
  · rename_i a b
    cases e; cases vx.str; cases vy.str
    refine op_eq pins s σ H _ _ v u Q I rx ry ⟨rfl, ?_⟩
    have e : decide (V.str a = V.str b) = decide (a = b) := by rw [Bool.eq_iff_iff]; simp
    rw [e]
    exact o
  · rename_i a b
    cases e; cases vx.str; cases vy.str
    refine op_ne pins s σ H _ _ v u Q I rx ry ⟨rfl, ?_⟩
    have e : decide (V.str a = V.str b) = decide (a = b) := by rw [Bool.eq_iff_iff]; simp
    rw [e]
    exact o
  · unfold eqD at e
    split at e
    · rename_i hz
      simp only [Bool.and_eq_true] at hz
      cases e
      refine op_eqD (by omega) pins s σ H _ _ v u Q I rx ry ⟨_, _, vx.dp hz.1, vy.dp hz.2, okE_shaped hz.1, okE_shaped hz.2, ?_⟩
      rw [py_eqv hz.1 hz.2]
      exact o
    · cases e
  · unfold eqD at e
    split at e
    · rename_i hz
      simp only [Bool.and_eq_true] at hz
      cases e
      refine op_neD (by omega) pins s σ H _ _ v u Q I rx ry ⟨_, _, vx.dp hz.1, vy.dp hz.2, okE_shaped hz.1, okE_shaped hz.2, ?_⟩
      rw [py_eqv hz.1 hz.2]
      exact o
    · cases e
  · rename_i a b
    cases hs : signOf a with
    | none => rw [hs] at e; cases e
    | some c =>
      rw [hs] at e; cases e
      cases vx.str; cases vy.str
      exact op_in_sign pins s σ H _ _ v u Q I rx ry ⟨c, b, by rw [signOf_eq hs], rfl, o⟩
  · rename_i a b
    cases hs : signOf a with
    | none => rw [hs] at e; cases e
    | some c =>
      rw [hs] at e; cases e
      cases vx.str; cases vy.str
      exact op_notIn_sign pins s σ H _ _ v u Q I rx ry ⟨c, b, by rw [signOf_eq hs], rfl, o⟩
  · rename_i l
    split at e
    · rename_i hz
      simp only [Bool.and_eq_true] at hz
      cases e
      refine op_inD (by omega) pins s σ H _ _ v u Q I rx ry ⟨_, pyL l, vx.dp hz.1, vy.dp hz.2, okE_shaped hz.1, okE_shaped hz.2, ?_⟩
      rw [pyL_any hz.1 (okE_items hz.2)]
      exact o
    · cases e
  · rename_i l
    split at e
    · rename_i hz
      simp only [Bool.and_eq_true] at hz
      cases e
      refine op_notInD (by omega) pins s σ H _ _ v u Q I rx ry ⟨_, pyL l, vx.dp hz.1, vy.dp hz.2, okE_shaped hz.1, okE_shaped hz.2, ?_⟩
      rw [pyL_any hz.1 (okE_items hz.2)]
      exact o
    · cases e
  · rename_i l
    split at e
    · rename_i hz
      simp only [Bool.and_eq_true] at hz
      cases e
      obtain ⟨as, r1⟩ := Dp.reads I _ x v (vx.dp hz.1) rx
      obtain ⟨bs, r2⟩ := Dp.reads I (.tuple (pyL l)) y u (vy.dp hz.2) ry
      refine SeqAt.in_tuple_reads r2 r1 (SeqAt.canLay_of_shaped (okE_shaped hz.2)) (SeqAt.canLay_of_shaped (okE_shaped hz.1)) (room_in (SeqAt.depth_of_shaped (okE_shaped hz.1)) hu) ⟨.bl _, H, I, rfl, ?_⟩
      rw [pyL_any hz.1 (okE_itemsT hz.2)]
      exact o
    · cases e
  · rename_i l
    split at e
    · rename_i hz
      simp only [Bool.and_eq_true] at hz
      cases e
      obtain ⟨as, r1⟩ := Dp.reads I _ x v (vx.dp hz.1) rx
      obtain ⟨bs, r2⟩ := Dp.reads I (.tuple (pyL l)) y u (vy.dp hz.2) ry
      refine SeqAt.notIn_tuple_reads r2 r1 (SeqAt.canLay_of_shaped (okE_shaped hz.2)) (SeqAt.canLay_of_shaped (okE_shaped hz.1)) (room_in (SeqAt.depth_of_shaped (okE_shaped hz.1)) hu) ⟨.bl _, H, I, rfl, ?_⟩
      rw [pyL_any hz.1 (okE_itemsT hz.2)]
      exact o
    · cases e
  · cases e; cases vx.bl; cases vy.bl
    exact op_is_bl pins s σ H _ _ v u Q I rx ry ⟨_, _, rfl, rfl, o⟩
  · cases e; cases vx.bl; cases vy.bl
    exact op_isnot_bl pins s σ H _ _ v u Q I rx ry ⟨_, _, rfl, rfl, o⟩
  · cases e; cases vx.non; cases vy.non
    exact op_isN pins s σ H _ _ v u Q I rx ry ⟨rfl, o⟩
  · cases e; cases vx.non; cases vy.non
    exact op_notN pins s σ H _ _ v u Q I rx ry ⟨rfl, o⟩
  · rename_i hn
    cases e; cases vy.non
    refine op_isN pins s σ H _ _ v u Q I rx ry ⟨rfl, ?_⟩
    rw [decide_eq_false]
    · exact o
    · rintro rfl
      rcases vx with vx | vx
      cases vx
      exact hn rfl
  · rename_i hn
    cases e; cases vy.non
    refine op_notN pins s σ H _ _ v u Q I rx ry ⟨rfl, ?_⟩
    rw [decide_eq_false]
    · exact o
    · rintro rfl
      rcases vx with vx | vx
      cases vx
      exact hn rfl
  · cases e
/-! ### repr -/
mutual
theorem okR_E : ∀ {n : Nat} (d : D), okR n d = true → okE n d = true
  | _, .non, _ => by simp [okE]
  | _, .bl _, _ => by simp [okE]
  | _, .int _, _ => by simp [okE]
  | n, .str x, h => by cases n <;> simpa [okE, okR] using h
  | 0, .tup l, h => by simp [okR] at h
  | 0, .lst l, h => by simp [okR] at h
  | n + 1, .tup l, h => by
    simp only [okR, List.all_eq_true] at h
    simp only [okE, List.all_eq_true]
    exact okR_EL (n := n) l h
  | n + 1, .lst l, h => by
    simp only [okR, List.all_eq_true] at h
    simp only [okE, List.all_eq_true]
    exact okR_EL (n := n) l h
  | n, .rol l, h => by cases n <;> simp [okR] at h
  | n, .dct l, h => by cases n <;> simp [okR] at h
  | n, .fn l, h => by cases n <;> simp [okR] at h
theorem okR_EL : ∀ {n : Nat} (l : List D), (∀ x ∈ l, okR n x = true) → ∀ x ∈ l, okE n x = true
  | _, [], _, _, h => nomatch h
  | n, d :: r, h, x, hx => by
    rcases List.mem_cons.mp hx with e | hx
    · rw [e]; exact okR_E d (h d List.mem_cons_self)
    · exact okR_EL r (fun y hy => h y (List.mem_cons_of_mem _ hy)) x hx
end
theorem len_int {i : Int} (h : i.natAbs.log2 < 1920) : (PyData.shown (.int i)).length ≤ 1921 := by
  have := PyProof.Rows.int_text_len_1921 h
  simpa [PyData.shown] using this
mutual
theorem shown_sz : ∀ {n : Nat} (d : D), okR n d = true → (PyData.shown (py d)).length ≤ szR n d ∧ (py d).showable = true
  | n, .non, _ => by
    have : (PyData.shown .none).length ≤ 5 := by decide +kernel
    cases n <;> exact ⟨by simpa [py, szR] using this, by simp [py, PyData.showable]⟩
  | n, .bl b, _ => by
    have : (PyData.shown (.bool b)).length ≤ 5 := by cases b <;> decide +kernel
    cases n <;> exact ⟨by simpa [py, szR] using this, by simp [py, PyData.showable]⟩
  | n, .int i, h => by
    have h' : i.natAbs.log2 < 1920 := by cases n <;> simpa [okR] using h
    cases n <;> exact ⟨by simpa [py, szR] using len_int h', by simp [py, PyData.showable, h']⟩
  | n, .str x, h => by
    have h' : PyData.strOk x = true := by cases n <;> simpa [okR] using h
    have hx : ∀ c ∈ x.cps.toList, c < 16 ^ 8 := fun c hc => by
      unfold PyData.strOk at h'
      have := Array.all_eq_true'.mp h' c (by simpa using hc)
      have h2 : c < 0x110000 := of_decide_eq_true this
      omega
    have := StrLaws.reprText_len x hx
    cases n <;> exact ⟨by simpa [py, szR, PyData.shown] using this, by simp [py, PyData.showable]⟩
  | 0, .tup l, h => by simp [okR] at h
  | 0, .lst l, h => by simp [okR] at h
  | n + 1, .tup l, h => by
    simp only [okR, List.all_eq_true] at h
    obtain ⟨h1, h2⟩ := shown_szL (n := n) l h
    have h3 := tupleText_len_le (PyData.shownAll (pyL l))
    have h4 : (PyData.shownAll (pyL l)).length = (pyL l).length := by
      generalize pyL l = m
      induction m with
      | nil => rfl
      | cons a r ih => simp [PyData.shownAll, ih]
    refine ⟨?_, by simpa [py, PyData.showable] using h2⟩
    simp only [py, PyData.shown, szR]
    omega
  | n + 1, .lst l, h => by
    simp only [okR, List.all_eq_true] at h
    obtain ⟨h1, h2⟩ := shown_szL (n := n) l h
    have h3 := listText_len_le (PyData.shownAll (pyL l))
    have h4 : (PyData.shownAll (pyL l)).length = (pyL l).length := by
      generalize pyL l = m
      induction m with
      | nil => rfl
      | cons a r ih => simp [PyData.shownAll, ih]
    refine ⟨?_, by simpa [py, PyData.showable] using h2⟩
    simp only [py, PyData.shown, szR]
    omega
  | n, .rol l, h => by cases n <;> simp [okR] at h
  | n, .dct l, h => by cases n <;> simp [okR] at h
  | n, .fn l, h => by cases n <;> simp [okR] at h
theorem shown_szL : ∀ {n : Nat} (l : List D), (∀ x ∈ l, okR n x = true) → ((PyData.shownAll (pyL l)).map (·.length)).sum + 2 * (pyL l).length ≤ (l.map fun d => szR n d + 2).sum ∧ PyData.showableAll (pyL l) = true
  | n, [], _ => by simp [pyL, PyData.shownAll, PyData.showableAll]
  | n, d :: r, h => by
    obtain ⟨h1, h2⟩ := shown_sz (n := n) d (h d List.mem_cons_self)
    obtain ⟨h3, h4⟩ := shown_szL (n := n) r fun x hx => h x (List.mem_cons_of_mem _ hx)
    simp only [pyL, PyData.shownAll, PyData.showableAll, List.map_cons, List.sum_cons, List.length_cons, h2, h4, Bool.and_self, and_true]
    omega
end
/-- repr of plain data -/
theorem callRepr (hg : X.A.guards = some []) (hu : X.A.units + 66 < cLine) : CallR X (.builtin "repr") (fun xs H Q => ∃ A x d z, xs = [x] ∧ Vw ⟨X.K, fa⟩ A H x d ∧ reprD d = some z ∧ Q (.str z) H) := by
  intro pins s σ H xs us Q I rv h
  obtain ⟨A, x, d, z, rfl, vx, e, q⟩ := h
  unfold reprD at e
  split at e
  · rename_i hz
    simp only [Bool.and_eq_true, decide_eq_true_eq] at hz
    cases e
    obtain ⟨u, rfl, ru⟩ := rv.one
    obtain ⟨h1, h2⟩ := shown_sz d hz.1
    have hsz : (PyData.shown (py d)).length ≤ sizeLine := sz_le (Nat.le_trans h1 hz.2)
    have hE := okR_E d hz.1
    have hdp := vx.dp hE
    obtain ⟨as, r1⟩ := Dp.reads I _ x u hdp ru
    have hdep := (okE_lay d hE).2
    have big : X.A.units + ((py d).depth + 1) < cLine := by
      unfold LV at hdep
      omega
    have disp : ∀ a, u = .ref a → wpAny (model X.prog X.w) X.A (call (.builtin "repr") [u]) (EP X pins σ Q) X.xe s := fun a ea => by
      subst ea
      exact repr_of_reads' r1 h2 (PyData.noDict_hsm (PyData.hasDict_of_canLay _ (okE_lay d hE).1)) hg big (fun _ _ e => e) (fun h' u' tk hk => ⟨.str _, H, I.kept (t' := tk) hk, ⟨_, rfl⟩, q⟩) hsz
    cases d with
    | non => cases vx.non; cases ru; exact PySem.P.repr_of_none ⟨.str _, H, I.tok _, ⟨_, rfl⟩, by simpa [py, PyData.shown] using q⟩
    | bl b => cases vx.bl; cases ru; exact PySem.P.repr_of_bool ⟨.str _, H, I.tok _, ⟨_, rfl⟩, by simpa [py, PyData.shown] using q⟩
    | int i => 
      cases vx.int
      obtain ⟨t, rfl⟩ := ru
      have h' : i.natAbs.log2 < 1920 := by simpa [okR] using hz.1
      exact PySem.P.repr_of_int h' ⟨.str _, H, I.tok _, ⟨_, rfl⟩, by simpa [py, PyData.shown] using q⟩
    | str y =>
      cases vx.str
      obtain ⟨t, rfl⟩ := ru
      exact PySem.P.repr_of_str ⟨.str _, H, I.tok _, ⟨_, rfl⟩, by simpa [py, PyData.shown] using q⟩ (by simpa [py, PyData.shown] using hsz)
    | tup l =>
      obtain ⟨a, vs, rfl, _⟩ := vx.tup
      exact disp a ru
    | lst l =>
      obtain ⟨a, vs, rfl, _⟩ := vx.lst
      exact disp a ru
    | rol l => simp [okE] at hE
    | dct l => simp [okE] at hE
    | fn l => simp [okE] at hE
  · cases e
end
end PL
set_option maxHeartbeats 4000000
namespace PL
open PySem PySem.Spec L2
section
variable {C : Ct} {A : Addr → Prop} {H : Hp}
theorem isIntL_eq : ∀ {ds : List D} {ns : List Int}, isIntL ds = some ns → ds = ns.map .int
  | [], ns, h => by cases h; rfl
  | d :: r, ns, h => by
    cases d <;> simp only [isIntL, reduceCtorEq] at h
    cases hr : isIntL r with
    | none => rw [hr] at h; cases h
    | some ms => rw [hr] at h; cases h; rw [isIntL_eq hr]; rfl
theorem isIntL_map (ns : List Int) : isIntL (ns.map .int) = some ns := by
  induction ns with
  | nil => rfl
  | cons a r ih => simp [isIntL, ih]
theorem isBlL_eq : ∀ {ds : List D} {ns : List Bool}, isBlL ds = some ns → ds = ns.map .bl
  | [], ns, h => by cases h; rfl
  | d :: r, ns, h => by
    cases d <;> simp only [isBlL, reduceCtorEq] at h
    cases hr : isBlL r with
    | none => rw [hr] at h; cases h
    | some ms => rw [hr] at h; cases h; rw [isBlL_eq hr]; rfl
theorem isBlL_map (ns : List Bool) : isBlL (ns.map .bl) = some ns := by
  induction ns with
  | nil => rfl
  | cons a r ih => simp [isBlL, ih]
theorem RpL.ints : ∀ {vs : List V} {ns : List Int}, RpL C A H vs (ns.map .int) → vs = ns.map V.int
  | _, [], .nil => rfl
  | _, n :: r, .cons h t => by cases h; rw [RpL.ints t]; rfl
theorem RpL.bls : ∀ {vs : List V} {ns : List Bool}, RpL C A H vs (ns.map .bl) → vs = ns.map V.bl
  | _, [], .nil => rfl
  | _, n :: r, .cons h t => by cases h; rw [RpL.bls t]; rfl
theorem RpL.ofInts : ∀ (ns : List Int), RpL C A H (ns.map V.int) (ns.map .int)
  | [] => .nil
  | n :: r => .cons (.int n) (RpL.ofInts r)
end
theorem mx_fold : ∀ (r : List Int) (a : Int), let m := r.foldl (fun x y => if y > x then y else x) a; (m = a ∨ m ∈ r) ∧ a ≤ m ∧ ∀ y ∈ r, y ≤ m
  | [], a => ⟨.inl rfl, Int.le_refl _, fun _ h => nomatch h⟩
  | b :: r, a => by
    obtain ⟨h1, h2, h3⟩ := mx_fold r (if b > a then b else a)
    simp only [List.foldl_cons]
    refine ⟨?_, ?_, fun y hy => ?_⟩
    · rcases h1 with h1 | h1
      · rw [h1]
        split
        · exact .inr List.mem_cons_self
        · exact .inl rfl
      · exact .inr (List.mem_cons_of_mem _ h1)
    · refine Int.le_trans ?_ h2
      split <;> omega
    · rcases List.mem_cons.mp hy with e | hy
      · refine Int.le_trans ?_ h2
        subst e
        split <;> omega
      · exact h3 y hy
theorem mn_fold : ∀ (r : List Int) (a : Int), let m := r.foldl (fun x y => if y < x then y else x) a; (m = a ∨ m ∈ r) ∧ m ≤ a ∧ ∀ y ∈ r, m ≤ y
  | [], a => ⟨.inl rfl, Int.le_refl _, fun _ h => nomatch h⟩
  | b :: r, a => by
    obtain ⟨h1, h2, h3⟩ := mn_fold r (if b < a then b else a)
    simp only [List.foldl_cons]
    refine ⟨?_, ?_, fun y hy => ?_⟩
    · rcases h1 with h1 | h1
      · rw [h1]
        split
        · exact .inr List.mem_cons_self
        · exact .inl rfl
      · exact .inr (List.mem_cons_of_mem _ h1)
    · refine Int.le_trans h2 ?_
      split <;> omega
    · rcases List.mem_cons.mp hy with e | hy
      · refine Int.le_trans h2 ?_
        subst e
        split <;> omega
      · exact h3 y hy
theorem mxI_is {l : List Int} {x : Int} (h : mxI l = some x) : x ∈ l ∧ ∀ y ∈ l, y ≤ x := by
  cases l with
  | nil => cases h
  | cons a r =>
    cases h
    obtain ⟨h1, h2, h3⟩ := mx_fold r a
    refine ⟨?_, fun y hy => ?_⟩
    · rcases h1 with h1 | h1
      · rw [h1]; exact List.mem_cons_self
      · exact List.mem_cons_of_mem _ h1
    · rcases List.mem_cons.mp hy with e | hy
      · rw [e]; exact h2
      · exact h3 y hy
theorem mnI_is {l : List Int} {x : Int} (h : mnI l = some x) : x ∈ l ∧ ∀ y ∈ l, x ≤ y := by
  cases l with
  | nil => cases h
  | cons a r =>
    cases h
    obtain ⟨h1, h2, h3⟩ := mn_fold r a
    refine ⟨?_, fun y hy => ?_⟩
    · rcases h1 with h1 | h1
      · rw [h1]; exact List.mem_cons_self
      · exact List.mem_cons_of_mem _ h1
    · rcases List.mem_cons.mp hy with e | hy
      · rw [e]; exact h2
      · exact h3 y hy
theorem insI_perm (x : Int) : ∀ l : List Int, (insI x l).Perm (x :: l)
  | [] => .refl _
  | y :: r => by
    unfold insI
    split
    · exact ((insI_perm x r).cons y).trans (.swap x y r)
    · exact .refl _
theorem insI_sorted (x : Int) : ∀ l : List Int, l.Pairwise (· ≤ ·) → (insI x l).Pairwise (· ≤ ·)
  | [], _ => by simp [insI]
  | y :: r, h => by
    obtain ⟨h1, h2⟩ := List.pairwise_cons.mp h
    unfold insI
    split
    · refine List.pairwise_cons.mpr ⟨fun z hz => ?_, insI_sorted x r h2⟩
      rcases List.mem_cons.mp ((insI_perm x r).mem_iff.mp hz) with e | hz
      · omega
      · exact h1 z hz
    · refine List.pairwise_cons.mpr ⟨fun z hz => ?_, h⟩
      rcases List.mem_cons.mp hz with e | hz
      · omega
      · have := h1 z hz; omega
theorem srtI_perm : ∀ l : List Int, (srtI l).Perm l
  | [] => .refl _
  | x :: r => (insI_perm x _).trans ((srtI_perm r).cons x)
theorem srtI_sorted : ∀ l : List Int, (srtI l).Pairwise (· ≤ ·)
  | [] => .nil
  | x :: r => insI_sorted x _ (srtI_sorted r)
theorem sorted_eq : ∀ {l m : List Int}, l.Perm m → l.Pairwise (· ≤ ·) → m.Pairwise (· ≤ ·) → l = m
  | [], m, p, _, _ => (List.Perm.nil_eq p)
  | a :: l, [], p, _, _ => absurd p.length_eq (by simp)
  | a :: l, b :: m, p, hl, hm => by
    obtain ⟨h1, h2⟩ := List.pairwise_cons.mp hl
    obtain ⟨h3, h4⟩ := List.pairwise_cons.mp hm
    have e : a = b := by
      have ha : a ∈ b :: m := p.mem_iff.mp List.mem_cons_self
      have hb : b ∈ a :: l := p.mem_iff.mpr List.mem_cons_self
      rcases List.mem_cons.mp ha with e | ha
      · exact e
      · rcases List.mem_cons.mp hb with e | hb
        · exact e.symm
        · have := h3 a ha; have := h1 b hb; omega
    subst e
    rw [sorted_eq (List.Perm.cons_inv p) h2 h4]
/-- the built-in function or class -/
def biV : Bi → Value
  | .len => .builtin "len" | .abs => .builtin "abs" | .int => .type "int" | .max => .builtin "max" | .min => .builtin "min" | .sum => .builtin "sum"
  | .any => .builtin "any" | .all => .builtin "all" | .sorted => .builtin "sorted" | .tuple => .type "tuple" | .list => .type "list" | .str => .type "str" | .repr => .builtin "repr"
def rBi (C : Ct) (b : Bi) : List V → Hp → VK → Prop := fun xs H Q => ∃ A ds r, Dom A H ∧ VwL C A H xs ds ∧ biD b ds = some r ∧ Out C A H r Q
theorem VwL.one {C : Ct} {A : Addr → Prop} {H : Hp} {xs : List V} {d : D} (h : VwL C A H xs [d]) : ∃ x, xs = [x] ∧ Vw C A H x d := by
  cases h with
  | cons h t => cases t; exact ⟨_, rfl, h⟩
theorem VwL.two {C : Ct} {A : Addr → Prop} {H : Hp} {xs : List V} {d e : D} (h : VwL C A H xs [d, e]) : ∃ x y, xs = [x, y] ∧ Vw C A H x d ∧ Vw C A H y e := by
  cases h with
  | cons h t =>
    obtain ⟨y, rfl, hy⟩ := t.one
    exact ⟨_, _, rfl, h, hy⟩
section
variable {X : Cx} {fa : Nat → Option Addr}
theorem callBi (hc : X.calm = true) (hg : X.A.guards = some []) (hu : X.A.units + 66 < cLine) (b : Bi) : CallR X (biV b) (rBi ⟨X.K, fa⟩ b) := by
  intro pins s σ H xs us Q I rv h
  obtain ⟨A, ds, r, dm, vl, e, o⟩ := h
  unfold biD at e
  split at e
  · cases e
    obtain ⟨x, rfl, vx⟩ := vl.one
    obtain ⟨a, vs, rfl, hs, ra⟩ := vx.lst
    refine call_len_seq pins s σ H _ us Q I rv ⟨a, vs, rfl, .inl (.inl (.inl hs)), ?_⟩
    rw [ra.length]; exact o.sc (.int _)
  · cases e
    obtain ⟨x, rfl, vx⟩ := vl.one
    obtain ⟨a, vs, rfl, hs, ra⟩ := vx.rol
    refine call_len_seq pins s σ H _ us Q I rv ⟨a, vs, rfl, .inl hs, ?_⟩
    rw [ra.length]; exact o.sc (.int _)
  · cases e
    obtain ⟨x, rfl, vx⟩ := vl.one
    obtain ⟨a, vs, rfl, hs, ra⟩ := vx.tup
    refine call_len_seq pins s σ H _ us Q I rv ⟨a, vs, rfl, .inr hs, ?_⟩
    rw [ra.length]; exact o.sc (.int _)
  · split at e
    · rename_i hz
      cases e
      obtain ⟨x, rfl, vx⟩ := vl.one
      cases vx.str
      exact call_len_str pins s σ H _ us Q I rv ⟨_, rfl, sz_le hz, o.sc (.int _)⟩
    · cases e
  · cases e
    obtain ⟨x, rfl, vx⟩ := vl.one
    obtain ⟨a, rfl, ⟨kvs, hs, ra⟩ | ⟨kvs, hs, ra⟩⟩ := vx.dct
    · refine call_lenD pins s σ H _ us Q I rv ⟨a, kvs, rfl, hs, ?_⟩
      rw [ra.length]; exact o.sc (.int _)
    · refine call_len_dT pins s σ H _ us Q I rv ⟨a, kvs, rfl, hs, ?_⟩
      rw [ra.length]; exact o.sc (.int _)
  · cases e
    obtain ⟨x, rfl, vx⟩ := vl.one
    cases vx.int
    exact call_abs pins s σ H _ us Q I rv ⟨_, rfl, o.sc (.int _)⟩
  · cases e
    obtain ⟨x, rfl, vx⟩ := vl.one
    cases vx.int
    exact call_int1 pins s σ H _ us Q I rv (.inl ⟨_, rfl, o.sc (.int _)⟩)
  · cases e
    obtain ⟨x, rfl, vx⟩ := vl.one
    cases vx.bl
    exact call_int1 pins s σ H _ us Q I rv (.inr ⟨_, rfl, o.sc (.int _)⟩)
  · cases e
    obtain ⟨x, y, rfl, vx, vy⟩ := vl.two
    cases vx.int; cases vy.int
    exact call_max2 hc pins s σ H _ us Q I rv ⟨_, _, rfl, o.sc (.int _)⟩
  · cases e
    obtain ⟨x, y, rfl, vx, vy⟩ := vl.two
    cases vx.int; cases vy.int
    exact call_min2 hc pins s σ H _ us Q I rv ⟨_, _, rfl, o.sc (.int _)⟩
  · rename_i l
    obtain ⟨x, rfl, vx⟩ := vl.one
    obtain ⟨a, vs, rfl, hs, ra⟩ := vx.lst
    cases hi : isIntL l with
    | none => rw [hi] at e; cases e
    | some ns =>
      rw [hi] at e
      simp only [Option.bind_some] at e
      cases hm : mxI ns with
      | none => rw [hm] at e; cases e
      | some m =>
        rw [hm] at e; cases e
        have hl := isIntL_eq hi
        subst hl
        obtain ⟨m1, m2⟩ := mxI_is hm
        have ev := ra.ints
        subst ev
        refine cr_max hc pins s σ H _ us Q I rv ⟨a, ns, rfl, .inl (.inl hs), List.length_pos_of_mem m1, fun k k1 k2 => ?_⟩
        have : k = m := by have := k2 m m1; have := m2 k k1; omega
        rw [this]; exact o.sc (.int _)
  · rename_i l
    obtain ⟨x, rfl, vx⟩ := vl.one
    obtain ⟨a, vs, rfl, hs, ra⟩ := vx.lst
    cases hi : isIntL l with
    | none => rw [hi] at e; cases e
    | some ns =>
      rw [hi] at e
      simp only [Option.bind_some] at e
      cases hm : mnI ns with
      | none => rw [hm] at e; cases e
      | some m =>
        rw [hm] at e; cases e
        have hl := isIntL_eq hi
        subst hl
        obtain ⟨m1, m2⟩ := mnI_is hm
        have ev := ra.ints
        subst ev
        refine cr_min hc pins s σ H _ us Q I rv ⟨a, ns, rfl, .inl (.inl hs), List.length_pos_of_mem m1, fun k k1 k2 => ?_⟩
        have : k = m := by have := k2 m m1; have := m2 k k1; omega
        rw [this]; exact o.sc (.int _)
  · rename_i l
    obtain ⟨x, rfl, vx⟩ := vl.one
    obtain ⟨a, vs, rfl, hs, ra⟩ := vx.lst
    cases hi : isIntL l with
    | none => rw [hi] at e; cases e
    | some ns =>
      rw [hi] at e; cases e
      have hl := isIntL_eq hi
      subst hl
      have ev := ra.ints
      subst ev
      exact cr_sum hc pins s σ H _ us Q I rv ⟨a, ns, rfl, .inl (.inl hs), o.sc (.int _)⟩
  · rename_i l
    obtain ⟨x, rfl, vx⟩ := vl.one
    obtain ⟨a, vs, rfl, hs, ra⟩ := vx.lst
    cases hi : isBlL l with
    | none => rw [hi] at e; cases e
    | some ns =>
      rw [hi] at e; cases e
      have hl := isBlL_eq hi
      subst hl
      have ev := ra.bls
      subst ev
      exact cr_any hc pins s σ H _ us Q I rv ⟨a, ns, rfl, .inl (.inl hs), o.sc (.bl _)⟩
  · rename_i l
    obtain ⟨x, rfl, vx⟩ := vl.one
    obtain ⟨a, vs, rfl, hs, ra⟩ := vx.lst
    cases hi : isBlL l with
    | none => rw [hi] at e; cases e
    | some ns =>
      rw [hi] at e; cases e
      have hl := isBlL_eq hi
      subst hl
      have ev := ra.bls
      subst ev
      exact cr_all hc pins s σ H _ us Q I rv ⟨a, ns, rfl, .inl (.inl hs), o.sc (.bl _)⟩
  · rename_i l
    obtain ⟨x, rfl, vx⟩ := vl.one
    obtain ⟨a, vs, rfl, hs, ra⟩ := vx.lst
    split at e
    · rename_i ns hi
      cases e
      have hl := isIntL_eq hi
      subst hl
      have ev := ra.ints
      subst ev
      refine cr_sortedI pins s σ H _ us Q I rv ⟨a, ns, rfl, .inl (.inl hs), fun ms p pm sr hp => ?_⟩
      rw [sorted_eq (pm.trans (srtI_perm ns).symm) sr (srtI_sorted ns)]
      exact o.lst dm (RpL.ofInts _) hp
    · cases e
  · cases e
    obtain ⟨x, rfl, vx⟩ := vl.one
    obtain ⟨a, vs, rfl, hs, ra⟩ := vx.lst
    exact call_tuple_of pins s σ H _ us Q I rv ⟨a, vs, rfl, .inl ⟨.inl (.inl hs), fun p hp => o.tup dm ra hp⟩⟩
  · cases e
    obtain ⟨x, rfl, vx⟩ := vl.one
    obtain ⟨a, vs, rfl, hs, ra⟩ := vx.tup
    refine call_tuple_of pins s σ H _ us Q I rv ⟨a, vs, rfl, .inr ⟨hs, o.sc ?_⟩⟩
    rcases vx with vx | vx
    · exact vx
    · cases vx
  · cases e
    obtain ⟨x, rfl, vx⟩ := vl.one
    obtain ⟨a, vs, rfl, hs, ra⟩ := vx.lst
    exact call_list_of pins s σ H _ us Q I rv ⟨a, vs, rfl, .inl (.inl (.inl hs)), fun p hp => o.lst dm ra hp⟩
  · cases e
    obtain ⟨x, rfl, vx⟩ := vl.one
    obtain ⟨a, vs, rfl, hs, ra⟩ := vx.tup
    exact call_list_of pins s σ H _ us Q I rv ⟨a, vs, rfl, .inr hs, fun p hp => o.lst dm ra hp⟩
  · split at e
    · rename_i hz
      cases e
      obtain ⟨x, rfl, vx⟩ := vl.one
      cases vx.int
      exact call_str_int pins s σ H _ us Q I rv ⟨_, rfl, hz, o.sc (.str _)⟩
    · cases e
  · rename_i d
    obtain ⟨x, rfl, vx⟩ := vl.one
    cases hz : reprD d with
    | none => rw [hz] at e; cases e
    | some z =>
      rw [hz] at e; cases e
      exact callRepr hg hu pins s σ H _ us Q I rv ⟨A, x, d, z, rfl, vx, hz, o.sc (.str _)⟩
  · cases e
end
end PL
set_option maxHeartbeats 4000000
namespace PL
open PySem PySem.Spec L2
section
variable {X : Cx} {fa : Nat → Option Addr} {A : Addr → Prop} {H : Hp}
theorem Vw.ty {C : Ct} {v : V} {d : D} {n : String} (h : Vw C A H v d) (e : dTy d = some n) : TyX C.K H v (.type n) := by
  cases d with
  | non => cases e; cases h.non; exact .base .non
  | bl b => cases e; cases h.bl; exact .base (.bl _)
  | int b => cases e; cases h.int; exact .base (.int _)
  | str b => cases e; cases h.str; exact .base (.str _)
  | tup l =>
    cases e
    rcases h with h | h
    · cases h with
      | tup e _ _ => exact .base (.tup e)
      | tupK k _ =>
        obtain ⟨o, its, n, h1, h2, _⟩ := k
        exact .kTuple h1 h2
    · cases h
  | lst l =>
    cases e
    obtain ⟨a, vs, rfl, hs, _⟩ := h.lst
    exact .base (.lst hs)
  | rol l =>
    cases e
    rcases h with h | h
    · cases h with
      | rol e _ _ => exact .base (.frz e)
      | rolK k _ =>
        obtain ⟨o, its, n, h1, h2, _⟩ := k
        exact .kList h1 h2
    · cases h
  | dct l =>
    cases e
    obtain ⟨a, rfl, ⟨kvs, hs, _⟩ | ⟨kvs, hs, _⟩⟩ := h.dct
    · exact .base (.dK hs)
    · exact .base (.dT hs)
  | fn n => cases e
theorem kit_tab {K : PySem.W.Frag} {t : Ty} {d : D} {b : Bool} (e : isTy t d = some b) : ∃ n, dTy d = some n ∧ PySem.W.kitOne K (.type n) (.type (tyN t)) = some b := by
  cases d <;> cases t <;> (first | (cases e; done) | (cases e; exact ⟨_, rfl, kit_ty (by decide +kernel)⟩))
theorem callIsi : CallR X (.builtin "isinstance") (fun xs H Q => ∃ A x t d b, xs = [x, .ty (tyN t)] ∧ Vw ⟨X.K, fa⟩ A H x d ∧ isTy t d = some b ∧ Q (.bl b) H) := by
  intro pins s σ H xs us Q I rv h
  obtain ⟨A, x, t, d, b, rfl, vx, e, q⟩ := h
  obtain ⟨n, h1, h2⟩ := kit_tab (K := X.K) e
  exact call_isi pins s σ H _ us Q I rv ⟨x, _, _, _, b, rfl, .ty _, vx.ty h1, h2, q⟩
theorem atI_rp {C : Ct} {vs : List V} {ds : List D} {i : Int} {d : D} (r : RpL C A H vs ds) (h : atI ds i = some d) : ∃ v, atI vs i = some v ∧ Rp C A H v d := by
  unfold atI at h ⊢
  rw [r.length]
  cases e : ixN ds.length i with
  | none => rw [e] at h; cases h
  | some j =>
    rw [e] at h
    exact r.get h
theorem ixD : IxR X (fun x y H Q => ∃ A p q d, Vw ⟨X.K, fa⟩ A H x p ∧ Vw ⟨X.K, fa⟩ A H y q ∧ idxD p q = some d ∧ Out ⟨X.K, fa⟩ A H (.v d) Q) := by
  intro value slice pins s σ H x y v u Q I rx ry h hs
  obtain ⟨A, p, q, d, vx, vy, e, o⟩ := h
  unfold idxD at e
  split at e
  · cases vy.int
    obtain ⟨a, vs, rfl, hl, ra⟩ := vx.lst
    obtain ⟨z, h1, h2⟩ := atI_rp ra e
    exact ix_list value slice pins s σ H _ _ v u Q I rx ry ⟨a, vs, _, z, rfl, rfl, .inl (.inl hl), h1, o.sc h2⟩ hs
  · cases vy.int
    obtain ⟨a, vs, rfl, hl, ra⟩ := vx.rol
    obtain ⟨z, h1, h2⟩ := atI_rp ra e
    exact ix_list value slice pins s σ H _ _ v u Q I rx ry ⟨a, vs, _, z, rfl, rfl, hl, h1, o.sc h2⟩ hs
  · cases vy.int
    obtain ⟨a, vs, rfl, hl, ra⟩ := vx.tup
    obtain ⟨z, h1, h2⟩ := atI_rp ra e
    exact ix_tup value slice pins s σ H _ _ v u Q I rx ry ⟨a, vs, _, z, rfl, rfl, hl, h1, o.sc h2⟩ hs
  · cases vy.int; cases vx.str
    split at e
    · rename_i zs i hz
      cases h1 : atI zs.cps.toList i with
      | none => rw [h1] at e; cases e
      | some c =>
        rw [h1] at e; cases e
        exact ix_str value slice pins s σ H _ _ v u Q I rx ry ⟨_, _, c, rfl, rfl, sz_le ‹_›, h1, o.sc (.str _)⟩ hs
    · cases e
  · cases e
theorem cut_rp {C : Ct} {vs : List V} {ds : List D} {lo hi : Option Int} (r : RpL C A H vs ds) : RpL C A H (cutV vs lo hi) (cutD ds lo hi) := by
  unfold cutV cutD
  rw [r.length]
  exact (r.drop _).take _
theorem slD : SlR X (fun x lo hi H Q => ∃ A p r, Dom A H ∧ Vw ⟨X.K, fa⟩ A H x p ∧ slcD p lo hi = some r ∧ Out ⟨X.K, fa⟩ A H r Q) := by
  intro pins s σ H x v vl vu lo hi sl Q I rx hs pl pu h
  obtain ⟨A, p, r, dm, vx, e, o⟩ := h
  unfold slcD at e
  split at e
  · cases e
    obtain ⟨a, vs, rfl, hl, ra⟩ := vx.lst
    exact sl_list pins s σ H _ v vl vu lo hi sl Q I rx hs pl pu ⟨a, vs, rfl, .inl (.inl hl), fun q hq => o.lst dm (cut_rp ra) hq⟩
  · cases e
    obtain ⟨a, vs, rfl, hl, ra⟩ := vx.rol
    exact sl_list pins s σ H _ v vl vu lo hi sl Q I rx hs pl pu ⟨a, vs, rfl, hl, fun q hq => o.lst dm (cut_rp ra) hq⟩
  · rename_i l
    cases e
    obtain ⟨a, vs, rfl, hl, ra⟩ := vx.tup
    refine sl_tupA pins s σ H _ v vl vu lo hi sl Q I rx hs pl pu ⟨a, vs, rfl, hl, fun z => o.sc ?_, fun _ q hq => o.tup dm (cut_rp ra) hq⟩
    have hc : cutD l lo hi = l := by
      unfold cutD
      rw [← ra.length, z.1, z.2, List.drop_zero, Nat.sub_zero, ra.length, List.take_length]
    rw [hc]
    rcases vx with vx | vx
    · exact vx
    · cases vx
  · split at e
    · cases e
      cases vx.str
      exact sl_str pins s σ H _ v vl vu lo hi sl Q I rx hs pl pu ⟨_, rfl, sz_le ‹_›, o.sc (.str _)⟩
    · cases e
  · cases e
end
end PL
set_option maxHeartbeats 4000000
namespace PL
open PySem PySem.Spec L2
/-! ### results in a state -/
inductive ResR (C : Ct) (G : Gh) (B : Addr → Prop) (H : Hp) (σ : L2.St) (env' : En) (H' : Hp) : V → R → Prop
  | v {v : V} {d : D} : Rp C (AA B σ env') H' v d → ResR C G B H σ env' H' v (.v d)
  | o {v : V} {i : Nat} : σ[i]? = some (some v) → ResR C G B H σ env' H' v (.o i)
  | f {p : Addr} {d : D} : H p = none → ¬ B p → OwnAt C (AA (Plus B p) σ env') H' p d → EnvR C G (Plus B p) H' σ env' → ResR C G B H σ env' H' (.ref p) (.f d)
/-- results that are held: values and names -/
inductive ResL (C : Ct) (G : Gh) (B : Addr → Prop) (σ : L2.St) (env' : En) (H' : Hp) : List V → List R → Prop
  | nil : ResL C G B σ env' H' [] []
  | v {v : V} {d : D} {vs : List V} {rs : List R} : Rp C (AA B σ env') H' v d → ResL C G B σ env' H' vs rs → ResL C G B σ env' H' (v :: vs) (.v d :: rs)
  | o {v : V} {i : Nat} {vs : List V} {rs : List R} : σ[i]? = some (some v) → ResL C G B σ env' H' vs rs → ResL C G B σ env' H' (v :: vs) (.o i :: rs)
section
variable {C : Ct} {G : Gh} {B : Addr → Prop} {H H1 H2 : Hp} {σ : L2.St} {env e1 e2 : En} {v : V} {r : R}
theorem AA.plus {p : Addr} : ∀ a, AA B σ env a → AA (Plus B p) σ env a := fun _ z => z.elim (fun q => .inl (.inl q)) .inr
/-- a fresh one is a value, too -/
theorem ResR.unf (h : ResR C G B H σ env H1 v r) : ResR C G B H σ env H1 v (unf r) := by
  cases h with
  | v h => exact .v h
  | o h => exact .o h
  | f h1 h2 h3 h4 =>
    refine .v (h3.rpA AA.plus fun z => ?_)
    rcases z with z | z
    · exact h2 z
    · exact h4.bdis _ (.inr rfl) z
theorem EnvR.lk (E : EnvR C G B H σ env) {i : Nat} {d : D} (h : lk env i = some d) (e : σ[i]? = some (some v)) : Vw C (AA B σ env) H v d := by
  unfold PL.lk at h
  split at h
  · rename_i x q
    cases h
    obtain ⟨w, e', r⟩ := E.val i _ q
    rw [e] at e'; cases e'
    exact .rp r
  · rename_i x q
    cases h
    obtain ⟨a, e', r, _⟩ := E.own i _ q
    rw [e] at e'; cases e'
    exact .own r
  · rename_i x q
    cases h
    obtain ⟨a, e', r, _⟩ := E.par i _ q
    rw [e] at e'; cases e'
    exact .own r
  · cases h
/-- what came earlier is read later -/
theorem ResR.rd (h : ResR C G B H σ e1 H1 v r) (S : Stp H1 σ e1 H2 σ e2) (E : EnvR C G B H2 σ e2) {d : D} (e : rd r e2 = some d) : Vw C (AA B σ e2) H2 v d := by
  have h' := h.unf
  cases r with
  | v x =>
    cases e
    cases h' with | v h => exact .rp (h.mv S.mv)
  | f x =>
    cases e
    cases h' with | v h => exact .rp (h.mv S.mv)
  | o i =>
    cases h' with | o h => exact E.lk e h
theorem ResR.rd0 (h : ResR C G B H σ e1 H1 v r) (E : EnvR C G B H1 σ e1) {d : D} (e : PL.rd r e1 = some d) : Vw C (AA B σ e1) H1 v d := h.rd .refl E e
/-- a name loses what it has: it may be shared from now on -/
theorem own_set_sub {i : Nat} {d : D} : ∀ a, Own σ (env.set i (.v d)) a → Own σ env a := fun a ⟨j, x, h, e⟩ => by
  refine ⟨j, x, ?_, e⟩
  by_cases hj : i = j
  · subst hj
    rw [List.getElem?_set] at h
    by_cases hl : i < env.length
    · simp [hl] at h
    · simp [hl] at h
  · rwa [List.getElem?_set_ne hj] at h
theorem get_set_v {i j : Nat} {s t : Sl} (h : (env.set i s)[j]? = some t) : (j = i ∧ t = s ∧ i < env.length) ∨ (j ≠ i ∧ env[j]? = some t) := by
  by_cases hj : i = j
  · subst hj
    rw [List.getElem?_set] at h
    by_cases hl : i < env.length
    · simp [hl] at h
      exact .inl ⟨rfl, h.symm, hl⟩
    · simp [hl] at h
  · rw [List.getElem?_set_ne hj] at h
    exact .inr ⟨fun z => hj z.symm, h⟩
theorem EnvR.freeze (E : EnvR C G B H σ env) {i : Nat} {d : D} (h : env[i]? = some (.o d)) : EnvR C G B H σ (env.set i (.v d)) := by
  have m : Mv (AA B σ env) (AA B σ (env.set i (.v d))) H H := .sub fun b z => z.elim .inl fun q => .inr (own_set_sub b q)
  obtain ⟨a, ea, ra, _⟩ := E.own i d h
  have na : ¬ AA B σ (env.set i (.v d)) a := fun z => by
    rcases z with z | ⟨j, x, q, e⟩
    · exact E.bdis a z ⟨i, d, .inl h, ea⟩
    · have hj : j ≠ i := fun z => by
        subst z
        rcases q with q | q
        · rcases get_set_v q with ⟨_, z, _⟩ | ⟨z, _⟩
          · cases z
          · exact z rfl
        · rcases get_set_v q with ⟨_, z, _⟩ | ⟨z, _⟩
          · cases z
          · exact z rfl
      rw [List.getElem?_set_ne (fun z => hj z.symm)] at q
      exact hj (E.inj j i a x d ⟨q, e⟩ ⟨.inl h, ea⟩)
  refine ⟨by rw [List.length_set]; exact E.len, fun j x q => ?_, fun j x q => ?_, fun j x q => ?_, fun j k b x y p q => ?_, E.bdom, fun b z q => E.bdis b z (own_set_sub b q), E.ent⟩
  · rcases get_set_v q with ⟨e1, e2, _⟩ | ⟨_, q⟩
    · subst e1
      cases e2
      exact ⟨_, ea, ra.rpA (fun b z => z.elim .inl fun q => .inr (own_set_sub b q)) na⟩
    · obtain ⟨w, e, r⟩ := E.val j x q
      exact ⟨w, e, r.mv m⟩
  · rcases get_set_v q with ⟨e1, e2, _⟩ | ⟨_, q⟩
    · cases e2
    · obtain ⟨b, e, r, z⟩ := E.own j x q
      exact ⟨b, e, r.mv m fun o => id, z⟩
  · rcases get_set_v q with ⟨e1, e2, _⟩ | ⟨_, q⟩
    · cases e2
    · obtain ⟨b, e, r, z⟩ := E.par j x q
      exact ⟨b, e, r.mv m fun o => id, z⟩
  · obtain ⟨p1, p2⟩ := p
    obtain ⟨q1, q2⟩ := q
    have get : ∀ {l : Nat} {z : D}, ((env.set i (.v d))[l]? = some (.o z) ∨ (env.set i (.v d))[l]? = some (.p z)) → (env[l]? = some (.o z) ∨ env[l]? = some (.p z)) := fun {l z} h => by
      rcases h with h | h
      · rcases get_set_v h with ⟨_, e, _⟩ | ⟨_, e⟩
        · cases e
        · exact .inl e
      · rcases get_set_v h with ⟨_, e, _⟩ | ⟨_, e⟩
        · cases e
        · exact .inr e
    exact E.inj j k b x y ⟨get p1, p2⟩ ⟨get q1, q2⟩
theorem Stp.freeze {i : Nat} {d : D} : Stp H σ env H σ (env.set i (.v d)) := ⟨fun _ _ e _ => e, fun _ h => h, fun b h => .inl (own_set_sub b h)⟩
theorem ResR.giv (h : ResR C G B H σ e1 H1 v r) (S : Stp H1 σ e1 H2 σ e2) (E : EnvR C G B H2 σ e2) {d : D} {e3 : En} (e : giv r e2 = some (d, e3)) :
    Rp C (AA B σ e3) H2 v d ∧ EnvR C G B H2 σ e3 ∧ Stp H2 σ e2 H2 σ e3 := by
  have h' := h.unf
  cases r with
  | v x =>
    cases e
    cases h' with | v h => exact ⟨h.mv S.mv, E, .refl⟩
  | f x =>
    cases e
    cases h' with | v h => exact ⟨h.mv S.mv, E, .refl⟩
  | o i =>
    cases h' with
    | o h =>
      simp only [PL.giv] at e
      split at e
      · rename_i x q
        cases e
        have E3 := E.freeze q
        refine ⟨?_, E3, .freeze⟩
        have hl : i < e2.length := (List.getElem?_eq_some_iff.mp q).1
        obtain ⟨w, e', r⟩ := E3.val i d (by rw [List.getElem?_set]; simp [hl])
        rw [h] at e'; cases e'
        exact r
      · rename_i x q
        cases e
        obtain ⟨w, e', r⟩ := E.val i _ q
        rw [h] at e'; cases e'
        exact ⟨r, E, .refl⟩
      · cases e
theorem ResL.mv {vs : List V} {rs : List R} (h : ResL C G B σ e1 H1 vs rs) (S : Stp H1 σ e1 H2 σ e2) : ResL C G B σ e2 H2 vs rs := by
  induction h with
  | nil => exact .nil
  | v h _ ih => exact .v (h.mv S.mv) ih
  | o h _ ih => exact .o h ih
theorem ResL.rds {vs : List V} {rs : List R} (h : ResL C G B σ e1 H1 vs rs) (E : EnvR C G B H1 σ e1) : ∀ {ds : List D}, rds rs e1 = some ds → VwL C (AA B σ e1) H1 vs ds := by
  induction h with
  | nil => intro ds e; cases e; exact .nil
  | v h _ ih =>
    intro ds e
    unfold PL.rds at e
    simp only [PL.rd] at e
    split at e
    · cases e; exact .cons (.rp h) (ih (by assumption))
    · cases e
  | o h _ ih =>
    intro ds e
    unfold PL.rds at e
    split at e
    · rename_i hq
      split at e
      · cases e; exact .cons (E.lk hq h) (ih (by assumption))
      · cases e
    · cases e
theorem ResL.givs : ∀ {rs : List R} {vs : List V} {e1 e3 : En} {ds : List D}, ResL C G B σ e1 H1 vs rs → EnvR C G B H1 σ e1 → givs rs e1 = some (ds, e3) →
    RpL C (AA B σ e3) H1 vs ds ∧ EnvR C G B H1 σ e3 ∧ Stp H1 σ e1 H1 σ e3
  | [], vs, e1, e3, ds, h, E, e => by
    cases h
    cases e
    exact ⟨.nil, E, .refl⟩
  | r :: rs, vs, e1, e3, ds, h, E, e => by
    simp only [PL.givs] at e
    split at e
    · rename_i d ea hg
      split at e
      · rename_i ds' eb hq
        cases e
        cases h with
        | v h t =>
          obtain ⟨r1, E1, S1⟩ := ResR.giv (H := H1) (.v h) .refl E hg
          obtain ⟨h1, h2, h3⟩ := ResL.givs (t.mv S1) E1 hq
          exact ⟨.cons (r1.mv h3.mv) h1, h2, S1.trans h3⟩
        | o h t =>
          obtain ⟨r1, E1, S1⟩ := ResR.giv (H := H1) (.o h) .refl E hg
          obtain ⟨h1, h2, h3⟩ := ResL.givs (t.mv S1) E1 hq
          exact ⟨.cons (r1.mv h3.mv) h1, h2, S1.trans h3⟩
      · cases e
    · cases e
end
end PL
set_option maxHeartbeats 4000000
namespace PL
open PySem PySem.Spec L2
/-! ### calls of defs, where no repr is under way -/
structure FnG (P : Program) (w : World) (K : PySem.W.Frag) (mg : Str → Option Value) (base : Heap) (k : Nat) (f : Addr) (fd : FuncData) (ps : List Str) (sp : Sp) : Prop where
  len : ∀ vs H Q E, sp vs H Q E → vs.length = ps.length
  go : ∀ (A : Around) (out : List Env) (s : Shared) (H : Hp) (as : Args) (us : List Value) (vs : List V) (Q : VK) (E : XK), Room k A → A.guards = some [] → Env0 P w K mg base A out s H → BindsTo s fd as (ps.zip us) →
    Vals vs us → sp vs H Q E → codeAny (model P w) A (.call (.ref f) as) (CR CX0 out P w H s Q E) s
section
variable {X : Cx} {k : Nat} {f : Addr} {fd : FuncData} {ps : List Str} {sp : Sp} {x : Str} {p pos : Pos} {e : Expr} {es : List Expr} {t : TA}
theorem FnG.run {pins : List (Addr × Obj)} {σ : L2.St} {H : Hp} {s : Shared} {Q : VK} {us : List Value} {vs : List V} (F : FnG X.prog X.w X.K X.mg X.base k f fd ps sp) (hr : Room k X.A) (hg : X.A.guards = some [])
    (hb : Binds X.K fd ps []) (I : Inv X pins σ H s) (r : Vals vs us) (h : sp vs H Q E0) : wpAny (model X.prog X.w) X.A (call (.ref f) us) (EP X pins σ Q) X.xe s := by
  have hl : (us ++ []).length = ps.length := by
    rw [List.append_nil, ← r.length]
    exact F.len _ _ _ _ h
  have hbd := hb s us I.kIn hl
  rw [List.append_nil] at hbd
  refine wpAny_call (codeAny_mono (F.go X.A X.stack s H ⟨us, []⟩ us vs Q E0 hr hg I.env0 hbd r h) fun z s' hz => ?_)
  cases z with
  | error e => exact (show False from hz).elim
  | ok fl =>
    cases fl with
    | ret u => exact I.after hz
    | next => exact (show False from hz).elim
    | brk => exact (show False from hz).elim
    | cont => exact (show False from hz).elim
def noSt : Expr → Bool
  | .Starred .. => false
  | _ => true
theorem star_cons {e : Expr} (h : noSt e = true) (es : List Expr) (env : Env) : starEach (e :: es) env = (false, eval e env) :: starEach es env := by
  cases e <;> first | rfl | cases h
theorem star_plain : ∀ {es : List Expr}, es.all noSt = true → ∀ (pos : Pos) (env : Env), (backTo pos (starEach es env)).any (·.1) = false
  | [], _, _, _ => rfl
  | e :: r, h, pos, env => by
    simp only [List.all_cons, Bool.and_eq_true] at h
    rw [star_cons h.1]
    show (false || (backTo pos (starEach r env)).any (·.1)) = false
    rw [star_plain h.2]
    rfl
theorem pe_callG (F : FnG X.prog X.w X.K X.mg X.base k f fd ps sp) (hr : Room k X.A) (hg : X.A.guards = some []) (hgl : Gl X x) (hm : X.mg x = some (.ref f)) (hk : PySem.W.keepIn X.K (.ref f) = true) (hb : Binds X.K fd ps [])
    (ha : PA X (e :: es) t) (hs : (e :: es).all noSt = true) (hd : (x == ("__debug__" : Str)) = false) : PE X (.Call (.Name x p) (e :: es) [] pos) (fun σ H Q => t σ H fun vs H1 => sp vs H1 Q E0) := by
  refine ⟨fun pins s σ H Q I h => ?_⟩
  refine wpAny_Call_Name_kw (ld_glob I hgl hm ?_ hd)
  simp only [List.all_cons, Bool.and_eq_true] at hs
  refine PySem.W.callWith_K (h₀ := X.base) I.ok.mod.kin hk (thn (ha.run pos pins s σ H _ I h) fun us s1 ⟨vs, H1, I1, rv, q⟩ => ⟨I1.kIn, ?_⟩) (star_cons hs.1 es _) (star_plain hs.2 _ _)
  exact F.run hr hg hb I1 rv q
theorem pe_callG0 (F : FnG X.prog X.w X.K X.mg X.base k f fd ps sp) (hr : Room k X.A) (hg : X.A.guards = some []) (hgl : Gl X x) (hm : X.mg x = some (.ref f)) (hk : PySem.W.keepIn X.K (.ref f) = true) (hb : Binds X.K fd ps [])
    (hd : (x == ("__debug__" : Str)) = false) : PE X (.Call (.Name x p) [] [] pos) (fun σ H Q => sp [] H Q E0) := by
  refine ⟨fun pins s σ H Q I h => ?_⟩
  refine wpAny_Call_Name_kw (ld_glob I hgl hm ?_ hd)
  exact PySem.W.callWith_K0 I.kIn hk (F.run (us := []) hr hg hb I .nil h)
end
/-! ### what a def's run hands back, over the evaluator -/
/-- what is handed back is v, and what is kept apart then is A' -/
inductive RetV (C : Ct) (A : Addr → Prop) (H H' : Hp) : (Addr → Prop) → V → R → Prop
  | v {v : V} {d : D} : Rp C A H' v d → RetV C A H H' A v (.v d)
  | f {p : Addr} {d : D} : H p = none → OwnAt C (Plus A p) H' p d → RetV C A H H' (Plus A p) (.ref p) (.f d)
structure Ret (C : Ct) (B : Addr → Prop) (H : Hp) (σ : L2.St) (as fin : List Sl) (r : R) (H' : Hp) (v : V) : Prop where
  fr : ∀ b o, H b = some o → ¬ Own σ as b → H' b = some o
  dom : ∀ b, H b ≠ none → H' b ≠ none
  ret : ∃ A', RetV C (AA B σ as) H H' A' v r ∧ ∀ (i : Nat) (d : D), as[i]? = some (.p d) → ∃ a d', σ[i]? = some (some (.ref a)) ∧ fin[i]? = some (.p d') ∧ OwnAt C A' H' a d'
def spF (C : Ct) (F : FT) (n np : Nat) : Sp := fun vs H Q _ => ∃ (B : Addr → Prop) (as fin : List Sl) (r : R),
  EnvR C (Gc H vs as) B H (vs.map some) as ∧ as.length = np ∧ F n as = some (r, fin) ∧ ∀ v H', Ret C B H (vs.map some) as fin r H' v → Q v H'
theorem nodup_of : ∀ {l : List Nat}, nodupB l = true → l.Nodup
  | [], _ => .nil
  | a :: r, h => by
    simp only [nodupB, Bool.and_eq_true, Bool.not_eq_true'] at h
    refine List.nodup_cons.mpr ⟨fun z => ?_, nodup_of h.2⟩
    have := h.1
    rw [List.contains_eq_mem, decide_eq_false_iff_not] at this
    exact this z
/-- which arguments are lists that names have -/
theorem ows_mem {env : En} : ∀ {rs : List R} {i : Nat}, i ∈ ows rs env ↔ ∃ (j : Nat), rs[j]? = some (.o i) ∧ ∃ d, env[i]? = some (.o d) ∨ env[i]? = some (.p d)
  | [], i => by simp [ows]
  | r :: rs, i => by
    have ih := @ows_mem env rs i
    have tail : (∃ (j : Nat), (r :: rs)[j]? = some (.o i) ∧ ∃ d, env[i]? = some (.o d) ∨ env[i]? = some (.p d)) ↔ (r = .o i ∧ ∃ d, env[i]? = some (.o d) ∨ env[i]? = some (.p d)) ∨ i ∈ ows rs env := by
      rw [ih]
      constructor
      · rintro ⟨j, h, q⟩
        cases j with
        | zero => exact .inl ⟨by simpa using h, q⟩
        | succ j => exact .inr ⟨j, by simpa using h, q⟩
      · rintro (⟨h, q⟩ | ⟨j, h, q⟩)
        · exact ⟨0, by simpa using h, q⟩
        · exact ⟨j + 1, by simpa using h, q⟩
    rw [tail]
    cases r with
    | v d => simp [ows]
    | f d => simp [ows]
    | o l =>
      simp only [ows]
      split
      · rename_i x hx
        rw [List.mem_cons]
        constructor
        · rintro (e | h)
          · subst e; exact .inl ⟨rfl, x, .inl hx⟩
          · exact .inr h
        · rintro (⟨e, _⟩ | h)
          · cases e; exact .inl rfl
          · exact .inr h
      · rename_i x hx
        rw [List.mem_cons]
        constructor
        · rintro (e | h)
          · subst e; exact .inl ⟨rfl, x, .inr hx⟩
          · exact .inr h
        · rintro (⟨e, _⟩ | h)
          · cases e; exact .inl rfl
          · exact .inr h
      · rename_i h1 h2
        constructor
        · exact .inr
        · rintro (⟨e, x, h | h⟩ | h)
          · cases e; exact absurd h (h1 x)
          · cases e; exact absurd h (h2 x)
          · exact h
section
variable {C : Ct} {G : Gh} {B : Addr → Prop} {H : Hp} {σ : L2.St} {env : En}
theorem ResL.length {vs : List V} {rs : List R} (h : ResL C G B σ env H vs rs) : vs.length = rs.length := by
  induction h with
  | nil => rfl
  | v _ _ ih => simp [ih]
  | o _ _ ih => simp [ih]
theorem ResL.at {vs : List V} {rs : List R} (h : ResL C G B σ env H vs rs) : ∀ {j : Nat} {r : R}, rs[j]? = some r → ∃ v, vs[j]? = some v ∧ ((∃ d, r = .v d ∧ Rp C (AA B σ env) H v d) ∨ ∃ i, r = .o i ∧ σ[i]? = some (some v)) := by
  induction h with
  | nil => intro j r e; simp at e
  | v h _ ih =>
    intro j r e
    cases j with
    | zero => simp at e; subst e; exact ⟨_, rfl, .inl ⟨_, rfl, h⟩⟩
    | succ j => simpa using ih (by simpa using e)
  | o h _ ih =>
    intro j r e
    cases j with
    | zero => simp at e; subst e; exact ⟨_, rfl, .inr ⟨_, rfl, h⟩⟩
    | succ j => simpa using ih (by simpa using e)
theorem argS_at : ∀ {rs : List R} {as : List Sl}, argS rs env = some as → as.length = rs.length ∧ ∀ {j : Nat} {s : Sl}, as[j]? = some s →
    (∃ d, s = .v d ∧ (rs[j]? = some (.v d) ∨ rs[j]? = some (.f d) ∨ ∃ i, rs[j]? = some (.o i) ∧ env[i]? = some (.v d))) ∨
    ∃ d i, s = .p d ∧ rs[j]? = some (.o i) ∧ (env[i]? = some (.o d) ∨ env[i]? = some (.p d))
  | [], as, h => by cases h; exact ⟨rfl, fun e => by simp at e⟩
  | r :: rs, as, h => by
    have step : ∀ {s0 : Sl} {as' : List Sl}, argS rs env = some as' → as = s0 :: as' →
        ((∃ d, s0 = .v d ∧ (r = .v d ∨ r = .f d ∨ ∃ i, r = .o i ∧ env[i]? = some (.v d))) ∨ ∃ d i, s0 = .p d ∧ r = .o i ∧ (env[i]? = some (.o d) ∨ env[i]? = some (.p d))) →
        as.length = (r :: rs).length ∧ ∀ {j : Nat} {s : Sl}, as[j]? = some s →
          (∃ d, s = .v d ∧ ((r :: rs)[j]? = some (.v d) ∨ (r :: rs)[j]? = some (.f d) ∨ ∃ i, (r :: rs)[j]? = some (.o i) ∧ env[i]? = some (.v d))) ∨
          ∃ d i, s = .p d ∧ (r :: rs)[j]? = some (.o i) ∧ (env[i]? = some (.o d) ∨ env[i]? = some (.p d)) := by
      intro s0 as' e1 e2 h0
      obtain ⟨l, at'⟩ := argS_at e1
      subst e2
      refine ⟨by simp [l], fun {j s} e => ?_⟩
      cases j with
      | zero => simp at e; subst e; simpa using h0
      | succ j => simpa using at' (by simpa using e)
    cases r with
    | v d =>
      simp only [argS, Option.map_eq_some_iff] at h
      obtain ⟨as', e1, e2⟩ := h
      exact step e1 e2.symm (.inl ⟨d, rfl, .inl rfl⟩)
    | f d =>
      simp only [argS, Option.map_eq_some_iff] at h
      obtain ⟨as', e1, e2⟩ := h
      exact step e1 e2.symm (.inl ⟨d, rfl, .inr (.inl rfl)⟩)
    | o i =>
      simp only [argS] at h
      split at h
      · rename_i d q
        simp only [Option.map_eq_some_iff] at h
        obtain ⟨as', e1, e2⟩ := h
        exact step e1 e2.symm (.inl ⟨d, rfl, .inr (.inr ⟨i, rfl, q⟩)⟩)
      · rename_i d q
        simp only [Option.map_eq_some_iff] at h
        obtain ⟨as', e1, e2⟩ := h
        exact step e1 e2.symm (.inr ⟨d, i, rfl, rfl, .inl q⟩)
      · rename_i d q
        simp only [Option.map_eq_some_iff] at h
        obtain ⟨as', e1, e2⟩ := h
        exact step e1 e2.symm (.inr ⟨d, i, rfl, rfl, .inr q⟩)
      · cases h
theorem bak_at {env0 : En} : ∀ {rs : List R} {fin : List Sl} {env e2 : En}, bak env0 rs fin env = some e2 → (ows rs env0).Nodup → (∀ i ∈ ows rs env0, i < env.length) →
    e2.length = env.length ∧ (∀ i, i ∉ ows rs env0 → e2[i]? = env[i]?) ∧
    (∀ (j i : Nat) d, rs[j]? = some (.o i) → env0[i]? = some (.o d) → ∃ d', fin[j]? = some (.p d') ∧ e2[i]? = some (.o d')) ∧
    (∀ (j i : Nat) d, rs[j]? = some (.o i) → env0[i]? = some (.p d) → ∃ d', fin[j]? = some (.p d') ∧ e2[i]? = some (.p d'))
  | [], fin, env, e2, h, _, _ => by
    cases fin with
    | nil => cases h; exact ⟨rfl, fun _ _ => rfl, fun j i d e => by simp at e, fun j i d e => by simp at e⟩
    | cons s ss => cases h
  | r :: rs, [], env, e2, h, _, _ => by cases r <;> cases h
  | r :: rs, s :: ss, env, e2, h, nd, hl => by
    have skip : bak env0 rs ss env = some e2 → ows (r :: rs) env0 = ows rs env0 → (∀ i d, r = .o i → env0[i]? ≠ some (.o d) ∧ env0[i]? ≠ some (.p d)) → e2.length = env.length ∧ (∀ i, i ∉ ows (r :: rs) env0 → e2[i]? = env[i]?) ∧
        (∀ (j i : Nat) d, (r :: rs)[j]? = some (.o i) → env0[i]? = some (.o d) → ∃ d', (s :: ss)[j]? = some (.p d') ∧ e2[i]? = some (.o d')) ∧
        (∀ (j i : Nat) d, (r :: rs)[j]? = some (.o i) → env0[i]? = some (.p d) → ∃ d', (s :: ss)[j]? = some (.p d') ∧ e2[i]? = some (.p d')) := by
      intro hb ho hn
      rw [ho] at nd hl
      obtain ⟨a1, a2, a3, a4⟩ := bak_at hb nd hl
      rw [ho]
      refine ⟨a1, a2, fun j i d e q => ?_, fun j i d e q => ?_⟩
      · cases j with
        | zero => exact absurd q (hn i d (by simpa using e)).1
        | succ j => simpa using a3 j i d (by simpa using e) q
      · cases j with
        | zero => exact absurd q (hn i d (by simpa using e)).2
        | succ j => simpa using a4 j i d (by simpa using e) q
    cases r with
    | v d => exact skip (by simpa only [bak] using h) (by simp only [ows]) fun i d e => nomatch e
    | f d => exact skip (by simpa only [bak] using h) (by simp only [ows]) fun i d e => nomatch e
    | o i =>
      simp only [bak] at h
      split at h
      · rename_i x q
        refine skip h (by simp only [ows, q]) fun i' d e => ?_
        cases e
        rw [q]
        exact ⟨nofun, nofun⟩
      · rename_i x d q
        have ho : ows (.o i :: rs) env0 = i :: ows rs env0 := by simp only [ows, q]
        rw [ho] at nd hl ⊢
        obtain ⟨n1, n2⟩ := List.nodup_cons.mp nd
        have il : i < env.length := hl i List.mem_cons_self
        obtain ⟨a1, a2, a3, a4⟩ := bak_at h n2 (fun j hj => by rw [List.length_set]; exact hl j (List.mem_cons_of_mem _ hj))
        have ei : e2[i]? = some (.o d) := by rw [a2 i n1, List.getElem?_set]; simp [il]
        refine ⟨by rw [a1, List.length_set], fun j hj => ?_, fun j l y e q' => ?_, fun j l y e q' => ?_⟩
        · rw [List.mem_cons, not_or] at hj
          rw [a2 j hj.2, List.getElem?_set_ne fun z => hj.1 z.symm]
        · cases j with
          | zero =>
            simp only [List.getElem?_cons_zero, Option.some.injEq, R.o.injEq] at e
            subst e
            exact ⟨d, rfl, ei⟩
          | succ j => simpa using a3 j l y (by simpa using e) q'
        · cases j with
          | zero =>
            simp only [List.getElem?_cons_zero, Option.some.injEq, R.o.injEq] at e
            subst e
            rw [q] at q'; cases q'
          | succ j => simpa using a4 j l y (by simpa using e) q'
      · rename_i x d q
        have ho : ows (.o i :: rs) env0 = i :: ows rs env0 := by simp only [ows, q]
        rw [ho] at nd hl ⊢
        obtain ⟨n1, n2⟩ := List.nodup_cons.mp nd
        have il : i < env.length := hl i List.mem_cons_self
        obtain ⟨a1, a2, a3, a4⟩ := bak_at h n2 (fun j hj => by rw [List.length_set]; exact hl j (List.mem_cons_of_mem _ hj))
        have ei : e2[i]? = some (.p d) := by rw [a2 i n1, List.getElem?_set]; simp [il]
        refine ⟨by rw [a1, List.length_set], fun j hj => ?_, fun j l y e q' => ?_, fun j l y e q' => ?_⟩
        · rw [List.mem_cons, not_or] at hj
          rw [a2 j hj.2, List.getElem?_set_ne fun z => hj.1 z.symm]
        · cases j with
          | zero =>
            simp only [List.getElem?_cons_zero, Option.some.injEq, R.o.injEq] at e
            subst e
            rw [q] at q'; cases q'
          | succ j => simpa using a3 j l y (by simpa using e) q'
        · cases j with
          | zero =>
            simp only [List.getElem?_cons_zero, Option.some.injEq, R.o.injEq] at e
            subst e
            exact ⟨d, rfl, ei⟩
          | succ j => simpa using a4 j l y (by simpa using e) q'
      · cases h
end
end PL
set_option maxHeartbeats 4000000
namespace PL
open PySem PySem.Spec L2
section
variable {C : Ct} {G : Gh} {B : Addr → Prop} {H : Hp} {σ : L2.St} {env : En} {vs : List V} {rs : List R} {as : List Sl}
theorem map_at {vs : List V} {j : Nat} {v : V} (h : vs[j]? = some v) : (vs.map some)[j]? = some (some v) := by
  rw [List.getElem?_map, h]; rfl
/-- an argument's address is that of a name -/
theorem arg_own (E : EnvR C G B H σ env) (L : ResL C G B σ env H vs rs) (ha : argS rs env = some as) {j : Nat} {a : Addr} {d : D} (h : IsOw (vs.map some) as j a d) :
    ∃ i, rs[j]? = some (.o i) ∧ IsOw σ env i a d ∧ as[j]? = some (.p d) := by
  obtain ⟨h1, h2⟩ := h
  have hat := fun {j s} => (argS_at ha).2 (j := j) (s := s)
  rcases h1 with h1 | h1
  · rcases hat h1 with ⟨d', e, _⟩ | ⟨d', i, e, _⟩ <;> cases e
  · rcases hat h1 with ⟨d', e, _⟩ | ⟨d', i, e, hr, he⟩
    · cases e
    · cases e
      refine ⟨i, hr, ⟨he, ?_⟩, h1⟩
      obtain ⟨v, hv, q⟩ := L.at hr
      rw [map_at hv] at h2
      cases h2
      rcases q with ⟨d', e, _⟩ | ⟨i', e, q⟩
      · cases e
      · cases e; exact q
theorem arg_sub (E : EnvR C G B H σ env) (L : ResL C G B σ env H vs rs) (ha : argS rs env = some as) : ∀ a, Own (vs.map some) as a → Own σ env a := fun a ⟨j, d, h⟩ =>
  let ⟨i, _, q, _⟩ := arg_own E L ha h
  ⟨i, d, q⟩
abbrev Bcal (B : Addr → Prop) (σ : L2.St) (env : En) (vs : List V) (as : List Sl) : Addr → Prop := fun a => AA B σ env a ∧ ¬ Own (vs.map some) as a
theorem aa_cal (E : EnvR C G B H σ env) (L : ResL C G B σ env H vs rs) (ha : argS rs env = some as) : ∀ a, AA (Bcal B σ env vs as) (vs.map some) as a ↔ AA B σ env a := fun a => by
  constructor
  · rintro (h | h)
    · exact h.1
    · exact .inr (arg_sub E L ha a h)
  · intro h
    by_cases q : Own (vs.map some) as a
    · exact .inr q
    · exact .inl ⟨h, q⟩
theorem call_pre (E : EnvR C G B H σ env) (L : ResL C G B σ env H vs rs) (ha : argS rs env = some as) (nd : nodupB (ows rs env) = true) :
    EnvR C (Gc H vs as) (Bcal B σ env vs as) H (vs.map some) as := by
  have hat := fun {j s} => (argS_at ha).2 (j := j) (s := s)
  have aa := aa_cal E L ha
  have mv : Mv (AA B σ env) (AA (Bcal B σ env vs as) (vs.map some) as) H H := .sub fun b z => (aa b).mp z
  refine ⟨?_, fun j d h => ?_, fun j d h => ?_, fun j d h => ?_, fun i j a d e p q => ?_, fun a z => E.adom z.1, fun a z q => z.2 q, fun _ z => z⟩
  · rw [List.length_map, L.length, (argS_at ha).1]
  · rcases hat h with ⟨d', e, hr⟩ | ⟨d', i, e, _⟩
    · cases e
      have val : ∀ v, vs[j]? = some v → Rp C (AA B σ env) H v d → ∃ v, (vs.map some)[j]? = some (some v) ∧ Rp C (AA (Bcal B σ env vs as) (vs.map some) as) H v d := fun v hv r => ⟨v, map_at hv, r.mv mv⟩
      rcases hr with hr | hr | ⟨i, hr, he⟩
      · obtain ⟨v, hv, ⟨d', e, r⟩ | ⟨i, e, _⟩⟩ := L.at hr
        · cases e; exact val v hv r
        · cases e
      · obtain ⟨v, hv, ⟨d', e, r⟩ | ⟨i, e, _⟩⟩ := L.at hr
        · cases e
        · cases e
      · obtain ⟨v, hv, ⟨d', e, r⟩ | ⟨i', e, q⟩⟩ := L.at hr
        · cases e
        · cases e
          obtain ⟨w, e', r⟩ := E.val i d he
          rw [q] at e'; cases e'
          exact val v hv r
    · cases e
  · rcases hat h with ⟨d', e, _⟩ | ⟨d', i, e, _⟩ <;> cases e
  · rcases hat h with ⟨d', e, _⟩ | ⟨d', i, e, hr, he⟩
    · cases e
    · cases e
      obtain ⟨v, hv, ⟨d', e, r⟩ | ⟨i', e, q⟩⟩ := L.at hr
      · cases e
      · cases e
        have fin : ∀ a, σ[i]? = some (some (.ref a)) → OwnAt C (AA B σ env) H a d → ∃ a, (vs.map some)[j]? = some (some (.ref a)) ∧ OwnAt C (AA (Bcal B σ env vs as) (vs.map some) as) H a d ∧ (vs.map some)[j]? = some (some (.ref a)) ∧ (∃ d, as[j]? = some (.p d)) := fun a e1 e2 => by
          rw [q] at e1; cases e1
          exact ⟨a, map_at hv, e2.mv mv (fun _ => id), map_at hv, _, h⟩
        rcases he with he | he
        · obtain ⟨a, e1, e2, _⟩ := E.own i d he
          exact fin a e1 e2
        · obtain ⟨a, e1, e2, _⟩ := E.par i d he
          exact fin a e1 e2
  · obtain ⟨i1, r1, o1, _⟩ := arg_own E L ha p
    obtain ⟨i2, r2, o2, _⟩ := arg_own E L ha q
    have e : i1 = i2 := E.inj i1 i2 a d _ o1 o2
    subst e
    -- the same name twice is not handed over
    have nd' := nodup_of nd
    have key : ∀ {rs : List R} {i j : Nat}, (ows rs env).Nodup → rs[i]? = some (.o i1) → rs[j]? = some (.o i1) → i = j := by
      intro rs
      induction rs with
      | nil => intro i j _ h; simp at h
      | cons r rs ih =>
        intro i j nd hi hj
        have hmem : ∀ {l : Nat}, rs[l]? = some (.o i1) → i1 ∈ ows rs env := fun {l} h => ows_mem.mpr ⟨l, h, d, o1.1⟩
        have hh : r = .o i1 → ows (r :: rs) env = i1 :: ows rs env := fun z => by
          subst z
          rcases o1.1 with z | z <;> simp only [ows, z]
        have sub : (ows rs env).Nodup := by
          cases r with
          | v x => simpa only [ows] using nd
          | f x => simpa only [ows] using nd
          | o l =>
            simp only [ows] at nd
            split at nd
            · exact (List.nodup_cons.mp nd).2
            · exact (List.nodup_cons.mp nd).2
            · exact nd
        cases i with
        | zero =>
          cases j with
          | zero => rfl
          | succ j =>
            have h0 : r = .o i1 := by simpa using hi
            rw [hh h0] at nd
            exact absurd (hmem (by simpa using hj)) (List.nodup_cons.mp nd).1
        | succ i =>
          cases j with
          | zero =>
            have h0 : r = .o i1 := by simpa using hj
            rw [hh h0] at nd
            exact absurd (hmem (by simpa using hi)) (List.nodup_cons.mp nd).1
          | succ j => exact congrArg Nat.succ (ih (i := i) (j := j) sub (by simpa using hi) (by simpa using hj))
    exact key nd' r1 r2
theorem call_post {fin : List Sl} {r : R} {H' : Hp} {v : V} {e2 : En} (E : EnvR C G B H σ env) (L : ResL C G B σ env H vs rs) (ha : argS rs env = some as) (nd : nodupB (ows rs env) = true)
    (hb : bak env rs fin env = some e2) (P : Ret C (Bcal B σ env vs as) H (vs.map some) as fin r H' v) : Stp H σ env H' σ e2 ∧ EnvR C G B H' σ e2 ∧ ResR C G B H σ e2 H' v r := by
  have aa := aa_cal E L ha
  have oml : ∀ i ∈ ows rs env, i < env.length := fun i hi => by
    obtain ⟨_, _, d, h | h⟩ := ows_mem.mp hi <;> exact (List.getElem?_eq_some_iff.mp h).1
  obtain ⟨b1, b2, b3, b4⟩ := bak_at hb (nodup_of nd) oml
  obtain ⟨A', rv, pf⟩ := P.ret
  -- what e2 has, env had, by the same kind
  have kind : ∀ (i : Nat), (∀ (d : D), e2[i]? = some (.v d) → env[i]? = some (.v d)) ∧ (∀ (d : D), e2[i]? = some (.o d) → ∃ d', env[i]? = some (.o d')) ∧ (∀ (d : D), e2[i]? = some (.p d) → ∃ d', env[i]? = some (.p d')) := fun i => by
    by_cases hi : i ∈ ows rs env
    · obtain ⟨j, hj, d0, h0 | h0⟩ := ows_mem.mp hi
      · obtain ⟨d', _, q⟩ := b3 j i d0 hj h0
        rw [q]
        exact ⟨nofun, fun d _ => ⟨d0, h0⟩, nofun⟩
      · obtain ⟨d', _, q⟩ := b4 j i d0 hj h0
        rw [q]
        exact ⟨nofun, nofun, fun d _ => ⟨d0, h0⟩⟩
    · have q := b2 i hi
      exact ⟨fun d h => q.symm.trans h, fun d h => ⟨d, q.symm.trans h⟩, fun d h => ⟨d, q.symm.trans h⟩⟩
  have isow : ∀ i a d, IsOw σ e2 i a d → ∃ d', IsOw σ env i a d' := fun i a d ⟨h, e⟩ => by
    rcases h with h | h
    · obtain ⟨d', q⟩ := (kind i).2.1 d h
      exact ⟨d', .inl q, e⟩
    · obtain ⟨d', q⟩ := (kind i).2.2 d h
      exact ⟨d', .inr q, e⟩
  have own2 : ∀ a, Own σ e2 a → Own σ env a := fun a ⟨i, d, h⟩ => let ⟨d', q⟩ := isow i a d h; ⟨i, d', q⟩
  have nown : ∀ b, ¬ AA B σ env b → ¬ Own (vs.map some) as b := fun b n z => n (.inr (arg_sub E L ha b z))
  have S : Stp H σ env H' σ e2 := ⟨fun b o e n => P.fr b o e fun z => n (arg_sub E L ha b z), P.dom, fun b z => .inl (own2 b z)⟩
  -- the avoided set behind the call, for a set of the caller's
  have core : ∀ (B' : Addr → Prop), (∀ a, B' a → B a ∨ H a = none) → (∀ a, AA B' σ e2 a → A' a ∨ H a = none) → (∀ a, AA B' σ e2 a → A' a) → (∀ a, B' a → H' a ≠ none) → EnvR C G B' H' σ e2 := by
    intro B' hB hA hA2 hd
    have mvE : Mv (AA B σ env) (AA B' σ e2) H H' := ⟨fun b o e n => P.fr b o e (nown b n), fun b z => by
      rcases z with z | z
      · exact (hB b z).elim (fun q => .inl (.inl q)) .inr
      · exact .inl (.inr (own2 b z))⟩
    have stay : ∀ i a d, IsOw σ env i a d → i ∉ ows rs env → ∀ o, H a = some o → H' a = some o := fun i a d h hi o e => P.fr a o e fun ⟨j, d', z⟩ => by
      obtain ⟨i', hr, q, _⟩ := arg_own E L ha z
      have : i = i' := E.inj i i' a d d' h q
      subst this
      exact hi (ows_mem.mpr ⟨j, hr, d', q.1⟩)
    have back : ∀ (j i : Nat) (a : Addr) d0, rs[j]? = some (.o i) → IsOw σ env i a d0 → ∀ d', fin[j]? = some (.p d') → OwnAt C A' H' a d' := fun j i a d0 hr ho d' hf => by
      obtain ⟨w, hv, ⟨d1, e1, _⟩ | ⟨i', e1, hs⟩⟩ := L.at hr
      · cases e1
      · cases e1
        have hs' := ho.2
        rw [hs] at hs'; cases hs'
        have hj : j < as.length := by rw [(argS_at ha).1]; exact (List.getElem?_eq_some_iff.mp hr).1
        have haj : as[j]? = some (.p d0) := by
          rcases (argS_at ha).2 (List.getElem?_eq_getElem hj) with ⟨d1, e1, q⟩ | ⟨d1, i1, e1, q1, q2⟩
          · rcases q with q | q | ⟨i1, q, q2⟩
            · rw [hr] at q; cases q
            · rw [hr] at q; cases q
            · rw [hr] at q; cases q
              rcases ho.1 with z | z
              · rw [z] at q2; cases q2
              · rw [z] at q2; cases q2
          · rw [hr] at q1; cases q1
            rw [List.getElem?_eq_getElem hj, e1]
            rcases ho.1 with z | z
            · rcases q2 with q2 | q2
              · rw [z] at q2; cases q2; rfl
              · rw [z] at q2; cases q2
            · rcases q2 with q2 | q2
              · rw [z] at q2; cases q2
              · rw [z] at q2; cases q2; rfl
        obtain ⟨a', d2, ea, ef, oa⟩ := pf j d0 haj
        rw [map_at hv] at ea; cases ea
        rw [hf] at ef; cases ef
        exact oa
    have mvA : Mv A' (AA B' σ e2) H' H' := .sub hA2
    refine ⟨by rw [b1]; exact E.len, fun i d h => ?_, fun i d h => ?_, fun i d h => ?_, fun i j a d e p q => ?_, hd, fun a z q => ?_, fun a h => P.dom a (E.ent a h)⟩
    · obtain ⟨w, e, rr⟩ := E.val i d ((kind i).1 d h)
      exact ⟨w, e, rr.mv mvE⟩
    · obtain ⟨d0, h0⟩ := (kind i).2.1 d h
      obtain ⟨a, e, oa, z⟩ := E.own i d0 h0
      refine ⟨a, e, ?_, z⟩
      by_cases hi : i ∈ ows rs env
      · obtain ⟨j, hj, _⟩ := ows_mem.mp hi
        obtain ⟨d', hf, q⟩ := b3 j i d0 hj h0
        rw [h] at q; cases q
        exact (back j i a d0 hj ⟨.inl h0, e⟩ d hf).mv mvA fun _ => id
      · rw [b2 i hi, h0] at h; cases h
        exact oa.mv mvE fun o => stay i a d ⟨.inl h0, e⟩ hi o
    · obtain ⟨d0, h0⟩ := (kind i).2.2 d h
      obtain ⟨a, e, oa, z⟩ := E.par i d0 h0
      refine ⟨a, e, ?_, z⟩
      by_cases hi : i ∈ ows rs env
      · obtain ⟨j, hj, _⟩ := ows_mem.mp hi
        obtain ⟨d', hf, q⟩ := b4 j i d0 hj h0
        rw [h] at q; cases q
        exact (back j i a d0 hj ⟨.inr h0, e⟩ d hf).mv mvA fun _ => id
      · rw [b2 i hi, h0] at h; cases h
        exact oa.mv mvE fun o => stay i a d ⟨.inr h0, e⟩ hi o
    · obtain ⟨_, p'⟩ := isow i a d p
      obtain ⟨_, q'⟩ := isow j a e q
      exact E.inj i j a _ _ p' q'
    · rcases hB a z with z | z
      · exact E.bdis a z (own2 a q)
      · obtain ⟨d, r⟩ := E.owned (own2 a q)
        exact r.dom z
  have bdom' : ∀ a, B a → H' a ≠ none := fun a z => P.dom a (E.bdom a z)
  cases rv with
  | v hv =>
    have E2 := core B (fun a z => .inl z) (fun a z => .inl ((aa a).mpr (z.elim .inl fun q => .inr (own2 a q)))) (fun a z => (aa a).mpr (z.elim .inl fun q => .inr (own2 a q))) bdom'
    exact ⟨S, E2, .v (hv.mv (.sub fun b z => (aa b).mpr (z.elim .inl fun q => .inr (own2 b q))))⟩
  | @f p d hp oa =>
    have sub : ∀ a, AA (Plus B p) σ e2 a → Plus (AA (Bcal B σ env vs as) (vs.map some) as) p a := fun a z => by
      rcases z with (z | z) | z
      · exact .inl ((aa a).mpr (.inl z))
      · exact .inr z
      · exact .inl ((aa a).mpr (.inr (own2 a z)))
    have nB : ¬ B p := fun z => E.bdom p z hp
    have E3 := core (Plus B p) (fun a z => z.elim .inl fun q => .inr (q ▸ hp)) (fun a z => .inl (sub a z)) sub fun a z => z.elim (bdom' a) fun q => by rw [q]; exact oa.dom
    refine ⟨S, E3.less fun a z => .inl z, .f hp nB (oa.mv (.sub fun b z => ?_) fun _ => id) E3⟩
    rcases z with (z | z) | z
    · exact .inl ((aa b).mpr (.inl z))
    · exact .inr z
    · exact .inl ((aa b).mpr (.inr (own2 b z)))
end
end PL
set_option maxHeartbeats 4000000
namespace PL
open PySem PySem.Spec L2
section
variable {C : Ct} {G : Gh} {B : Addr → Prop} {H H' : Hp} {σ : L2.St} {env env' : En}
theorem putS_is {i : Nat} {s : Sl} (h : putS env i s = some env') : env' = env.set i s ∧ i < env.length ∧ ∀ (d : D), env[i]? ≠ some (.p d) := by
  unfold putS at h
  split at h
  · cases h
  · rename_i x hx q
    cases h
    refine ⟨rfl, (List.getElem?_eq_some_iff.mp q).1, fun d e => ?_⟩
    rw [q] at e
    cases e
    exact hx d rfl
  · cases h
theorem set_st {i j : Nat} {v : V} {w : Option V} (h : (σ.set i (some v))[j]? = some w) : (j = i ∧ w = some v ∧ i < σ.length) ∨ (j ≠ i ∧ σ[j]? = some w) := by
  by_cases hj : i = j
  · subst hj
    rw [List.getElem?_set] at h
    by_cases hl : i < σ.length
    · simp [hl] at h
      exact .inl ⟨rfl, h.symm, hl⟩
    · simp [hl] at h
  · rw [List.getElem?_set_ne hj] at h
    exact .inr ⟨fun z => hj z.symm, h⟩
/-- a shared value is put at a name -/
theorem isow_putv {i j : Nat} {a : Addr} {d x : D} {v : V} (h : IsOw (σ.set i (some v)) (env.set i (.v d)) j a x) : IsOw σ env j a x ∧ j ≠ i := by
  obtain ⟨h1, h2⟩ := h
  have hj : j ≠ i := fun z => by
    subst z
    rcases h1 with h | h
    · rcases get_set_v h with ⟨_, e, _⟩ | ⟨e, _⟩
      · cases e
      · exact e rfl
    · rcases get_set_v h with ⟨_, e, _⟩ | ⟨e, _⟩
      · cases e
      · exact e rfl
  rcases set_st h2 with ⟨e, _⟩ | ⟨_, h2⟩
  · exact absurd e hj
  · refine ⟨⟨?_, h2⟩, hj⟩
    rcases h1 with h | h
    · rcases get_set_v h with ⟨e, _⟩ | ⟨_, e⟩
      · exact absurd e hj
      · exact .inl e
    · rcases get_set_v h with ⟨e, _⟩ | ⟨_, e⟩
      · exact absurd e hj
      · exact .inr e
theorem own_putv {i : Nat} {d : D} {v : V} : ∀ a, Own (σ.set i (some v)) (env.set i (.v d)) a → Own σ env a := fun a ⟨j, x, h⟩ => ⟨j, x, (isow_putv h).1⟩
theorem EnvR.put (E : EnvR C G B H σ env) {i : Nat} {d : D} {v : V} (r : Rp C (AA B σ env) H v d) (h : putS env i (.v d) = some env') : EnvR C G B H (σ.set i (some v)) env' := by
  obtain ⟨rfl, hl, np⟩ := putS_is h
  have m : Mv (AA B σ env) (AA B (σ.set i (some v)) (env.set i (.v d))) H H := .sub fun b z => z.elim .inl fun q => .inr (own_putv b q)
  have stv : ∀ {j : Nat}, j ≠ i → (σ.set i (some v))[j]? = σ[j]? := fun {j} hj => List.getElem?_set_ne fun z => hj z.symm
  refine ⟨by rw [List.length_set, List.length_set]; exact E.len, fun j x q => ?_, fun j x q => ?_, fun j x q => ?_, fun j k a x y p q => E.inj j k a x y (isow_putv p).1 (isow_putv q).1, E.bdom, fun a z q => E.bdis a z (own_putv a q), E.ent⟩
  · rcases get_set_v q with ⟨e1, e2, _⟩ | ⟨hj, q⟩
    · subst e1
      cases e2
      refine ⟨v, ?_, r.mv m⟩
      rw [List.getElem?_set]
      have := E.len
      simp [show j < σ.length by omega]
    · obtain ⟨w, e, rr⟩ := E.val j x q
      exact ⟨w, by rw [stv hj]; exact e, rr.mv m⟩
  · rcases get_set_v q with ⟨e1, e2, _⟩ | ⟨hj, q⟩
    · cases e2
    · obtain ⟨a, e, o, z⟩ := E.own j x q
      exact ⟨a, by rw [stv hj]; exact e, o.mv m fun _ => id, z⟩
  · rcases get_set_v q with ⟨e1, e2, _⟩ | ⟨hj, q⟩
    · cases e2
    · obtain ⟨a, e, o, z⟩ := E.par j x q
      exact ⟨a, by rw [stv hj]; exact e, o.mv m fun _ => id, z⟩
theorem Stp.put {i : Nat} {d : D} {v : V} (h : putS env i (.v d) = some env') : Stp H σ env H (σ.set i (some v)) env' := by
  obtain ⟨rfl, hl, np⟩ := putS_is h
  exact ⟨fun _ _ e _ => e, fun _ z => z, fun b z => .inl (own_putv b z)⟩
/-- a fresh list is put at a name -/
theorem isow_puto {i j : Nat} {p a : Addr} {d x : D} (h : IsOw (σ.set i (some (.ref p))) (env.set i (.o d)) j a x) : (j = i ∧ a = p) ∨ (IsOw σ env j a x ∧ j ≠ i) := by
  obtain ⟨h1, h2⟩ := h
  rcases set_st h2 with ⟨e, e2, _⟩ | ⟨hj, h2⟩
  · cases e2
    exact .inl ⟨e, rfl⟩
  · refine .inr ⟨⟨?_, h2⟩, hj⟩
    rcases h1 with h | h
    · rcases get_set_v h with ⟨e, _⟩ | ⟨_, e⟩
      · exact absurd e hj
      · exact .inl e
    · rcases get_set_v h with ⟨e, _⟩ | ⟨_, e⟩
      · exact absurd e hj
      · exact .inr e
theorem EnvR.puto {p : Addr} {d : D} (E : EnvR C G (Plus B p) H σ env) (r : OwnAt C (AA (Plus B p) σ env) H p d) (h0 : G.H0 p = none) (nB : ¬ B p) {i : Nat} (h : putS env i (.o d) = some env') :
    EnvR C G B H (σ.set i (some (.ref p))) env' := by
  obtain ⟨rfl, hl, np⟩ := putS_is h
  have sub : ∀ b, AA B (σ.set i (some (.ref p))) (env.set i (.o d)) b → AA (Plus B p) σ env b := fun b z => by
    rcases z with z | ⟨j, x, z⟩
    · exact .inl (.inl z)
    · rcases isow_puto z with ⟨_, e⟩ | ⟨z, _⟩
      · exact .inl (.inr e)
      · exact .inr ⟨j, x, z⟩
  have m : Mv (AA (Plus B p) σ env) (AA B (σ.set i (some (.ref p))) (env.set i (.o d))) H H := .sub sub
  have stv : ∀ {j : Nat}, j ≠ i → (σ.set i (some (.ref p)))[j]? = σ[j]? := fun {j} hj => List.getElem?_set_ne fun z => hj z.symm
  have nown : ¬ Own σ env p := E.bdis p (.inr rfl)
  refine ⟨by rw [List.length_set, List.length_set]; exact E.len, fun j x q => ?_, fun j x q => ?_, fun j x q => ?_, fun j k a x y q1 q2 => ?_, fun a z => E.bdom a (.inl z), fun a z q => ?_, E.ent⟩
  · rcases get_set_v q with ⟨e1, e2, _⟩ | ⟨hj, q⟩
    · cases e2
    · obtain ⟨w, e, rr⟩ := E.val j x q
      exact ⟨w, by rw [stv hj]; exact e, rr.mv m⟩
  · rcases get_set_v q with ⟨e1, e2, _⟩ | ⟨hj, q⟩
    · subst e1
      cases e2
      refine ⟨p, ?_, r.mv m fun _ => id, h0⟩
      rw [List.getElem?_set]
      have := E.len
      simp [show j < σ.length by omega]
    · obtain ⟨a, e, o, z⟩ := E.own j x q
      exact ⟨a, by rw [stv hj]; exact e, o.mv m fun _ => id, z⟩
  · rcases get_set_v q with ⟨e1, e2, _⟩ | ⟨hj, q⟩
    · cases e2
    · obtain ⟨a, e, o, z⟩ := E.par j x q
      exact ⟨a, by rw [stv hj]; exact e, o.mv m fun _ => id, z⟩
  · rcases isow_puto q1 with ⟨e1, f1⟩ | ⟨z1, n1⟩
    · rcases isow_puto q2 with ⟨e2, f2⟩ | ⟨z2, n2⟩
      · rw [e1, e2]
      · rw [f1] at z2; exact absurd ⟨k, y, z2⟩ nown
    · rcases isow_puto q2 with ⟨e2, f2⟩ | ⟨z2, n2⟩
      · rw [f2] at z1; exact absurd ⟨j, x, z1⟩ nown
      · exact E.inj j k a x y z1 z2
  · rcases q with ⟨j, x, q⟩
    rcases isow_puto q with ⟨_, e⟩ | ⟨q, _⟩
    · exact nB (e ▸ z)
    · exact E.bdis a (.inl z) ⟨j, x, q⟩
theorem own_puto {i : Nat} {p : Addr} {d : D} : ∀ a, Own (σ.set i (some (.ref p))) (env.set i (.o d)) a → Own σ env a ∨ a = p := fun a ⟨j, x, h⟩ => by
  rcases isow_puto h with ⟨_, e⟩ | ⟨h, _⟩
  · exact .inr e
  · exact .inl ⟨j, x, h⟩
/-- the list that a name has is changed -/
theorem isow_ch {i j : Nat} {s : Sl} {a : Addr} {x d0 : D} (h0 : env[i]? = some (.o d0) ∨ env[i]? = some (.p d0)) (h : IsOw σ (env.set i s) j a x) : ∃ y, IsOw σ env j a y := by
  obtain ⟨h1, h2⟩ := h
  by_cases hj : j = i
  · subst hj; exact ⟨d0, h0, h2⟩
  · rw [List.getElem?_set_ne fun z => hj z.symm] at h1
    exact ⟨x, h1, h2⟩
/-- H' differs from H at the address of name i alone -/
theorem EnvR.chg {i : Nat} {a : Addr} {d0 d : D} {s : Sl} (E : EnvR C G B H σ env) (h0 : IsOw σ env i a d0) (hs : (env[i]? = some (.o d0) ∧ s = .o d) ∨ (env[i]? = some (.p d0) ∧ s = .p d))
    (k : ∀ b o, H b = some o → b ≠ a → H' b = some o) (dm : ∀ b, H b ≠ none → H' b ≠ none) (r : OwnAt C (AA B σ env) H' a d) : EnvR C G B H' σ (env.set i s) ∧ Stp H σ env H' σ (env.set i s) := by
  have own : ∀ b, Own σ (env.set i s) b → Own σ env b := fun b ⟨j, x, z⟩ => let ⟨y, q⟩ := isow_ch h0.1 z; ⟨j, y, q⟩
  have oa : Own σ env a := ⟨i, d0, h0⟩
  have hl : i < env.length := by rcases h0.1 with z | z <;> exact (List.getElem?_eq_some_iff.mp z).1
  have m : Mv (AA B σ env) (AA B σ (env.set i s)) H H' := ⟨fun b o e n => k b o e fun z => n (.inr (z ▸ oa)), fun b z => z.elim (fun q => .inl (.inl q)) fun q => .inl (.inr (own b q))⟩
  have mr : Mv (AA B σ env) (AA B σ (env.set i s)) H' H' := .sub fun b z => z.elim .inl fun q => .inr (own b q)
  have other : ∀ {j : Nat} {b : Addr} {x : D}, IsOw σ env j b x → j ≠ i → b ≠ a := fun {j b x} q hj z => by
    subst z
    exact hj (E.inj j i b x d0 q h0)
  refine ⟨⟨by rw [List.length_set]; exact E.len, fun j x q => ?_, fun j x q => ?_, fun j x q => ?_, fun j l b x y p q => ?_, fun b z => dm b (E.bdom b z), fun b z q => E.bdis b z (own b q), fun b z => dm b (E.ent b z)⟩,
    ⟨fun b o e n => k b o e fun z => n (z ▸ oa), dm, fun b z => .inl (own b z)⟩⟩
  · rcases get_set_v q with ⟨e1, e2, _⟩ | ⟨hj, q⟩
    · rcases hs with ⟨_, e⟩ | ⟨_, e⟩
      · rw [e] at e2; cases e2
      · rw [e] at e2; cases e2
    · obtain ⟨w, e, rr⟩ := E.val j x q
      exact ⟨w, e, rr.mv m⟩
  · rcases get_set_v q with ⟨e1, e2, _⟩ | ⟨hj, q⟩
    · subst e1
      rcases hs with ⟨hx, e⟩ | ⟨hx, e⟩
      · rw [e] at e2; cases e2
        obtain ⟨b, e, _, z⟩ := E.own j d0 hx
        have := h0.2
        rw [e] at this; cases this
        exact ⟨a, e, r.mv mr fun _ => id, z⟩
      · rw [e] at e2; cases e2
    · obtain ⟨b, e, o, z⟩ := E.own j x q
      exact ⟨b, e, o.mv m fun o' q' => k b o' q' (other ⟨.inl q, e⟩ hj), z⟩
  · rcases get_set_v q with ⟨e1, e2, _⟩ | ⟨hj, q⟩
    · subst e1
      rcases hs with ⟨hx, e⟩ | ⟨hx, e⟩
      · rw [e] at e2; cases e2
      · rw [e] at e2; cases e2
        obtain ⟨b, e, _, z⟩ := E.par j d0 hx
        have := h0.2
        rw [e] at this; cases this
        exact ⟨a, e, r.mv mr fun _ => id, z⟩
    · obtain ⟨b, e, o, z⟩ := E.par j x q
      exact ⟨b, e, o.mv m fun o' q' => k b o' q' (other ⟨.inr q, e⟩ hj), z⟩
  · obtain ⟨_, p'⟩ := isow_ch h0.1 p
    obtain ⟨_, q'⟩ := isow_ch h0.1 q
    exact E.inj j l b _ _ p' q'
/-! ### the names of a comprehension -/
theorem wipe_get : ∀ {own : List Nat} {i : Nat}, i ∉ own → (wipe σ own)[i]? = σ[i]?
  | [], _, _ => rfl
  | j :: r, i, h => by
    rw [List.mem_cons, not_or] at h
    unfold wipe
    rw [List.getElem?_set_ne fun z => h.1 z.symm, wipe_get h.2]
theorem wipeE_get : ∀ {own : List Nat} {i : Nat}, i ∉ own → (wipeE env own)[i]? = env[i]?
  | [], _, _ => rfl
  | j :: r, i, h => by
    rw [List.mem_cons, not_or] at h
    unfold wipeE
    rw [List.getElem?_set_ne fun z => h.1 z.symm, wipeE_get h.2]
theorem wipeE_len : ∀ {own : List Nat}, (wipeE env own).length = env.length
  | [] => rfl
  | j :: r => by unfold wipeE; rw [List.length_set, wipeE_len]
theorem wipeE_n : ∀ {own : List Nat} {i : Nat}, i ∈ own → ∀ {s : Sl}, (wipeE env own)[i]? = some s → s = .n
  | j :: r, i, h, s, e => by
    unfold wipeE at e
    rcases get_set_v e with ⟨_, e2, _⟩ | ⟨hj, e⟩
    · exact e2
    · rcases List.mem_cons.mp h with z | z
      · exact absurd z hj
      · exact wipeE_n z e
abbrev Bw (B : Addr → Prop) (σ : L2.St) (env : En) (own : List Nat) : Addr → Prop := fun a => B a ∨ ∃ i, i ∈ own ∧ ∃ d, IsOw σ env i a d
theorem isow_wipe {own : List Nat} {i : Nat} {a : Addr} {d : D} (h : IsOw (wipe σ own) (wipeE env own) i a d) : i ∉ own ∧ IsOw σ env i a d := by
  have hi : i ∉ own := fun z => by
    rcases h.1 with q | q <;> cases wipeE_n z q
  refine ⟨hi, ?_⟩
  obtain ⟨h1, h2⟩ := h
  rw [wipeE_get hi] at h1
  rw [wipe_get hi] at h2
  exact ⟨h1, h2⟩
theorem EnvR.wipe (E : EnvR C G B H σ env) (own : List Nat) : EnvR C G (Bw B σ env own) H (L2.wipe σ own) (wipeE env own) := by
  have sub : ∀ b, AA (Bw B σ env own) (L2.wipe σ own) (wipeE env own) b → AA B σ env b := fun b z => by
    rcases z with (z | ⟨i, _, d, z⟩) | ⟨i, d, z⟩
    · exact .inl z
    · exact .inr ⟨i, d, z⟩
    · exact .inr ⟨i, d, (isow_wipe z).2⟩
  have m : Mv (AA B σ env) (AA (Bw B σ env own) (L2.wipe σ own) (wipeE env own)) H H := .sub sub
  have ni : ∀ {i : Nat} {s : Sl}, (wipeE env own)[i]? = some s → s ≠ .n → i ∉ own := fun {i s} h n z => n (wipeE_n z h)
  refine ⟨by rw [wipe_length, wipeE_len]; exact E.len, fun j x q => ?_, fun j x q => ?_, fun j x q => ?_, fun j k a x y p q => E.inj j k a x y (isow_wipe p).2 (isow_wipe q).2, fun a z => ?_, fun a z q => ?_, E.ent⟩
  · have hj := ni q nofun
    rw [wipeE_get hj] at q
    obtain ⟨w, e, rr⟩ := E.val j x q
    exact ⟨w, by rw [wipe_get hj]; exact e, rr.mv m⟩
  · have hj := ni q nofun
    rw [wipeE_get hj] at q
    obtain ⟨w, e, rr, z⟩ := E.own j x q
    exact ⟨w, by rw [wipe_get hj]; exact e, rr.mv m fun _ => id, z⟩
  · have hj := ni q nofun
    rw [wipeE_get hj] at q
    obtain ⟨w, e, rr, z⟩ := E.par j x q
    exact ⟨w, by rw [wipe_get hj]; exact e, rr.mv m fun _ => id, z⟩
  · rcases z with z | ⟨i, _, d, z⟩
    · exact E.bdom a z
    · exact E.adom (.inr ⟨i, d, z⟩)
  · obtain ⟨j, x, q⟩ := q
    obtain ⟨nj, q⟩ := isow_wipe q
    rcases z with z | ⟨i, hi, d, z⟩
    · exact E.bdis a z ⟨j, x, q⟩
    · exact nj (E.inj i j a d x z q ▸ hi)
theorem restE_get {old : En} : ∀ {own : List Nat} {i : Nat}, i ∉ own → (restE env old own)[i]? = env[i]?
  | [], _, _ => rfl
  | j :: r, i, h => by
    rw [List.mem_cons, not_or] at h
    unfold restE
    split
    · rw [List.getElem?_set_ne fun z => h.1 z.symm, restE_get h.2]
    · exact restE_get h.2
theorem restE_len {old : En} : ∀ {own : List Nat}, (restE env old own).length = env.length
  | [] => rfl
  | j :: r => by
    unfold restE
    split
    · rw [List.length_set, restE_len]
    · exact restE_len
theorem restE_old {old : En} (hl : old.length = env.length) : ∀ {own : List Nat} {i : Nat}, i ∈ own → (restE env old own)[i]? = old[i]?
  | j :: r, i, h => by
    have tail : i ∈ r → (restE env old r)[i]? = old[i]? := fun z => restE_old hl z
    unfold restE
    split
    · rename_i s hs
      by_cases hj : j = i
      · subst hj
        rw [List.getElem?_set, hs]
        have : j < (restE env old r).length := by
          rw [restE_len, ← hl]
          exact (List.getElem?_eq_some_iff.mp hs).1
        simp [this]
      · rw [List.getElem?_set_ne hj]
        rcases List.mem_cons.mp h with z | z
        · exact absurd z.symm hj
        · exact tail z
    · rename_i hs
      rcases List.mem_cons.mp h with z | z
      · subst z
        by_cases hi : i ∈ r
        · exact tail hi
        · rw [restE_get hi, hs]
          exact List.getElem?_eq_none (by rw [← hl]; exact List.getElem?_eq_none_iff.mp hs)
      · exact tail z
end
section
variable {C : Ct} {G : Gh} {B : Addr → Prop} {H H' : Hp} {σ σ2 : L2.St} {env e3 e6 : En}
/-- behind an item of a comprehension: the names around have again what they had -/
theorem EnvR.rest {own : List Nat} (E : EnvR C G B H σ env) (E6 : EnvR C G (Bw B σ env own) H' σ2 e6) (hl : σ2.length = σ.length) (hσ : ∀ i, i ∉ own → σ2[i]? = σ[i]?)
    (S : Stp H (L2.wipe σ own) (wipeE env own) H' σ2 e6) : EnvR C G B H' σ (restE e6 env own) ∧ Stp H σ env H' σ (restE e6 env own) ∧ ∀ b, AA B σ (restE e6 env own) b → AA (Bw B σ env own) σ2 e6 b := by
  have hlen : env.length = e6.length := by rw [← E.len, ← E6.len, hl]
  have isow : ∀ {i : Nat} {a : Addr} {d : D}, IsOw σ (restE e6 env own) i a d → (i ∈ own ∧ IsOw σ env i a d) ∨ (i ∉ own ∧ IsOw σ2 e6 i a d) := fun {i a d} ⟨h1, h2⟩ => by
    by_cases hi : i ∈ own
    · rw [restE_old hlen hi] at h1
      exact .inl ⟨hi, h1, h2⟩
    · rw [restE_get hi] at h1
      exact .inr ⟨hi, h1, by rw [hσ i hi]; exact h2⟩
  have sub : ∀ b, AA B σ (restE e6 env own) b → AA (Bw B σ env own) σ2 e6 b := fun b z => by
    rcases z with z | ⟨i, d, z⟩
    · exact .inl (.inl z)
    · rcases isow z with ⟨hi, z⟩ | ⟨_, z⟩
      · exact .inl (.inr ⟨i, hi, d, z⟩)
      · exact .inr ⟨i, d, z⟩
  have subw : ∀ b, Own (L2.wipe σ own) (wipeE env own) b → Own σ env b := fun b ⟨i, d, z⟩ => ⟨i, d, (isow_wipe z).2⟩
  have ownr : ∀ b, Own σ (restE e6 env own) b → Own σ env b ∨ H b = none := fun b ⟨i, d, z⟩ => by
    rcases isow z with ⟨_, z⟩ | ⟨_, z⟩
    · exact .inl ⟨i, d, z⟩
    · rcases S.own b ⟨i, d, z⟩ with q | q
      · exact .inl (subw b q)
      · exact .inr q
  have m6 : Mv (AA (Bw B σ env own) σ2 e6) (AA B σ (restE e6 env own)) H' H' := .sub sub
  have m0 : Mv (AA B σ env) (AA B σ (restE e6 env own)) H H' := ⟨fun b o e n => S.fr b o e fun z => n (.inr (subw b z)), fun b z => by
    rcases z with z | z
    · exact .inl (.inl z)
    · rcases ownr b z with q | q
      · exact .inl (.inr q)
      · exact .inr q⟩
  -- a name that was hidden
  have hid : ∀ {i : Nat} {a : Addr} {d : D}, i ∈ own → IsOw σ env i a d → ∀ o, H a = some o → H' a = some o := fun {i a d} hi z o e => S.fr a o e fun ⟨j, x, q⟩ => by
    obtain ⟨nj, q⟩ := isow_wipe q
    exact nj (E.inj i j a d x z q ▸ hi)
  refine ⟨⟨?_, fun i d h => ?_, fun i d h => ?_, fun i d h => ?_, fun i j a d x p q => ?_, fun a z => S.dom a (E.bdom a z), fun a z q => ?_, fun a z => S.dom a (E.ent a z)⟩,
    ⟨fun b o e n => S.fr b o e fun z => n (subw b z), S.dom, ownr⟩, sub⟩
  · rw [restE_len, ← hlen]; exact E.len
  · by_cases hi : i ∈ own
    · rw [restE_old hlen hi] at h
      obtain ⟨w, e, r⟩ := E.val i d h
      exact ⟨w, e, r.mv m0⟩
    · rw [restE_get hi] at h
      obtain ⟨w, e, r⟩ := E6.val i d h
      exact ⟨w, by rw [← hσ i hi]; exact e, r.mv m6⟩
  · by_cases hi : i ∈ own
    · rw [restE_old hlen hi] at h
      obtain ⟨a, e, r, z⟩ := E.own i d h
      exact ⟨a, e, r.mv m0 (hid hi ⟨.inl h, e⟩), z⟩
    · rw [restE_get hi] at h
      obtain ⟨a, e, r, z⟩ := E6.own i d h
      exact ⟨a, by rw [← hσ i hi]; exact e, r.mv m6 fun _ => id, z⟩
  · by_cases hi : i ∈ own
    · rw [restE_old hlen hi] at h
      obtain ⟨a, e, r, z⟩ := E.par i d h
      exact ⟨a, e, r.mv m0 (hid hi ⟨.inr h, e⟩), z⟩
    · rw [restE_get hi] at h
      obtain ⟨a, e, r, z⟩ := E6.par i d h
      exact ⟨a, by rw [← hσ i hi]; exact e, r.mv m6 fun _ => id, z⟩
  · rcases isow p with ⟨hi, p⟩ | ⟨hi, p⟩
    · rcases isow q with ⟨hj, q⟩ | ⟨hj, q⟩
      · exact E.inj i j a d x p q
      · exact absurd ⟨j, x, q⟩ (E6.bdis a (.inr ⟨i, hi, d, p⟩))
    · rcases isow q with ⟨hj, q⟩ | ⟨hj, q⟩
      · exact absurd ⟨i, d, p⟩ (E6.bdis a (.inr ⟨j, hj, x, q⟩))
      · exact E6.inj i j a d x p q
  · obtain ⟨i, d, q⟩ := q
    rcases isow q with ⟨hi, q⟩ | ⟨hi, q⟩
    · exact E.bdis a z ⟨i, d, q⟩
    · exact E6.bdis a (.inl z) ⟨i, d, q⟩
end
end PL
set_option maxHeartbeats 4000000
namespace PL
open PySem PySem.Spec L2
/-! ### the text's names -/
structure Tb where
  fn : Nat → Option Str
  np : Nat → Nat
  gl : Str → Option D
  bl : List Str
structure Tab extends Tb where
  fa : Nat → Option Addr
structure SOk (T : Tab) (F : FT) (k : Nat) (X : Cx) : Prop where
  calm : X.calm = true
  nd : X.N.Nodup
  hg : X.A.guards = some []
  hr : Room k X.A
  gl : ∀ x d, T.gl x = some d → ∃ u v, X.mg x = some u ∧ RelV v u ∧ ∀ A H, Rp ⟨X.K, T.fa⟩ A H v d
  bl : ∀ x, x ∈ T.bl → X.mg x = none
  fn : ∀ n x, T.fn n = some x → ∃ f fd ps, T.fa n = some f ∧ X.mg x = some (.ref f) ∧ PySem.W.keepIn X.K (.ref f) = true ∧ Binds X.K fd ps [] ∧
    FnG X.prog X.w X.K X.mg X.base k f fd ps (spF ⟨X.K, T.fa⟩ F n (T.np n))
theorem SOk.hu {T : Tab} {F : FT} {k : Nat} {X : Cx} (S : SOk T F k X) : X.A.units + 66 < cLine := by have := S.hr.un; omega
theorem SOk.blk {T : Tab} {F : FT} {k : Nat} {X : Cx} (S : SOk T F k X) (s : Shared) (H : Hp) (scope : Scope) (env : Env) (fp : List Addr) : SOk T F k (X.blk s H scope env fp) :=
  ⟨S.calm, S.nd, S.hg, S.hr, S.gl, S.bl, S.fn⟩
def visB (sc : Scope) (x : Str) : Bool := match sc.names.lookup x with
  | some .local => true
  | some .cell => true
  | some .free => true
  | _ => false
def locB (sc : Scope) (x : Str) : Bool := match sc.names.lookup x with
  | some .local => true
  | some .cell => true
  | _ => false
def glB (sc : Scope) (x : Str) : Bool := match sc.names.lookup x with
  | some .globalImplicit => true
  | _ => false
def nameB (x : Str) : Bool := !(x == ("__debug__" : Str)) && !(x == ("__classdict__" : Str)) && !decide (x = ("__name__" : Str))
theorem vis_of {sc : Scope} {x : Str} (h : visB sc x = true) : Vis sc x := by
  unfold visB at h
  split at h
  · exact .inl ‹_›
  · exact .inr (.inl ‹_›)
  · exact .inr (.inr ‹_›)
  · cases h
theorem nameB_of {x : Str} (h : nameB x = true) : (x == ("__debug__" : Str)) = false ∧ (x == ("__classdict__" : Str)) = false ∧ x ≠ ("__name__" : Str) := by
  unfold nameB at h
  simp only [Bool.and_eq_true, Bool.not_eq_true', decide_eq_false_iff_not] at h
  exact ⟨h.1.1, h.1.2, h.2⟩
theorem gl_of {X : Cx} {x : Str} (h : glB X.env.scope x = true) : Gl X x := by
  unfold glB at h
  split at h
  · rename_i q; exact q
  · cases h
def biN : Bi → Str
  | .len => "len" | .abs => "abs" | .int => "int" | .max => "max" | .min => "min" | .sum => "sum"
  | .any => "any" | .all => "all" | .sorted => "sorted" | .tuple => "tuple" | .list => "list" | .str => "str" | .repr => "repr"
theorem bi_boot (b : Bi) : bootBuiltins (biN b) = some (biV b) := by cases b <;> decide +kernel
theorem ty_boot (t : Ty) : bootBuiltins (Str.ofString (tyN t)) = some (.type (tyN t)) := by cases t <;> decide +kernel
theorem isi_boot : bootBuiltins "isinstance" = some (.builtin "isinstance") := by decide +kernel
def opEq : Operator → Operator → Bool
  | .Add, .Add => true | .Sub, .Sub => true | .Mult, .Mult => true | .FloorDiv, .FloorDiv => true | .Mod, .Mod => true | .Pow, .Pow => true
  | _, _ => false
theorem opEq_of {a b : Operator} (h : opEq a b = true) : a = b := by cases a <;> cases b <;> first | rfl | cases h
def copEq : CmpOp → CmpOp → Bool
  | .Lt, .Lt => true | .LtE, .LtE => true | .Gt, .Gt => true | .GtE, .GtE => true | .Eq, .Eq => true | .NotEq, .NotEq => true
  | .In, .In => true | .NotIn, .NotIn => true | .Is, .Is => true | .IsNot, .IsNot => true
  | _, _ => false
theorem copEq_of {a b : CmpOp} (h : copEq a b = true) : a = b := by cases a <;> cases b <;> first | rfl | cases h
/-- shapes that want no more care -/
def plB : Expr → Bool
  | .Starred .. => false
  | .Set .. => false
  | .Slice .. => false
  | _ => true
theorem plB_st {e : Expr} (h : plB e = true) : noSt e = true := by cases e <;> first | rfl | cases h
theorem plB_mark {e : Expr} (h : plB e = true) (op : CmpOp) : behindInMarks op e = false := by cases e <;> first | rfl | cases h
theorem plB_ix {e : Expr} (h : plB e = true) : PlainIx e := by intro o i; cases e <;> first | rfl | cases h
theorem plB_fold {e : Expr} (h : plB e = true) (env : Env) (x : Value) : foldedSetIterable e env x = pure x := by cases e <;> first | rfl | cases h
theorem plB_base {e : Expr} (h : ∃ x p, e = .Name x p) (m : Str) (env : Env) : attributeBase e m env (eval e env) = eval e env := by
  obtain ⟨x, p, rfl⟩ := h
  rfl
def mlN : Ml → Str
  | .append => "append" | .extend => "extend" | .pop => "pop" | .popAt => "pop" | .insert => "insert"
mutual
def chkT (N : List Str) (sc : Scope) (own : Option (List Nat)) : Tg → Expr → Bool
  | .nm i, .Name x _ => decide (N[i]? = some x) && locB sc x && nameB x && (match own with | none => true | some l => l.contains i)
  | .tp l, .Tuple es _ _ => chkTs N sc own l es
  | _, _ => false
def chkTs (N : List Str) (sc : Scope) (own : Option (List Nat)) : List Tg → List Expr → Bool
  | [], [] => true
  | t :: ts, e :: es => chkT N sc own t e && chkTs N sc own ts es
  | _, _ => false
end
def isTp : Tg → Bool
  | .tp _ => true
  | _ => false
section
variable (T : Tb) (N : List Str)
mutual
def chkE : Scope → Ex → Expr → Bool
  | _, .k .non, .Constant .none _ _ => true
  | _, .k (.bl b), .Constant (.bool c) _ _ => b == c
  | _, .k (.int i), .Constant (.int j) _ _ => i == j
  | _, .k (.str s), .Constant (.str z) _ _ => s == z
  | sc, .v i, .Name x _ => decide (N[i]? = some x) && visB sc x && nameB x
  | sc, .g y, .Name x _ => x == y && glB sc x && nameB x
  | sc, .bin op a b, .BinOp l o r _ => opEq o (opOf op) && chkE sc a l && chkE sc b r
  | sc, .cmp op a b, .Compare l [o] [r] _ => copEq o (copOf op) && chkE sc a l && chkE sc b r && plB r
  | sc, .cmp2 op op' a b c, .Compare l [o, o'] [r, r'] _ => copEq o (copOf op) && copEq o' (copOf op') && chkE sc a l && chkE sc b r && chkE sc c r' && plB r'
  | sc, .and l, .BoolOp .And es _ => chkL sc l es
  | sc, .or l, .BoolOp .Or es _ => chkL sc l es
  | sc, .not a, .UnaryOp .Not x _ => chkE sc a x
  | sc, .neg a, .UnaryOp .USub x _ => chkE sc a x
  | sc, .ite c a b, .IfExp c' a' b' _ => chkE sc c c' && chkE sc a a' && chkE sc b b'
  | sc, .tup l, .Tuple es _ _ => chkL sc l es
  | sc, .lst l, .List es _ => chkL sc l es
  | sc, .idx a i, .Subscript x y _ => chkE sc a x && chkE sc i y && plB y
  | sc, .slc a lo hi, .Subscript x (.Slice l h none _) _ => chkE sc a x && chkO sc lo l && chkO sc hi h
  | sc, .rev a, .Subscript x (.Slice none none (some (.UnaryOp .USub (.Constant (.int i) _ _) _)) _) _ => decide (i = 1) && chkE sc a x
  | sc, .call f l, .Call (.Name x _) es [] _ => decide (T.fn f = some x) && glB sc x && nameB x && chkL sc l es
  | sc, .bi b l, .Call (.Name x _) es [] _ => x == biN b && glB sc x && T.bl.contains x && nameB x && !es.isEmpty && chkL sc l es
  | sc, .isi a t, .Call (.Name x _) [e, .Name y _] [] _ => x == ("isinstance" : Str) && glB sc x && T.bl.contains x && y == Str.ofString (tyN t) && glB sc y && T.bl.contains y && nameB y && plB e && chkE sc a e
  | sc, .ml m i l, .Call (.Attribute (.Name x _) nm apos) es [] cpos => decide (N[i]? = some x) && visB sc x && nameB x && nm == mlN m && (apos.endLine == cpos.line) && decide (es.length < 30) && chkL sc l es
  | sc, .lc e tg it cs own, .ListComp elt [⟨tg', iter, ifs, asy⟩] scope _ =>
    decide (asy = 0) && blkC N sc scope (own.map fun i => (N.getD i "", i)) && chkT N scope (some own) tg tg' && chkI sc it iter (isTp tg) && chkL (relS scope sc) cs ifs && decide (cs.length ≤ 1) && chkE (relS scope sc) e elt
  | _, _, _ => false
def chkL : Scope → List Ex → List Expr → Bool
  | _, [], [] => true
  | sc, a :: l, x :: es => chkE sc a x && plB x && chkL sc l es
  | _, _, _ => false
def chkO : Scope → Option Ex → Option Expr → Bool
  | _, none, none => true
  | sc, some a, some x => chkE sc a x
  | _, _, _ => false
def chkI : Scope → It' → Expr → Bool → Bool
  | sc, .e a, x, _ => chkE sc a x && plB x
  | sc, .rg1 a, .Call (.Name x _) [l] [] _, _ => x == ("range" : Str) && glB sc x && T.bl.contains x && chkE sc a l && plB l
  | sc, .rg2 a b, .Call (.Name x _) [l, r] [] _, _ => x == ("range" : Str) && glB sc x && T.bl.contains x && chkE sc a l && chkE sc b r && plB l && plB r
  | sc, .enum a, .Call (.Name x _) [l] [] _, tp => x == ("enumerate" : Str) && glB sc x && T.bl.contains x && chkE sc a l && plB l && tp
  | sc, .zip a b, .Call (.Name x _) [l, r] [] _, tp => x == ("zip" : Str) && glB sc x && T.bl.contains x && chkE sc a l && chkE sc b r && plB l && plB r && tp
  | _, _, _, _ => false
end
end
end PL
set_option maxHeartbeats 4000000
namespace PL
open PySem PySem.Spec L2
/-! ### readings -/
def tEv (C : Ct) (f : En → Option (R × En)) : TE := fun σ H Q => ∃ (G : Gh) (B : Addr → Prop) (env : En) (r : R) (env' : En), EnvR C G B H σ env ∧ f env = some (r, env') ∧
  ∀ v H', Stp H σ env H' σ env' → EnvR C G B H' σ env' → ResR C G B H σ env' H' v r → Q v H'
def tAv (C : Ct) (f : En → Option (List R × En)) : TA := fun σ H Q => ∃ (G : Gh) (B : Addr → Prop) (env : En) (r : List R) (env' : En), EnvR C G B H σ env ∧ f env = some (r, env') ∧
  ∀ v H', Stp H σ env H' σ env' → EnvR C G B H' σ env' → ResL C G B σ env' H' v r → Q v H'
def tTv (C : Ct) (f : En → Option (Bool × En)) : TT := fun σ H Q => ∃ (G : Gh) (B : Addr → Prop) (env : En) (b : Bool) (env' : En), EnvR C G B H σ env ∧ f env = some (b, env') ∧
  ∀ H', Stp H σ env H' σ env' → EnvR C G B H' σ env' → Q b H'
def tOv (C : Ct) (f : En → Option (Option Int × En)) : TO := fun σ H Q => ∃ (G : Gh) (B : Addr → Prop) (env : En) (b : Option Int) (env' : En), EnvR C G B H σ env ∧ f env = some (b, env') ∧
  ∀ H', Stp H σ env H' σ env' → EnvR C G B H' σ env' → Q b H'
theorem wkE {X : Cx} {e : Expr} {t t' : TE} (h : PE X e t) (w : ∀ σ H Q, t' σ H Q → t σ H Q) : PE X e t' := ⟨fun pins s σ H Q I q => h.run pins s σ H Q I (w σ H Q q)⟩
theorem wkA {X : Cx} {e : List Expr} {t t' : TA} (h : PA X e t) (w : ∀ σ H Q, t' σ H Q → t σ H Q) : PA X e t' := ⟨fun pos pins s σ H Q I q => h.run pos pins s σ H Q I (w σ H Q q)⟩
theorem wkT {X : Cx} {e : Expr} {t t' : TT} (h : PT X e t) (w : ∀ σ H Q, t' σ H Q → t σ H Q) : PT X e t' := ⟨fun pins s σ H Q I q => h.run pins s σ H Q I (w σ H Q q)⟩
theorem wkW {X : Cx} {e : Expr} {t t' : TT} (h : PW X e t) (w : ∀ σ H Q, t' σ H Q → t σ H Q) : PW X e t' := ⟨fun wh pins s σ H Q I q => h.run wh pins s σ H Q I (w σ H Q q)⟩
theorem wkTs {X : Cx} {e : List Expr} {t t' : TT} (h : PTs X e t) (w : ∀ σ H Q, t' σ H Q → t σ H Q) : PTs X e t' := ⟨fun pins s σ H Q I q => h.run pins s σ H Q I (w σ H Q q)⟩
theorem wkO {X : Cx} {e : Option Expr} {t t' : TO} (h : PO X e t) (w : ∀ σ H Q, t' σ H Q → t σ H Q) : PO X e t' := ⟨fun pins s σ H Q I q => h.run pins s σ H Q I (w σ H Q q)⟩
theorem wkS {X : Cx} {e : Stmt} {t t' : TS} (h : PS X e t) (w : ∀ D σ H, t' D σ H → t D σ H) : PS X e t' := ⟨fun pins s σ H D I q => h.run pins s σ H D I (w D σ H q)⟩
theorem wkSs {X : Cx} {e : List Stmt} {t t' : TS} (h : PSs X e t) (w : ∀ D σ H, t' D σ H → t D σ H) : PSs X e t' := ⟨fun pins s σ H D I q => h.run pins s σ H D I (w D σ H q)⟩
theorem wkI {X : Cx} {tg e : Expr} {t t' : TI} (h : PI X tg e t) (w : ∀ σ H Q, t' σ H Q → t σ H Q) : PI X tg e t' := ⟨fun pins s σ H Q I q => h.run pins s σ H Q I (w σ H Q q)⟩
theorem wkG {X : Cx} {tg : Expr} {t t' : TG} (h : PG X tg t) (w : ∀ v σ H Q, t' v σ H Q → t v σ H Q) : PG X tg t' := ⟨fun pins s σ H v u Q I r q => h.run pins s σ H v u Q I r (w v σ H Q q)⟩
theorem wkGs {X : Cx} {tg : List Expr} {t t' : TGs} (h : PGs X tg t) (w : ∀ v σ H Q, t' v σ H Q → t v σ H Q) : PGs X tg t' := ⟨fun pins s σ H v u Q I r q => h.run pins s σ H v u Q I r (w v σ H Q q)⟩
section
variable {C : Ct} {G : Gh} {B : Addr → Prop} {H H2 : Hp} {σ : L2.St} {env e2 : En} {Q : VK} {r : R}
theorem Stp.none {p : Addr} {σ1 σ' : L2.St} (S : Stp H σ1 env H2 σ' e2) (h : H2 p = none) : H p = none := by
  cases q : H p with
  | none => rfl
  | some o => exact absurd h (S.dom p (by rw [q]; exact fun z => nomatch z))
theorem k_out (k : ∀ v H', Stp H σ env H' σ e2 → EnvR C G B H' σ e2 → ResR C G B H σ e2 H' v r → Q v H') (E : EnvR C G B H σ env) (S : Stp H σ env H2 σ e2) (E2 : EnvR C G B H2 σ e2) : Out C (AA B σ e2) H2 r Q := by
  cases r with
  | v d => exact fun v H' sm rp => k v H' (S.trans (.same sm)) (E2.same0 sm) (.v rp)
  | o i => trivial
  | f d =>
    intro p o hp oa
    have h0 := S.none hp
    refine k _ _ (S.trans (.same (same_upd hp))) (E2.same0 (same_upd hp)) (.f h0 (fun z => E.bdom p z h0) (oa.mv (.sub fun b z => ?_) fun _ => id) (E2.fresh hp))
    rcases z with (z | z) | z
    · exact .inl (.inl z)
    · exact .inr z
    · exact .inl (.inr z)
theorem EnvR.dm (E : EnvR C G B H σ env) : Dom (AA B σ env) H := fun _ => E.adom
end
theorem toB_is {m : Option (R × En)} {b : Bool} {e1 : En} (h : toB m = some (b, e1)) : ∃ x, m = some (x, e1) ∧ rd x e1 = some (.bl b) := by
  unfold toB at h
  split at h
  · rename_i x e2
    split at h
    · rename_i b' hb
      cases h
      exact ⟨x, rfl, hb⟩
    · cases h
  · cases h
section
variable {X : Cx} {fa : Nat → Option Addr} {F : FT} {gl : Str → Option D}
/-! ### tests out of values -/
theorem pt_ofE {e : Expr} {f : En → Option (R × En)} (h : PE X e (tEv ⟨X.K, fa⟩ f)) (hp : ∀ whole, isTrue e X.env whole = (do let v ← whole; standAt e.pos; holding [v] (truthy v))) : PT X e (tTv ⟨X.K, fa⟩ fun env => toB (f env)) := by
  refine wkT (pt_val h hp) fun σ H Q ⟨G, B, env, b, env', E, hf, k⟩ => ?_
  obtain ⟨x, hx, hb⟩ := toB_is hf
  exact ⟨G, B, env, x, env', E, hx, fun v H' S E' R => ⟨b, (R.rd0 E' hb).bl, k H' S E'⟩⟩
def tstB : Expr → Bool
  | .UnaryOp .Not _ _ => false
  | .BoolOp .. => false
  | .IfExp .. => false
  | .Compare .. => false
  | _ => true
theorem tstB_of {e : Expr} (h : tstB e = true) (env : Env) : ∀ whole, isTrue e env whole = (do let v ← whole; standAt e.pos; holding [v] (truthy v)) := by
  intro whole
  cases e with
  | UnaryOp op _ _ => cases op <;> first | rfl | cases h
  | BoolOp => cases h
  | IfExp => cases h
  | Compare => cases h
  | _ => rfl
end
end PL
set_option maxHeartbeats 4000000
namespace PL
open PySem PySem.Spec L2
section
variable {X : Cx} {fa : Nat → Option Addr} {T : Tab} {F : FT} {k : Nat} {pos : Pos}
variable {f ga gb gc : En → Option (R × En)} {a b c : Expr}
theorem ResR.back {C : Ct} {G : Gh} {B : Addr → Prop} {H H1 H' : Hp} {σ σ1 : L2.St} {env e1 e2 : En} {v : V} {r : R} (R : ResR C G B H1 σ e2 H' v r) (S : Stp H σ1 env H1 σ e1) : ResR C G B H σ e2 H' v r := by
  cases R with
  | v h => exact .v h
  | o h => exact .o h
  | f h1 h2 h3 h4 => exact .f (S.none h1) h2 h3 h4
theorem c_bin {op : Bop} (ha : PE X a (tEv (Ct.mk X.K fa) ga)) (hb : PE X b (tEv (Ct.mk X.K fa) gb))
    (hf : ∀ env, f env = match ga env with
      | some (x, e1) => match gb e1 with
        | some (y, e2) => match rd x e2, rd y e2 with
          | some p, some q => (binD op p q).map fun r => (r, e2)
          | _, _ => none
        | none => none
      | none => none) : PE X (.BinOp a (opOf op) b pos) (tEv (Ct.mk X.K fa) f) := by
  refine wkE (pe_op (opBin (fa := fa) op) ha hb) fun σ H Q ⟨G, B, env, r, env', E, h, k⟩ => ?_
  rw [hf] at h
  split at h
  · rename_i x e1 h1
    split at h
    · rename_i y e2 h2
      split at h
      · rename_i p q hp hq
        simp only [Option.map_eq_some_iff] at h
        obtain ⟨r', hr, he⟩ := h
        cases he
        exact ⟨G, B, env, x, e1, E, h1, fun v1 H1 S1 E1 R1 => ⟨G, B, e1, y, env', E1, h2, fun v2 H2 S2 E2 R2 => ⟨AA B σ env', p, q, r, E2.dm, R1.rd S2 E2 hp, R2.rd0 E2 hq, hr, k_out k E (S1.trans S2) E2⟩⟩⟩
      · cases h
    · cases h
  · cases h
theorem c_cmp {op : Cop} (hu : X.A.units + 66 < cLine) (hp : plB b = true) (ha : PE X a (tEv (Ct.mk X.K fa) ga)) (hb : PE X b (tEv (Ct.mk X.K fa) gb))
    (hf : ∀ env, f env = match ga env with
      | some (x, e1) => match gb e1 with
        | some (y, e2) => match rd x e2, rd y e2 with
          | some p, some q => (cmpD op p q).map fun r => (.v (.bl r), e2)
          | _, _ => none
        | none => none
      | none => none) : PE X (.Compare a [copOf op] [b] pos) (tEv (Ct.mk X.K fa) f) ∧ PT X (.Compare a [copOf op] [b] pos) (tTv (Ct.mk X.K fa) fun env => toB (f env)) := by
  have core : ∀ {σ : L2.St} {H : Hp} {G : Gh} {B : Addr → Prop} {env : En} {r : R} {env' : En}, EnvR (Ct.mk X.K fa) G B H σ env → f env = some (r, env') → ∃ br, r = .v (.bl br) ∧ ∀ Q : VK, (∀ H', Stp H σ env H' σ env' → EnvR (Ct.mk X.K fa) G B H' σ env' → Q (.bl br) H') →
      tOp (rCmp (Ct.mk X.K fa) op) (tEv (Ct.mk X.K fa) ga) (tEv (Ct.mk X.K fa) gb) σ H Q := by
    intro σ H G B env r env' E h
    rw [hf] at h
    split at h
    · rename_i x e1 h1
      split at h
      · rename_i y e2 h2
        split at h
        · rename_i p q hp hq
          simp only [Option.map_eq_some_iff] at h
          obtain ⟨r', hr, he⟩ := h
          cases he
          refine ⟨r', rfl, fun Q k => ⟨G, B, env, x, e1, E, h1, fun v1 H1 S1 E1 R1 => ⟨G, B, e1, y, env', E1, h2, fun v2 H2 S2 E2 R2 => ⟨AA B σ env', p, q, r', R1.rd S2 E2 hp, R2.rd0 E2 hq, hr, k H2 (S1.trans S2) E2⟩⟩⟩⟩
        · cases h
      · cases h
    · cases h
  constructor
  · refine wkE (pe_cmpR (opCmp (fa := fa) hu op) ha hb (plB_mark hp _)) fun σ H Q ⟨G, B, env, r, env', E, h, k⟩ => ?_
    obtain ⟨br, rfl, q⟩ := core E h
    exact q Q fun H' S E' => k _ H' S E' (.v (.bl _))
  · refine wkT (pt_cmpR (opCmp (fa := fa) hu op) ha hb (plB_mark hp _)) fun σ H Q ⟨G, B, env, r, env', E, h, k⟩ => ?_
    obtain ⟨x, hx, hb⟩ := toB_is h
    obtain ⟨br, rfl, q⟩ := core E hx
    cases hb
    exact q _ fun H' S E' => ⟨_, rfl, k H' S E'⟩
theorem c_cmp2 {op op' : Cop} (hu : X.A.units + 66 < cLine) (hp : plB c = true) (ha : PE X a (tEv (Ct.mk X.K fa) ga)) (hb : PE X b (tEv (Ct.mk X.K fa) gb)) (hc : PE X c (tEv (Ct.mk X.K fa) gc))
    (hf : ∀ env, f env = match ga env with
      | some (x, e1) => match gb e1 with
        | some (y, e2) => match rd x e2, rd y e2 with
          | some p, some q => match cmpD op p q with
            | some true => match gc e2 with
              | some (z, e3) => match rd y e3, rd z e3 with
                | some q', some s => (cmpD op' q' s).map fun r => (.v (.bl r), e3)
                | _, _ => none
              | none => none
            | some false => some (.v (.bl false), e2)
            | none => none
          | _, _ => none
        | none => none
      | none => none) : PE X (.Compare a [copOf op, copOf op'] [b, c] pos) (tEv (Ct.mk X.K fa) f) ∧ PT X (.Compare a [copOf op, copOf op'] [b, c] pos) (tTv (Ct.mk X.K fa) fun env => toB (f env)) := by
  have core : ∀ {σ : L2.St} {H : Hp} {G : Gh} {B : Addr → Prop} {env : En} {r : R} {env' : En}, EnvR (Ct.mk X.K fa) G B H σ env → f env = some (r, env') → ∃ br, r = .v (.bl br) ∧ ∀ Q : VK, (∀ H', Stp H σ env H' σ env' → EnvR (Ct.mk X.K fa) G B H' σ env' → Q (.bl br) H') →
      tChain (rCmp (Ct.mk X.K fa) op) (rCmp (Ct.mk X.K fa) op') (tEv (Ct.mk X.K fa) ga) (tEv (Ct.mk X.K fa) gb) (tEv (Ct.mk X.K fa) gc) σ H Q := by
    intro σ H G B env r env' E h
    rw [hf] at h
    split at h
    · rename_i x e1 h1
      split at h
      · rename_i y e2 h2
        split at h
        · rename_i p q hp hq
          split at h
          · rename_i h3
            split at h
            · rename_i z e3 h4
              split at h
              · rename_i q' s hq' hs
                simp only [Option.map_eq_some_iff] at h
                obtain ⟨r', hr, he⟩ := h
                cases he
                refine ⟨r', rfl, fun Q k => ⟨G, B, env, x, e1, E, h1, fun v1 H1 S1 E1 R1 => ⟨G, B, e1, y, e2, E1, h2, fun v2 H2 S2 E2 R2 => ⟨AA B σ e2, p, q, true, R1.rd S2 E2 hp, R2.rd0 E2 hq, h3, true, rfl, ?_⟩⟩⟩⟩
                rw [if_pos rfl]
                exact ⟨G, B, e2, z, env', E2, h4, fun v3 H3 S3 E3 R3 => ⟨AA B σ env', q', s, r', R2.rd S3 E3 hq', R3.rd0 E3 hs, hr, k H3 ((S1.trans S2).trans S3) E3⟩⟩
              · cases h
            · cases h
          · rename_i h3
            cases h
            refine ⟨false, rfl, fun Q k => ⟨G, B, env, x, e1, E, h1, fun v1 H1 S1 E1 R1 => ⟨G, B, e1, y, env', E1, h2, fun v2 H2 S2 E2 R2 => ⟨AA B σ env', p, q, false, R1.rd S2 E2 hp, R2.rd0 E2 hq, h3, false, rfl, ?_⟩⟩⟩⟩
            rw [if_neg Bool.false_ne_true]
            exact k H2 (S1.trans S2) E2
          · cases h
        · cases h
      · cases h
    · cases h
  have hm : lastMarks [copOf op, copOf op'] [b, c] = false := plB_mark hp _
  constructor
  · refine wkE (pe_chain (opCmp (fa := fa) hu op) (opCmp (fa := fa) hu op') ha hb hc hm) fun σ H Q ⟨G, B, env, r, env', E, h, k⟩ => ?_
    obtain ⟨br, rfl, q⟩ := core E h
    exact q Q fun H' S E' => k _ H' S E' (.v (.bl _))
  · refine wkT (pt_chain (opCmp (fa := fa) hu op) (opCmp (fa := fa) hu op') ha hb hc hm) fun σ H Q ⟨G, B, env, r, env', E, h, k⟩ => ?_
    obtain ⟨x, hx, hb⟩ := toB_is h
    obtain ⟨br, rfl, q⟩ := core E hx
    cases hb
    exact q _ fun H' S E' => ⟨_, rfl, k H' S E'⟩
theorem c_not (ha : PE X a (tEv (Ct.mk X.K fa) ga)) (hta : PT X a (tTv (Ct.mk X.K fa) fun env => toB (ga env)))
    (hf : ∀ env, f env = match ga env with
      | some (x, e1) => match rd x e1 with
        | some (.bl b) => some (.v (.bl (!b)), e1)
        | _ => none
      | none => none) : PE X (.UnaryOp .Not a pos) (tEv (Ct.mk X.K fa) f) ∧ PT X (.UnaryOp .Not a pos) (tTv (Ct.mk X.K fa) fun env => toB (f env)) := by
  have core : ∀ {env : En} {r : R} {env' : En}, f env = some (r, env') → ∃ b x, r = .v (.bl (!b)) ∧ ga env = some (x, env') ∧ rd x env' = some (.bl b) := by
    intro env r env' h
    rw [hf] at h
    split at h
    · rename_i x e1 h1
      split at h
      · rename_i b hb
        cases h
        exact ⟨b, x, rfl, h1, hb⟩
      · cases h
    · cases h
  constructor
  · refine wkE (pe_not ha) fun σ H Q ⟨G, B, env, r, env', E, h, k⟩ => ?_
    obtain ⟨b, x, rfl, hx, hb⟩ := core h
    exact ⟨G, B, env, x, env', E, hx, fun v H' S E' R => ⟨b, (R.rd0 E' hb).bl, k _ H' S E' (.v (.bl _))⟩⟩
  · refine wkT (pt_not hta) fun σ H Q ⟨G, B, env, r, env', E, h, k⟩ => ?_
    obtain ⟨y, hy, hb'⟩ := toB_is h
    obtain ⟨b, x, rfl, hx, hb⟩ := core hy
    cases hb'
    refine ⟨G, B, env, b, env', E, ?_, k⟩
    show toB (ga env) = _
    rw [hx]
    unfold toB
    simp only [hb]
theorem c_neg (ha : PE X a (tEv (Ct.mk X.K fa) ga))
    (hf : ∀ env, f env = match ga env with
      | some (x, e1) => match rd x e1 with
        | some (.int i) => some (.v (.int (-i)), e1)
        | _ => none
      | none => none) : PE X (.UnaryOp .USub a pos) (tEv (Ct.mk X.K fa) f) := by
  refine wkE (pe_un un_neg ha) fun σ H Q ⟨G, B, env, r, env', E, h, k⟩ => ?_
  rw [hf] at h
  split at h
  · rename_i x e1 h1
    split at h
    · rename_i i hi
      cases h
      exact ⟨G, B, env, x, env', E, h1, fun v H' S E' R => ⟨i, (R.rd0 E' hi).int, k _ H' S E' (.v (.int _))⟩⟩
    · cases h
  · cases h
theorem c_ite (hc : PT X c (tTv (Ct.mk X.K fa) fun env => toB (gc env))) (ha : PE X a (tEv (Ct.mk X.K fa) ga)) (hb : PE X b (tEv (Ct.mk X.K fa) gb))
    (hf : ∀ env, f env = match toB (gc env) with
      | some (true, e1) => ga e1
      | some (false, e1) => gb e1
      | none => none) : PE X (.IfExp c a b pos) (tEv (Ct.mk X.K fa) f) := by
  refine wkE (pe_ifExp hc ha hb) fun σ H Q ⟨G, B, env, r, env', E, h, k⟩ => ?_
  rw [hf] at h
  split at h
  · rename_i e1 h1
    refine ⟨G, B, env, true, e1, E, h1, fun H1 S1 E1 => ?_⟩
    refine iteT ?_
    exact ⟨G, B, e1, r, env', E1, h, fun v H' S E' R => k v H' (S1.trans S) E' (R.back S1)⟩
  · rename_i e1 h1
    refine ⟨G, B, env, false, e1, E, h1, fun H1 S1 E1 => ?_⟩
    refine iteF ?_
    exact ⟨G, B, e1, r, env', E1, h, fun v H' S E' R => k v H' (S1.trans S) E' (R.back S1)⟩
  · cases h
theorem c_idx (hp : plB b = true) (ha : PE X a (tEv (Ct.mk X.K fa) ga)) (hb : PE X b (tEv (Ct.mk X.K fa) gb))
    (hf : ∀ env, f env = match ga env with
      | some (x, e1) => match gb e1 with
        | some (y, e2) => match rd x e2, rd y e2 with
          | some p, some q => (idxD p q).map fun r => (.v r, e2)
          | _, _ => none
        | none => none
      | none => none) : PE X (.Subscript a b pos) (tEv (Ct.mk X.K fa) f) := by
  refine wkE (pe_ix (ixD (fa := fa)) ha hb (plB_ix hp)) fun σ H Q ⟨G, B, env, r, env', E, h, k⟩ => ?_
  rw [hf] at h
  split at h
  · rename_i x e1 h1
    split at h
    · rename_i y e2 h2
      split at h
      · rename_i p q hp hq
        simp only [Option.map_eq_some_iff] at h
        obtain ⟨r', hr, he⟩ := h
        cases he
        exact ⟨G, B, env, x, e1, E, h1, fun v1 H1 S1 E1 R1 => ⟨G, B, e1, y, env', E1, h2, fun v2 H2 S2 E2 R2 => ⟨AA B σ env', p, q, r', R1.rd S2 E2 hp, R2.rd0 E2 hq, hr, k_out k E (S1.trans S2) E2⟩⟩⟩
      · cases h
    · cases h
  · cases h
theorem c_slc {gl gh : En → Option (Option Int × En)} {l h : Option Expr} {p2 : Pos} (ha : PE X a (tEv (Ct.mk X.K fa) ga)) (hl : PO X l (tOv (Ct.mk X.K fa) gl)) (hh : PO X h (tOv (Ct.mk X.K fa) gh))
    (hf : ∀ env, f env = match ga env with
      | some (x, e1) => match gl e1 with
        | some (l, e2) => match gh e2 with
          | some (h, e3) => match rd x e3 with
            | some p => (slcD p l h).map fun r => (r, e3)
            | none => none
          | none => none
        | none => none
      | none => none) : PE X (.Subscript a (.Slice l h none p2) pos) (tEv (Ct.mk X.K fa) f) := by
  refine wkE (pe_slice (slD (fa := fa)) ha hl hh) fun σ H Q ⟨G, B, env, r, env', E, h, k⟩ => ?_
  rw [hf] at h
  split at h
  · rename_i x e1 h1
    split at h
    · rename_i lo e2 h2
      split at h
      · rename_i hi e3 h3
        split at h
        · rename_i p hp
          simp only [Option.map_eq_some_iff] at h
          obtain ⟨r', hr, he⟩ := h
          cases he
          exact ⟨G, B, env, x, e1, E, h1, fun v1 H1 S1 E1 R1 => ⟨G, B, e1, lo, e2, E1, h2, fun H2 S2 E2 => ⟨G, B, e2, hi, env', E2, h3, fun H3 S3 E3 => ⟨AA B σ env', p, r, E3.dm, R1.rd (S2.trans S3) E3 hp, hr, k_out k E ((S1.trans S2).trans S3) E3⟩⟩⟩⟩
        · cases h
      · cases h
    · cases h
  · cases h
theorem c_rev {p1 p2 p3 : Pos} {kk : Nat} (ha : PE X a (tEv (Ct.mk X.K fa) ga))
    (hf : ∀ env, f env = match ga env with
      | some (x, e1) => match rd x e1 with
        | some (.lst l) => some (.f (.lst l.reverse), e1)
        | _ => none
      | none => none) : PE X (.Subscript a (.Slice none none (some (.UnaryOp .USub (.Constant (.int 1) kk p1) p2)) p3) pos) (tEv (Ct.mk X.K fa) f) := by
  refine wkE (pe_revL ha) fun σ H Q ⟨G, B, env, r, env', E, h, k⟩ => ?_
  rw [hf] at h
  split at h
  · rename_i x e1 h1
    split at h
    · rename_i l hl
      cases h
      refine ⟨G, B, env, x, env', E, h1, fun v H' S E' R => ?_⟩
      obtain ⟨p, vs, rfl, hs, ra⟩ := (R.rd0 E' hl).lst
      exact ⟨p, vs, rfl, .inl (.inl hs), fun q hq => (k_out k E S E').lst E'.dm ra.rev hq⟩
    · cases h
  · cases h
theorem c_isi {t : Ty} {p1 p2 : Pos} {x y : Str} (hx : x = "isinstance") (hgx : Gl X x) (hmx : X.mg x = none) (hy : y = Str.ofString (tyN t)) (hgy : Gl X y) (hmy : X.mg y = none) (hny : nameB y = true) (hp : plB a = true) (ha : PE X a (tEv (Ct.mk X.K fa) ga))
    (hf : ∀ env, f env = match ga env with
      | some (x, e1) => match rd x e1 with
        | some d => (isTy t d).map fun b => (.v (.bl b), e1)
        | none => none
      | none => none) : PE X (.Call (.Name x p1) [a, .Name y p2] [] pos) (tEv (Ct.mk X.K fa) f) := by
  subst hx
  obtain ⟨n1, n2, n3⟩ := nameB_of hny
  have hb : PE X (.Name y p2) (tC (.ty (tyN t))) := pe_bltn hgy hmy (by rw [hy]; exact ty_boot t) rfl n3 n1
  refine wkE (pe_callB (callIsi (fa := fa)) hgx hmx isi_boot (pa_cons ha (pa_cons hb pa_nil (star_cons (e := .Name y p2) rfl _ _)) (star_cons (plB_st hp) _ _)) (by decide) (by decide) (star_cons (plB_st hp) _ _) (by rfl)) fun σ H Q ⟨G, B, env, r, env', E, h, k⟩ => ?_
  rw [hf] at h
  split at h
  · rename_i x e1 h1
    split at h
    · rename_i d hd
      simp only [Option.map_eq_some_iff] at h
      obtain ⟨b, hb, he⟩ := h
      cases he
      exact ⟨G, B, env, x, env', E, h1, fun v H' S E' R => ⟨AA B σ env', v, t, d, b, rfl, R.rd0 E' hd, hb, k _ H' S E' (.v (.bl _))⟩⟩
    · cases h
  · cases h
end
end PL
set_option maxHeartbeats 4000000
namespace PL
open PySem PySem.Spec L2
section
variable {X : Cx} {fa : Nat → Option Addr} {T : Tab} {F : FT} {k : Nat} {pos : Pos}
variable {f ga gb gc : En → Option (R × En)} {gs : En → Option (List R × En)} {a b c : Expr} {es : List Expr}
theorem c_k {d : D} {e : Expr} (v : V) (h : PE X e (tC v)) (hr : ∀ A H, Rp (Ct.mk X.K fa) A H v d) (hf : ∀ env, f env = some (.v d, env)) : PE X e (tEv (Ct.mk X.K fa) f) := by
  refine wkE h fun σ H Q ⟨G, B, env, r, env', E, h, k⟩ => ?_
  rw [hf] at h
  cases h
  exact k v H .refl E (.v (hr _ _))
theorem c_v {i : Nat} {x : Str} {p : Pos} (h : PE X (.Name x p) (tVar i))
    (hf : ∀ env, f env = match env[i]? with
      | some (.v d) => some (.v d, env)
      | some (.o _) => some (.o i, env)
      | some (.p _) => some (.o i, env)
      | _ => none) : PE X (.Name x p) (tEv (Ct.mk X.K fa) f) := by
  refine wkE h fun σ H Q ⟨G, B, env, r, env', E, h, k⟩ => ?_
  rw [hf] at h
  split at h
  · rename_i d q
    cases h
    obtain ⟨v, e, rr⟩ := E.val i d q
    exact ⟨v, e, k v H .refl E (.v rr)⟩
  · rename_i d q
    cases h
    obtain ⟨v, e, rr, _⟩ := E.own i d q
    exact ⟨_, e, k _ H .refl E (.o e)⟩
  · rename_i d q
    cases h
    obtain ⟨v, e, rr, _⟩ := E.par i d q
    exact ⟨_, e, k _ H .refl E (.o e)⟩
  · cases h
theorem c_g {x : Str} {p : Pos} {d0 : Option D} (hd : ∀ d, d0 = some d → ∃ v, PE X (.Name x p) (tC v) ∧ ∀ A H, Rp (Ct.mk X.K fa) A H v d) (hf : ∀ env, f env = d0.map fun d => (.v d, env)) : PE X (.Name x p) (tEv (Ct.mk X.K fa) f) := by
  cases h0 : d0 with
  | none =>
    refine ⟨fun pins s σ H Q I ⟨G, B, env, r, env', E, h, k⟩ => ?_⟩
    rw [hf, h0] at h
    cases h
  | some d =>
    obtain ⟨v, h1, h2⟩ := hd d h0
    exact c_k v h1 h2 fun env => by rw [hf, h0]; rfl
theorem c_nil (hf : ∀ env, gs env = some ([], env)) : PA X [] (tAv (Ct.mk X.K fa) gs) := by
  refine wkA pa_nil fun σ H Q ⟨G, B, env, r, env', E, h, k⟩ => ?_
  rw [hf] at h
  cases h
  exact k [] H .refl E .nil
theorem ResR.toL {C : Ct} {G : Gh} {B : Addr → Prop} {H H1 H2 : Hp} {σ : L2.St} {e1 e2 : En} {v : V} {r : R} {vs : List V} {rs : List R} (h : ResR C G B H σ e1 H1 v r) (S : Stp H1 σ e1 H2 σ e2) (t : ResL C G B σ e2 H2 vs rs) :
    ResL C G B σ e2 H2 (v :: vs) (PL.unf r :: rs) := by
  have h' := h.unf
  cases r with
  | v d => cases h' with | v q => exact .v (q.mv S.mv) t
  | f d => cases h' with | v q => exact .v (q.mv S.mv) t
  | o i => cases h' with | o q => exact .o q t
theorem c_cons {gs' : En → Option (List R × En)} (hp : plB a = true) (ha : PE X a (tEv (Ct.mk X.K fa) ga)) (hs : PA X es (tAv (Ct.mk X.K fa) gs'))
    (hf : ∀ env, gs env = match ga env with
      | some (x, e1) => match gs' e1 with
        | some (xs, e2) => some (unf x :: xs, e2)
        | none => none
      | none => none) : PA X (a :: es) (tAv (Ct.mk X.K fa) gs) := by
  refine wkA (pa_cons ha hs (star_cons (plB_st hp) _ _)) fun σ H Q ⟨G, B, env, r, env', E, h, k⟩ => ?_
  rw [hf] at h
  split at h
  · rename_i x e1 h1
    split at h
    · rename_i xs e2 h2
      cases h
      exact ⟨G, B, env, x, e1, E, h1, fun v1 H1 S1 E1 R1 => ⟨G, B, e1, xs, env', E1, h2, fun vs H2 S2 E2 R2 => k _ H2 (S1.trans S2) E2 (R1.toL S2 R2)⟩⟩
    · cases h
  · cases h
theorem c_tup {x1} (hs : PA X es (tAv (Ct.mk X.K fa) gs))
    (hf : ∀ env, f env = match gs env with
      | some (rs, e1) => match givs rs e1 with
        | some (ds, e2) => (mkT ds).map fun r => (r, e2)
        | none => none
      | none => none) : PE X (.Tuple es x1 pos) (tEv (Ct.mk X.K fa) f) := by
  refine wkE (pe_tup hs) fun σ H Q ⟨G, B, env, r, env', E, h, k⟩ => ?_
  rw [hf] at h
  split at h
  · rename_i rs e1 h1
    split at h
    · rename_i ds e2 h2
      unfold mkT at h
      split at h
      · rename_i hz
        cases h
        refine ⟨G, B, env, rs, e1, E, h1, fun vs H1 S1 E1 R1 => ?_⟩
        obtain ⟨r1, E3, S3⟩ := R1.givs E1 h2
        exact ⟨sz_le (by rw [r1.length]; exact hz), fun p hp => (k_out k E (S1.trans S3) E3).tup E3.dm r1 hp⟩
      · cases h
    · cases h
  · cases h
theorem c_lst (hs : PA X es (tAv (Ct.mk X.K fa) gs))
    (hf : ∀ env, f env = match gs env with
      | some (rs, e1) => match givs rs e1 with
        | some (ds, e2) => (mkL ds).map fun r => (r, e2)
        | none => none
      | none => none) : PE X (.List es pos) (tEv (Ct.mk X.K fa) f) := by
  refine wkE (pe_lst hs) fun σ H Q ⟨G, B, env, r, env', E, h, k⟩ => ?_
  rw [hf] at h
  split at h
  · rename_i rs e1 h1
    split at h
    · rename_i ds e2 h2
      unfold mkL at h
      split at h
      · rename_i hz
        cases h
        refine ⟨G, B, env, rs, e1, E, h1, fun vs H1 S1 E1 R1 => ?_⟩
        obtain ⟨r1, E3, S3⟩ := R1.givs E1 h2
        exact ⟨sz_le (by rw [r1.length]; exact hz), fun p hp => (k_out k E (S1.trans S3) E3).lst E3.dm r1 hp⟩
      · cases h
    · cases h
  · cases h
theorem c_bi {bi : Bi} {x : Str} {p : Pos} (hc : X.calm = true) (hg : X.A.guards = some []) (hu : X.A.units + 66 < cLine) (hx : x = biN bi) (hgx : Gl X x) (hmx : X.mg x = none) (hn : nameB x = true) (hp : (a :: es).all noSt = true)
    (hs : PA X (a :: es) (tAv (Ct.mk X.K fa) gs))
    (hf : ∀ env, f env = match gs env with
      | some (rs, e1) => match rds rs e1 with
        | some ds => (biD bi ds).map fun r => (r, e1)
        | none => none
      | none => none) : PE X (.Call (.Name x p) (a :: es) [] pos) (tEv (Ct.mk X.K fa) f) := by
  obtain ⟨n1, n2, n3⟩ := nameB_of hn
  have hp' := hp
  simp only [List.all_cons, Bool.and_eq_true] at hp'
  have base : PE X (.Call (.Name x p) (a :: es) [] pos) (tCB (rBi (Ct.mk X.K fa) bi) (tAv (Ct.mk X.K fa) gs)) := by
    have hr := callBi (fa := fa) hc hg hu bi
    have hv : bootBuiltins x = some (biV bi) := by rw [hx]; exact bi_boot bi
    have hst := star_cons hp'.1 es X.env
    have hpl := star_plain hp'.2 pos X.env
    cases bi <;> first
      | exact pe_callB hr hgx hmx hv hs n3 n1 hst hpl
      | exact pe_callTy hr hgx hmx hv hs n3 n1 hst hpl
  refine wkE base fun σ H Q ⟨G, B, env, r, env', E, h, k⟩ => ?_
  rw [hf] at h
  split at h
  · rename_i rs e1 h1
    split at h
    · rename_i ds h2
      simp only [Option.map_eq_some_iff] at h
      obtain ⟨r', hr, he⟩ := h
      cases he
      exact ⟨G, B, env, rs, env', E, h1, fun vs H1 S1 E1 R1 => ⟨AA B σ env', ds, r, E1.dm, R1.rds E1 h2, hr, k_out k E S1 E1⟩⟩
    · cases h
  · cases h
theorem c_call {n : Nat} {x : Str} {p : Pos} (S : SOk T F k X) (hx : T.fn n = some x) (hgx : Gl X x) (hn : nameB x = true) (hp : es.all noSt = true)
    (hs : PA X es (tAv (Ct.mk X.K T.fa) gs))
    (hf : ∀ env, f env = match gs env with
      | some (rs, e1) => callR F n rs e1
      | none => none) (hnp : ∀ as r fin, F n as = some (r, fin) → as.length = T.np n) (h0 : es = [] → ∀ env, gs env = some ([], env)) : PE X (.Call (.Name x p) es [] pos) (tEv (Ct.mk X.K T.fa) f) := by
  obtain ⟨n1, n2, n3⟩ := nameB_of hn
  obtain ⟨fad, fd, ps, hfa, hm, hk, hb, Fn⟩ := S.fn n x hx
  have core : ∀ σ H Q, tEv (Ct.mk X.K T.fa) f σ H Q → tAv (Ct.mk X.K T.fa) gs σ H fun vs H1 => spF (Ct.mk X.K T.fa) F n (T.np n) vs H1 Q E0 := by
    intro σ H Q ⟨G, B, env, r, env', E, h, k⟩
    rw [hf] at h
    split at h
    · rename_i rs e1 h1
      unfold callR at h
      split at h
      · rename_i nd
        split at h
        · rename_i as ha
          split at h
          · rename_i r0 fin hF
            split at h
            · rename_i e2 hbk
              cases h
              refine ⟨G, B, env, rs, e1, E, h1, fun vs H1 S1 E1 R1 => ?_⟩
              refine ⟨Bcal B σ e1 vs as, as, fin, r, call_pre E1 R1 ha nd, hnp as r fin hF, hF, fun v H' P => ?_⟩
              obtain ⟨S2, E2, R2⟩ := call_post E1 R1 ha nd hbk P
              exact k v H' (S1.trans S2) E2 (R2.back S1)
            · cases h
          · cases h
        · cases h
      · cases h
    · cases h
  cases es with
  | nil =>
    refine wkE (pe_callG0 Fn S.hr S.hg hgx hm hk hb n1) fun σ H Q q => ?_
    obtain ⟨G, B, env, r, env', E, h, k⟩ := q
    have q2 := core σ H Q ⟨G, B, env, r, env', E, h, k⟩
    obtain ⟨G', B', env0, rs, e1, E', h1, k1⟩ := q2
    rw [h0 rfl] at h1
    cases h1
    exact k1 [] H .refl E' .nil
  | cons e es => exact wkE (pe_callG Fn S.hr S.hg hgx hm hk hb hs hp n1) core
end
end PL
set_option maxHeartbeats 4000000
namespace PL
open PySem PySem.Spec L2
/-! ### a list that a name has is changed by a method -/
def mlId : Ml → String
  | .append => "list.append" | .extend => "list.extend" | .pop => "list.pop" | .popAt => "list.pop" | .insert => "list.insert"
def rMl (C : Ct) (m : Ml) : V → List V → Hp → VK → Prop := fun x vs H Q => ∃ (A : Addr → Prop) (a : Addr) (l ds : List D) (y : D) (l' : List D), x = .ref a ∧ A a ∧ OwnAt C A H a (.lst l) ∧ RpL C A H vs ds ∧ mlD m l ds = some (y, l') ∧
  ∀ v ws, OwnAt C A (upd H a (.lst ws)) a (.lst l') → Rp C A (upd H a (.lst ws)) v y → Q v (upd H a (.lst ws))
section
variable {C : Ct} {A : Addr → Prop} {H : Hp}
theorem mv_own {a : Addr} {o : HO} (h : A a) : Mv A A H (upd H a o) := ⟨fun b x e n => by
  have ne : b ≠ a := fun z => n (z ▸ h)
  rw [upd_ne ne]; exact e, fun _ z => .inl z⟩
theorem RpL.last {vs : List V} {ds : List D} (r : RpL C A H vs ds) : RpL C A H vs.dropLast ds.dropLast := by
  rw [List.dropLast_eq_take, List.dropLast_eq_take, r.length]
  exact r.take _
theorem RpL.erase : ∀ {vs : List V} {ds : List D} (n : Nat), RpL C A H vs ds → RpL C A H (vs.eraseIdx n) (ds.eraseIdx n)
  | _, _, _, .nil => .nil
  | _, _, 0, .cons _ r => r
  | _, _, n + 1, .cons h r => .cons h (RpL.erase n r)
end
section
variable {X : Cx} {fa : Nat → Option Addr}
theorem mtMl (m : Ml) : MtR X (mlId m) (rMl ⟨X.K, fa⟩ m) := by
  intro pins s σ H x vs v us Q I rx rv h
  obtain ⟨A, a, l, ds, y, l', rfl, hA, oa, rp, e, q⟩ := h
  cases oa with
  | @lst ws _ hs rl =>
  unfold mlD at e
  split at e
  · split at e
    · rename_i hz
      cases e
      cases rp with
      | @cons w _ _ _ h t =>
        cases t
        refine mt_append pins s σ H _ _ v us Q I rx rv ⟨a, ws, _, rfl, rfl, hs, by rw [SZ_eq, rl.length]; exact hz, ?_⟩
        have m := mv_own (H := H) (o := .lst (ws ++ [w])) hA
        exact q _ _ (.lst upd_same ((rl.mv m).append (.cons (h.mv m) .nil))) .non
    · cases e
  · split at e
    · rename_i hz
      cases e
      cases rp with
      | cons h t =>
        cases t
        obtain ⟨b, zs, rfl, hb, rb⟩ := (Vw.rp h).lst
        refine mt_extend pins s σ H _ _ v us Q I rx rv ⟨a, b, ws, zs, rfl, rfl, hs, hb, sz_le (by rw [rl.length, rb.length]; exact hz), ?_⟩
        have m := mv_own (H := H) (o := .lst (ws ++ zs)) hA
        exact q _ _ (.lst upd_same ((rl.mv m).append (rb.mv m))) .non
    · cases e
  · split at e
    · rename_i y0 hy
      cases e
      cases rp
      obtain ⟨w, hw, rw'⟩ := rl.get hy
      rw [← rl.length] at hw
      refine mt_pop pins s σ H _ _ v us Q I rx rv ⟨a, ws, w, rfl, rfl, hs, hw, ?_⟩
      have m := mv_own (H := H) (o := .lst ws.dropLast) hA
      exact q _ _ (.lst upd_same (rl.last.mv m)) (rw'.mv m)
    · cases e
  · rename_i i
    split at e
    · rename_i j hj
      split at e
      · rename_i y0 hy
        split at e
        · rename_i hz
          cases e
          cases rp with
          | cons h t =>
            cases t
            cases h
            obtain ⟨w, hw, rw'⟩ := rl.get hy
            rw [← rl.length] at hj
            refine mt_popAt pins s σ H _ _ v us Q I rx rv ⟨a, ws, i, j, w, rfl, rfl, hs, hz.1, hz.2, (ixN_seq hj).1, hw, ?_⟩
            have m := mv_own (H := H) (o := .lst (ws.eraseIdx j)) hA
            exact q _ _ (.lst upd_same ((rl.erase j).mv m)) (rw'.mv m)
        · cases e
      · cases e
    · cases e
  · cases e
end
section
variable {X : Cx} {fa : Nat → Option Addr} {pos : Pos}
variable {f ga gb gc : En → Option (R × En)} {gs : En → Option (List R × En)} {a b c : Expr} {es : List Expr}
theorem mlSlot : ∀ m : Ml, Slot "list" (mlN m) (mlId m)
  | .append => PySem.F.slot_list_append
  | .extend => PySem.F.slot_list_extend
  | .pop => PySem.F.slot_list_pop
  | .popAt => PySem.F.slot_list_pop
  | .insert => PySem.F.slot_list_insert
theorem mlType : ∀ m : Ml, typeOf (.builtin (mlId m)) = pure (.type "method_descriptor")
  | .append => PySem.F.type_list_append
  | .extend => PySem.F.type_list_extend
  | .pop => PySem.F.type_list_pop
  | .popAt => PySem.F.type_list_pop
  | .insert => PySem.F.type_list_insert
theorem few_of {es : List Expr} (hp : es.all noSt = true) (hl : es.length < 30) (cpos : Pos) (env : Env) :
    ((backTo cpos (starEach es env)).all (fun x => !x.1) && (backToKw cpos (keywordEach [] env)).all (fun x => x.1.isSome)
      && decide (es.length + ([] : List Keyword).length + (if ([] : List Keyword).isEmpty then 0 else 1) < 30)) = true := by
  have h1 : ∀ {es : List Expr}, es.all noSt = true → (backTo cpos (starEach es env)).all (fun x => !x.1) = true := by
    intro es
    induction es with
    | nil => intro _; rfl
    | cons e r ih =>
      intro h
      simp only [List.all_cons, Bool.and_eq_true] at h
      rw [star_cons h.1]
      show (true && (backTo cpos (starEach r env)).all fun x => !x.1) = true
      rw [ih h.2]
      rfl
  rw [h1 hp]
  show (true && true && decide (es.length + 0 + 0 < 30)) = true
  simp only [Bool.and_self, Bool.true_and, decide_eq_true_eq]
  omega
theorem c_ml {m : Ml} {i : Nat} {x nm : Str} {p apos cpos : Pos} (hv : PE X (.Name x p) (tVar i)) (hnm : nm = mlN m) (hline : (apos.endLine == cpos.line) = true) (hl : es.length < 30) (hp : es.all noSt = true)
    (hs : PA X es (tAv (Ct.mk X.K fa) gs)) (h0 : es = [] → ∀ env, gs env = some ([], env))
    (hf : ∀ env, f env = if lsB env i then match gs env with
      | some (rs, e1) => match givs rs e1 with
        | some (ds, e2) => match isMl m i ds e2 with
          | some (x, e3) => some (.v x, e3)
          | none => none
        | none => none
      | none => none else none) : PE X (.Call (.Attribute (.Name x p) nm apos) es [] cpos) (tEv (Ct.mk X.K fa) f) := by
  have slot : Slot "list" nm (mlId m) := by rw [hnm]; exact mlSlot m
  have hty := mlType m
  have hbase := plB_base ⟨x, p, rfl⟩ nm X.env
  -- the state at the end, from that behind the arguments
  have fin : ∀ {G : Gh} {B : Addr → Prop} {H H2 : Hp} {σ : L2.St} {env e2 e3 : En} {vs : List V} {ds : List D} {y : D} {Q : VK} {a : Addr}, EnvR (Ct.mk X.K fa) G B H2 σ e2 → Stp H σ env H2 σ e2 → σ[i]? = some (some (.ref a)) →
      RpL (Ct.mk X.K fa) (AA B σ e2) H2 vs ds → isMl m i ds e2 = some (y, e3) → (∀ v H', Stp H σ env H' σ e3 → EnvR (Ct.mk X.K fa) G B H' σ e3 → ResR (Ct.mk X.K fa) G B H σ e3 H' v (.v y) → Q v H') → rMl (Ct.mk X.K fa) m (.ref a) vs H2 Q := by
    intro G B H H2 σ env e2 e3 vs ds y Q a E2 S2 ha rp hm k
    unfold isMl at hm
    have go : ∀ {l : List D} {s : Sl}, (e2[i]? = some (.o (.lst l)) ∧ (∀ l', s = .o (.lst l') → True)) ∨ e2[i]? = some (.p (.lst l)) → ∀ {l' : List D}, mlD m l ds = some (y, l') →
        ((e2[i]? = some (.o (.lst l)) ∧ e3 = e2.set i (.o (.lst l'))) ∨ (e2[i]? = some (.p (.lst l)) ∧ e3 = e2.set i (.p (.lst l')))) → OwnAt (Ct.mk X.K fa) (AA B σ e2) H2 a (.lst l) → rMl (Ct.mk X.K fa) m (.ref a) vs H2 Q := by
      intro l s _ l' hm he oa
      have ow : IsOw σ e2 i a (.lst l) := ⟨he.elim (fun z => .inl z.1) fun z => .inr z.1, ha⟩
      have hA : AA B σ e2 a := .inr ⟨i, _, ow⟩
      refine ⟨AA B σ e2, a, l, ds, y, l', rfl, hA, oa, rp, hm, fun v ws o' r' => ?_⟩
      have kp : ∀ b o, H2 b = some o → b ≠ a → upd H2 a (.lst ws) b = some o := fun b o e n => by rw [upd_ne n]; exact e
      have dm : ∀ b, H2 b ≠ none → upd H2 a (.lst ws) b ≠ none := fun b n => by
        by_cases z : b = a
        · rw [z, upd_same]; exact fun z => nomatch z
        · rw [upd_ne z]; exact n
      have both : ∀ {s : Sl}, (e2[i]? = some (.o (.lst l)) ∧ s = .o (.lst l')) ∨ (e2[i]? = some (.p (.lst l)) ∧ s = .p (.lst l')) → e3 = e2.set i s → Q v (upd H2 a (.lst ws)) := by
        intro s hs e
        obtain ⟨E3, S3⟩ := E2.chg ow hs kp dm o'
        subst e
        exact k v _ (S2.trans S3) E3 (.v (r'.mv (.sub fun b z => z.elim .inl fun q => by
          obtain ⟨j, w, q⟩ := q
          obtain ⟨w', q'⟩ := isow_ch ow.1 q
          exact .inr ⟨j, w', q'⟩)))
      rcases he with ⟨h1, h2⟩ | ⟨h1, h2⟩
      · exact both (.inl ⟨h1, rfl⟩) h2
      · exact both (.inr ⟨h1, rfl⟩) h2
    split at hm
    · rename_i l hq
      obtain ⟨a', ea, oa, _⟩ := E2.own i _ hq
      rw [ha] at ea; cases ea
      split at hm
      · rename_i y' l' hml
        cases hm
        exact go (s := .n) (.inl ⟨hq, fun _ _ => trivial⟩) hml (.inl ⟨hq, rfl⟩) oa
      · cases hm
    · rename_i l hq
      obtain ⟨a', ea, oa, _⟩ := E2.par i _ hq
      rw [ha] at ea; cases ea
      split at hm
      · rename_i y' l' hml
        cases hm
        exact go (s := .n) (.inr hq) hml (.inr ⟨hq, rfl⟩) oa
      · cases hm
    · cases hm
  have start : ∀ {G : Gh} {B : Addr → Prop} {H : Hp} {σ : L2.St} {env : En}, EnvR (Ct.mk X.K fa) G B H σ env → lsB env i = true → ∃ a, σ[i]? = some (some (.ref a)) ∧ tyV X.K "list" (.ref a) H := by
    intro G B H σ env E h
    unfold lsB at h
    split at h
    · rename_i l hq
      obtain ⟨a, ea, oa, _⟩ := E.own i _ hq
      cases oa with | lst e r => exact ⟨a, ea, .inl ⟨rfl, _, .inl (.inl e)⟩⟩
    · rename_i l hq
      obtain ⟨a, ea, oa, _⟩ := E.par i _ hq
      cases oa with | lst e r => exact ⟨a, ea, .inl ⟨rfl, _, .inl (.inl e)⟩⟩
    · cases h
  have core : ∀ {σ H Q}, tEv (Ct.mk X.K fa) f σ H Q → tVar i σ H fun x H1 => tyV X.K "list" x H1 ∧ tAv (Ct.mk X.K fa) gs σ H1 fun xs H2 => rMl (Ct.mk X.K fa) m x xs H2 Q := by
    intro σ H Q ⟨G, B, env, r, env', E, h, k⟩
    rw [hf] at h
    split at h
    · rename_i hls
      obtain ⟨a, ha, ty⟩ := start E hls
      split at h
      · rename_i rs e1 h1
        split at h
        · rename_i ds e2 h2
          split at h
          · rename_i y e3 h3
            cases h
            refine ⟨.ref a, ha, ty, G, B, env, rs, e1, E, h1, fun vs H1 S1 E1 R1 => ?_⟩
            obtain ⟨r1, E2, S2⟩ := R1.givs E1 h2
            exact fin E2 (S1.trans S2) ha r1 h3 k
          · cases h
        · cases h
      · cases h
    · cases h
  cases es with
  | nil =>
    refine wkE (pe_bm0 PySem.F.plainAttrs_list slot hty (mtMl (fa := fa) m) hv hbase hline) fun σ H Q q => ?_
    obtain ⟨x', hx', ty, G, B, env, rs, e1, E, h1, k1⟩ := core q
    rw [h0 rfl] at h1
    cases h1
    exact ⟨x', hx', ty, k1 [] H .refl E .nil⟩
  | cons e r =>
    have hp' := hp
    simp only [List.all_cons, Bool.and_eq_true] at hp'
    exact wkE (pe_bm PySem.F.plainAttrs_list slot hty (mtMl (fa := fa) m) hv hs hbase (few_of hp hl _ _) hline (star_cons hp'.1 _ _) (star_plain hp'.2 _ _)) fun σ H Q q => core q
/-! ### and, or -/
theorem c_and1 (ha : PE X a (tEv (Ct.mk X.K fa) ga)) (hf : ∀ env, f env = ga env) : PE X (.BoolOp .And [a] pos) (tEv (Ct.mk X.K fa) f) := by
  have : f = ga := funext hf
  rw [this]
  exact pe_one ha
theorem c_or1 (ha : PE X a (tEv (Ct.mk X.K fa) ga)) (hf : ∀ env, f env = ga env) : PE X (.BoolOp .Or [a] pos) (tEv (Ct.mk X.K fa) f) := by
  have : f = ga := funext hf
  rw [this]
  exact pe_one ha
theorem c_and2 (ha : PE X a (tEv (Ct.mk X.K fa) ga)) (hb : PE X (.BoolOp .And (b :: es) pos) (tEv (Ct.mk X.K fa) gb))
    (hf : ∀ env, f env = match ga env with
      | some (x, e1) => match rd x e1 with
        | some (.bl true) => gb e1
        | some (.bl false) => some (.v (.bl false), e1)
        | _ => none
      | none => none) : PE X (.BoolOp .And (a :: b :: es) pos) (tEv (Ct.mk X.K fa) f) := by
  refine wkE (pe_and ha hb) fun σ H Q ⟨G, B, env, r, env', E, h, k⟩ => ?_
  rw [hf] at h
  split at h
  · rename_i x e1 h1
    split at h
    · rename_i hx
      exact ⟨G, B, env, x, e1, E, h1, fun v H1 S1 E1 R1 => ⟨true, (R1.rd0 E1 hx).bl, iteT ⟨G, B, e1, r, env', E1, h, fun v H' S E' R => k v H' (S1.trans S) E' (R.back S1)⟩⟩⟩
    · rename_i hx
      cases h
      exact ⟨G, B, env, x, env', E, h1, fun v H1 S1 E1 R1 => ⟨false, (R1.rd0 E1 hx).bl, iteF (k _ H1 S1 E1 (.v (.bl _)))⟩⟩
    · cases h
  · cases h
theorem c_or2 (ha : PE X a (tEv (Ct.mk X.K fa) ga)) (hb : PE X (.BoolOp .Or (b :: es) pos) (tEv (Ct.mk X.K fa) gb))
    (hf : ∀ env, f env = match ga env with
      | some (x, e1) => match rd x e1 with
        | some (.bl false) => gb e1
        | some (.bl true) => some (.v (.bl true), e1)
        | _ => none
      | none => none) : PE X (.BoolOp .Or (a :: b :: es) pos) (tEv (Ct.mk X.K fa) f) := by
  refine wkE (pe_or ha hb) fun σ H Q ⟨G, B, env, r, env', E, h, k⟩ => ?_
  rw [hf] at h
  split at h
  · rename_i x e1 h1
    split at h
    · rename_i hx
      exact ⟨G, B, env, x, e1, E, h1, fun v H1 S1 E1 R1 => ⟨false, (R1.rd0 E1 hx).bl, iteF ⟨G, B, e1, r, env', E1, h, fun v H' S E' R => k v H' (S1.trans S) E' (R.back S1)⟩⟩⟩
    · rename_i hx
      cases h
      exact ⟨G, B, env, x, env', E, h1, fun v H1 S1 E1 R1 => ⟨true, (R1.rd0 E1 hx).bl, iteT (k _ H1 S1 E1 (.v (.bl _)))⟩⟩
    · cases h
  · cases h
theorem toB_v {b : Bool} {e : En} : toB (some (.v (.bl b), e)) = some (b, e) := rfl
theorem c_pand1 (ha : PT X a (tTv (Ct.mk X.K fa) fun env => toB (ga env))) (hf : ∀ env, f env = ga env) : PW X (.BoolOp .And [a] pos) (tTv (Ct.mk X.K fa) fun env => toB (f env)) := by
  have : f = ga := funext hf
  rw [this]
  exact pw_and1 ha
theorem c_por1 (ha : PT X a (tTv (Ct.mk X.K fa) fun env => toB (ga env))) (hf : ∀ env, f env = ga env) : PW X (.BoolOp .Or [a] pos) (tTv (Ct.mk X.K fa) fun env => toB (f env)) := by
  have : f = ga := funext hf
  rw [this]
  exact pw_or1 ha
theorem toB_mk {m : Option (R × En)} {x : R} {e1 : En} {b : Bool} (h : m = some (x, e1)) (hb : rd x e1 = some (.bl b)) : toB m = some (b, e1) := by
  rw [h]
  unfold toB
  simp only [hb]
theorem c_pand2 (ha : PT X a (tTv (Ct.mk X.K fa) fun env => toB (ga env))) (hb : PW X (.BoolOp .And (b :: es) pos) (tTv (Ct.mk X.K fa) fun env => toB (gb env)))
    (hf : ∀ env, f env = match ga env with
      | some (x, e1) => match rd x e1 with
        | some (.bl true) => gb e1
        | some (.bl false) => some (.v (.bl false), e1)
        | _ => none
      | none => none) : PW X (.BoolOp .And (a :: b :: es) pos) (tTv (Ct.mk X.K fa) fun env => toB (f env)) := by
  refine wkW (pw_and ha hb) fun σ H Q ⟨G, B, env, r, env', E, h, k⟩ => ?_
  obtain ⟨y, hy, hyb⟩ := toB_is h
  rw [hf] at hy
  split at hy
  · rename_i x e1 h1
    split at hy
    · rename_i hx
      exact ⟨G, B, env, true, e1, E, toB_mk h1 hx, fun H1 S1 E1 => iteT ⟨G, B, e1, r, env', E1, toB_mk hy hyb, fun H' S E' => k H' (S1.trans S) E'⟩⟩
    · rename_i hx
      cases hy
      cases hyb
      exact ⟨G, B, env, false, env', E, toB_mk h1 hx, fun H1 S1 E1 => iteF (k H1 S1 E1)⟩
    · cases hy
  · cases hy
theorem c_por2 (ha : PT X a (tTv (Ct.mk X.K fa) fun env => toB (ga env))) (hb : PW X (.BoolOp .Or (b :: es) pos) (tTv (Ct.mk X.K fa) fun env => toB (gb env)))
    (hf : ∀ env, f env = match ga env with
      | some (x, e1) => match rd x e1 with
        | some (.bl false) => gb e1
        | some (.bl true) => some (.v (.bl true), e1)
        | _ => none
      | none => none) : PW X (.BoolOp .Or (a :: b :: es) pos) (tTv (Ct.mk X.K fa) fun env => toB (f env)) := by
  refine wkW (pw_or ha hb) fun σ H Q ⟨G, B, env, r, env', E, h, k⟩ => ?_
  obtain ⟨y, hy, hyb⟩ := toB_is h
  rw [hf] at hy
  split at hy
  · rename_i x e1 h1
    split at hy
    · rename_i hx
      exact ⟨G, B, env, false, e1, E, toB_mk h1 hx, fun H1 S1 E1 => iteF ⟨G, B, e1, r, env', E1, toB_mk hy hyb, fun H' S E' => k H' (S1.trans S) E'⟩⟩
    · rename_i hx
      cases hy
      cases hyb
      exact ⟨G, B, env, true, env', E, toB_mk h1 hx, fun H1 S1 E1 => iteT (k H1 S1 E1)⟩
    · cases hy
  · cases hy
end
end PL
set_option maxHeartbeats 4000000
namespace PL
open PySem PySem.Spec L2
/-! ### enumerate over a tuple -/
def ItEt (K : PySem.W.Frag) (a : Addr) : It where
  go := fun i H => ∃ (xs : List V) (x : V), SqT K H a xs ∧ xs[i]? = some x
  yld := fun i H v H' => ∃ T x, v = .ref T ∧ H T = none ∧ H' = upd H T (.tup [.int (i : Nat), x]) ∧ ∀ xs, SqT K H a xs → xs[i]? = some x
  stop := fun i H => ∃ xs : List V, SqT K H a xs ∧ xs.length ≤ i
theorem en_new {v : Value} {o : Obj} {H : Heap → Prop} (B : Begins v o H) :
    Meets (Builtin.«enumerate.__new__» ⟨[.type "enumerate", v], []⟩) (fun _ R s => H s.heap ∧
      R (.ok (.ret (.ref (s.heap.push o).objs.size))) { s with heap := (s.heap.push o).push { cls := .type "enumerate", data := .fields #[.none, .bool false, .ref s.heap.objs.size, rawInt 0, .none, .none] } }) :=
  .of_wp fun prog w A R s hh => by
    obtain ⟨hp, g, d, tk, os⟩ := s
    obtain ⟨h1, hq⟩ := hh
    have su := sub_enumerate
    have go : ∀ {A' : Around} {E : Value → Shared → Prop} {Q : Value → Shared → Prop}, Q (.ref hp.objs.size) ⟨hp.push o, g, d, tk, os⟩ → wpAny (model prog w) A' (pyIter v) Q E ⟨hp, g, d, tk, os⟩ :=
      fun q => B.iter prog w _ _ ⟨hp, g, d, tk, os⟩ _ h1 q
    wp_walk using go
    refine wpAny_stack_any fun st => wpAny_pure ?_
    split
    · rename_i c _ _ _ _ _
      cases (c == Value.type "enumerate") <;> (wp_walk using go; exact ⟨_, rfl, hq⟩)
    · wp_walk using go
      exact ⟨_, rfl, hq⟩
theorem call_enT {prog : Program} {w : World} {A : Around} {E : Value → Shared → Prop} {s : Shared} {t : Addr} {items : Array Value} {Q : Value → Shared → Prop} (ht : s.heap.IsTuple t items)
    (h : ∀ h', IsEnum h' (s.heap.objs.size + 1) s.heap.objs.size 0 .none → h'.IsTupleIter s.heap.objs.size t 0 → (∀ b o, s.heap.get? b = some o → h'.get? b = some o) → Q (.ref (s.heap.objs.size + 1)) { s with heap := h' }) :
    wpAny (model prog w) A (call (.type "enumerate") [.ref t]) Q E s := by
  have B := begins_tuple t items
  refine callType_new F.called_enumerate (by decide) (F.typeCall_enumerate_1 _) (F.newCall_enumerate_1 _) (fun obj => F.args_object_init_2 obj _) F.entry_enumerate_new (en_new B) ⟨ht, ?_⟩
  generalize ho : ({ cls := .type "tuple_iterator", data := .fields #[.ref t, .int 0 0] } : Obj) = o
  have hz : (s.heap.push o).objs.size = s.heap.objs.size + 1 := Heap.size_push ..
  have e1 : (s.heap.push o).get? s.heap.objs.size = some o := Heap.get?_push_size _ (by rw [← ho]; rfl)
  show _ ∧ _
  rw [hz]
  have he : IsEnum ((s.heap.push o).push { cls := .type "enumerate", data := .fields #[.none, .bool false, .ref s.heap.objs.size, rawInt 0, .none, .none] }) (s.heap.objs.size + 1) s.heap.objs.size 0 .none := by
    have q := Heap.get?_push_size (s.heap.push o) (o := { cls := .type "enumerate", data := .fields #[.none, .bool false, .ref s.heap.objs.size, rawInt 0, .none, .none] }) rfl
    rw [hz] at q
    exact q
  refine ⟨⟨_, he, rfl⟩, h _ he ⟨o, Heap.get?_push_of_some _ e1, by rw [← ho], by rw [← ho]; rfl⟩ fun b u x => Heap.get?_push_of_some _ (Heap.get?_push_of_some _ x)⟩
theorem turn_enT {P : Program} {w : World} {K : PySem.W.Frag} {elts : List Expr} {kk : Nat} {tpos : Pos} (a e it : Addr) :
    Turn P w K (.Tuple elts kk tpos) (ItEt K a) [e, it] e (fun i h => (∃ old, IsEnum h e it ((i : Nat) : Int) old) ∧ h.IsTupleIter it a i ∧ e ≠ it ∧ a ≠ it ∧ a ≠ e) where
  mem := by simp
  obj := fun i h st b hb => by
    obtain ⟨⟨old, he⟩, ⟨o, ho, hc, hd⟩, _⟩ := st
    have z : b = e ∨ b = it := by simpa using hb
    rcases z with rfl | rfl
    · exact ⟨_, he, fun v q => nomatch q⟩
    · exact ⟨o, ho, fun v q => by rw [hd] at q; cases q⟩
  keep := fun i h h' st k => by
    obtain ⟨⟨old, he⟩, hi, n⟩ := st
    exact ⟨⟨old, k e (by simp) _ he⟩, hi.at fun o q => k it (by simp) o q, n⟩
  item := by
    intro X hP hw hK hc i pins s σ H E I hf st hg
    subst hP hw hK
    obtain ⟨⟨old, he⟩, hit, hne, n2, n3⟩ := st
    obtain ⟨xs, x, hq, hx⟩ := hg
    obtain ⟨its, rv, p, hz⟩ := I.tuple hq
    obtain ⟨u, hu, ru⟩ := rv.get hx
    have hel : e < s.heap.objs.size := Heap.lt_size he
    have hil : it < s.heap.objs.size := by
      obtain ⟨_, q, _⟩ := hit
      exact Heap.lt_size q
    have tp : s.heap.IsTuple a its.toArray := p
    have D := Draws.tuple (prog := X.prog) (w := X.w) (A := X.A.in1) (I.ok.hd hc) it a n2 its.toArray
    have hi : i < its.toArray.size := by
      have := (List.getElem?_eq_some_iff.mp hu).1
      simpa using this
    refine wpAny_pyNext_enum_itemD D he ⟨hit, tp⟩ hi hne (by simp [hne, Ne.symm n3]) fun y h' tk hy ho hit' hT hsz hk => ?_
    have ey : y = u := by
      have hy' : its.toArray[i]? = some y := hy
      rw [List.getElem?_toArray, hu] at hy'
      cases hy'
      rfl
    subst ey
    refine ⟨_, rfl, wpAny_letOwnedTupleGo_enum (s := { s with heap := h', toks := tk + 1 }) ho fun h'' he' sb => ?_⟩
    have hT2 : h''.get? s.heap.objs.size = some { cls := .type "tuple", data := .seq #[.int i tk, y] } := (sb.2 _ (Nat.ne_of_gt hel)).trans hT
    have ob : ObjOk X.prog X.w (upd H s.heap.objs.size (.tup [.int (i : Nat), x])) h'' s.heap.objs.size (.tup [.int (i : Nat), x]) :=
      ⟨by show 2 ≤ sizeLine; decide, [.int i tk, y], .cons ⟨_, rfl⟩ (.cons ru .nil), ⟨_, hT2, rfl, _, rfl⟩⟩
    have I1 : Inv X pins σ (upd H s.heap.objs.size (.tup [.int (i : Nat), x])) { s with heap := h'', toks := tk + 1 } :=
      I.turnedNew (ch := [e, it]) (fun b ob hb q => (sb.2 b fun z => hb (by simp [z])).trans (hk b ob (fun z => hb (by simp [z])) (fun z => hb (by simp [z])) q)) hf (Nat.le_refl _) ob
    refine ⟨.ref s.heap.objs.size, _, I1, rfl, ⟨_, x, rfl, I.hok.fresh (Nat.le_refl _), rfl, fun ys hy => by rw [I.tuple_inj hy hq]; exact hx⟩, ⟨⟨y, ?_⟩, hit'.1.at fun o q => (sb.2 it (Ne.symm hne)).trans q, hne, n2, n3⟩, fun b hb => ?_⟩
    · rw [show ((i + 1 : Nat) : Int) = (i : Int) + 1 by omega]
      exact he'
    · have hb' : b < s.heap.objs.size := by
        have z : b = e ∨ b = it := by simpa using hb
        rcases z with rfl | rfl
        · exact hel
        · exact hil
      rw [upd_ne (Nat.ne_of_lt hb')]
      exact (hf b hb).1
  done := by
    intro X hP hw hK hc i pins s σ H E I hf st hg
    subst hP hw hK
    obtain ⟨⟨old, he⟩, hit, hne, n2, n3⟩ := st
    obtain ⟨xs, hq, hx⟩ := hg
    obtain ⟨its, rv, p, hz⟩ := I.tuple hq
    have tp : s.heap.IsTuple a its.toArray := p
    obtain ⟨f0, f1, f2, f3, f4, f5⟩ := hf it (by simp)
    have hT : s.TypeIs (.ref e) "enumerate" := ⟨_, he, rfl⟩
    have hlen : its.toArray.size ≤ i := by
      rw [List.size_toArray, ← rv.length]
      exact hx
    have fin : ∀ h', Heap.ExtBut it s.heap h' → (fun r s1 => r = none ∧ Inv X pins σ H s1) (none : Option Value) { s with heap := h' } := fun h' eb => ⟨rfl, I.turned (t' := s.toks) (fun b o hb q => eb b o hb q) f0 f1 f3 f4 f5⟩
    unfold pyNext
    refine wpAny_bind (wpAny_attempt (wpAny_callSpecial?_slot (name := Str.ofString "__next__") hT F.slot_enumerate_next
      (wpAny_call_entry F.slot_enumerate_next hT F.entry_enumerate_next ?_ (F.args_enumerate_next_1 _))))
    show wpAny _ _ (field (.ref e) 2 >>= _) _ _ _
    refine wpAny_bind (wpAny_field he rfl (x := .ref it) rfl ?_)
    refine wpAny_bind (wpAny_nextOf_tuple_end (A := X.A.in1) (I.ok.hd hc) hit tp (by simp only [Array.getElem?_eq_none_iff]; exact hlen) fun h' x he' hx' => ?_)
    obtain ⟨o, ho, hc'⟩ := hx'
    refine wpAny_bind (wpAny_isInstance (T := "StopIteration") (b := true) ⟨o, ho, hc'⟩ isSubtype_stop ?_)
    exact wpAny_pure (fin _ he')
  self := fun A i s Q E st h => let ⟨⟨_, he⟩, _⟩ := st; wpAny_pyIter_enum he h
def iEnT (K : PySem.W.Frag) (ta : TA) : TI := fun σ H R => ta σ H fun vs H1 => ∃ a xs, vs = [.ref a] ∧ SqT K H1 a xs ∧ R (ItEt K a) H1
theorem pi_enT {X : Cx} {e : Expr} {ta : TA} {p pos tpos : Pos} {elts : List Expr} {kk : Nat} (hg : Gl X "enumerate") (hm : X.mg "enumerate" = none) (ha : PA X [e] ta) (hs : starEach [e] X.env = (false, eval e X.env) :: starEach [] X.env) :
    PI X (.Tuple elts kk tpos) (.Call (.Name "enumerate" p) [e] [] pos) (iEnT X.K ta) := by
  refine ⟨fun pins s σ H R I h => ?_⟩
  refine PyProof.Rows.Call_ (ld_blt I hg hm (show bootBuiltins "enumerate" = some (.type "enumerate") by decide +kernel) (PyProof.Rows.callWith_type1 (thn (ha.run pos pins s σ H _ I h) fun us s1 ⟨vs, H1, I1, r1, q1⟩ => ?_) hs rfl))
  obtain ⟨a, xs, ex, hq, q⟩ := q1
  subst ex
  cases r1 with
  | cons r rr =>
    cases rr
    cases r
    obtain ⟨its, rv, p', hz⟩ := I1.tuple hq
    have tp : s1.heap.IsTuple a its.toArray := p'
    refine call_enT tp fun h' he hit hk => wpAny_pyIter_enum he ?_
    have I2 : Inv X pins σ H1 { s1 with heap := h' } := I1.kept (t' := s1.toks) hk
    have al : a < s1.heap.objs.size := by
      obtain ⟨o, ho, _⟩ := tp
      exact Heap.lt_size ho
    refine ⟨s1.heap.objs.size + 1, [s1.heap.objs.size + 1, s1.heap.objs.size], _, _, H1, rfl, I2, turn_enT a (s1.heap.objs.size + 1) s1.heap.objs.size,
      ⟨⟨.none, he⟩, hit, Nat.succ_ne_self _, Nat.ne_of_lt al, Nat.ne_of_lt (Nat.lt_succ_of_lt al)⟩, fun b hb => ?_, q⟩
    have hle : s1.heap.objs.size ≤ b := by
      have z : b = s1.heap.objs.size + 1 ∨ b = s1.heap.objs.size := by simpa using hb
      rcases z with rfl | rfl
      · exact Nat.le_add_right _ _
      · exact Nat.le_refl _
    exact I1.fpOk hle (I1.hok.fresh hle)
end PL
set_option maxHeartbeats 4000000
namespace PL
open PySem PySem.Spec L2
/-! ### enumerate over a text -/
def ItEs (z : Str) : It where
  go := fun i _ => i < z.cps.size
  yld := fun i H v H' => ∃ T c, v = .ref T ∧ H T = none ∧ H' = upd H T (.tup [.int (i : Nat), .str ⟨#[c]⟩]) ∧ z.cps[i]? = some c
  stop := fun i _ => i = z.cps.size
theorem turn_enS {P : Program} {w : World} {K : PySem.W.Frag} {elts : List Expr} {kk : Nat} {tpos : Pos} (z : Str) (t : Tok) (e it : Addr) :
    Turn P w K (.Tuple elts kk tpos) (ItEs z) [e, it] e (fun i h => (∃ old, IsEnum h e it ((i : Nat) : Int) old) ∧ h.IsStrIter it (strIterType z) z t i ∧ e ≠ it) where
  mem := by simp
  obj := fun i h st b hb => by
    obtain ⟨⟨old, he⟩, ⟨o, ho, hc, hd⟩, _⟩ := st
    have y : b = e ∨ b = it := by simpa using hb
    rcases y with rfl | rfl
    · exact ⟨_, he, fun v q => nomatch q⟩
    · exact ⟨o, ho, fun v q => by rw [hd] at q; cases q⟩
  keep := fun i h h' st k => by
    obtain ⟨⟨old, he⟩, ⟨o, ho, r⟩, n⟩ := st
    exact ⟨⟨old, k e (by simp) _ he⟩, ⟨o, k it (by simp) o ho, r⟩, n⟩
  item := by
    intro X hP hw hK hc i pins s σ H E I hf st hg
    subst hP hw hK
    obtain ⟨⟨old, he⟩, hit, hne⟩ := st
    have hel : e < s.heap.objs.size := Heap.lt_size he
    have hil : it < s.heap.objs.size := by
      obtain ⟨_, q, _⟩ := hit
      exact Heap.lt_size q
    have D := Draws.text (prog := X.prog) (w := X.w) (A := X.A.in1) (I.ok.hd hc) it z t
    refine wpAny_pyNext_enum_itemD D he hit hg hne (by simp [hne]) fun y h' tk hy ho hit' hT hsz hk => ?_
    obtain ⟨c, u, hcx, rfl⟩ := hy
    refine ⟨_, rfl, wpAny_letOwnedTupleGo_enum (s := { s with heap := h', toks := tk + 1 }) ho fun h'' he' sb => ?_⟩
    have hT2 : h''.get? s.heap.objs.size = some { cls := .type "tuple", data := .seq #[.int i tk, .str ⟨#[c]⟩ u] } := (sb.2 _ (Nat.ne_of_gt hel)).trans hT
    have ob : ObjOk X.prog X.w (upd H s.heap.objs.size (.tup [.int (i : Nat), .str ⟨#[c]⟩])) h'' s.heap.objs.size (.tup [.int (i : Nat), .str ⟨#[c]⟩]) :=
      ⟨by show 2 ≤ sizeLine; decide, [.int i tk, .str ⟨#[c]⟩ u], .cons ⟨_, rfl⟩ (.cons ⟨_, rfl⟩ .nil), ⟨_, hT2, rfl, _, rfl⟩⟩
    have I1 : Inv X pins σ (upd H s.heap.objs.size (.tup [.int (i : Nat), .str ⟨#[c]⟩])) { s with heap := h'', toks := tk + 1 } :=
      I.turnedNew (ch := [e, it]) (fun b ob hb q => (sb.2 b fun y => hb (by simp [y])).trans (hk b ob (fun y => hb (by simp [y])) (fun y => hb (by simp [y])) q)) hf (Nat.le_refl _) ob
    refine ⟨.ref s.heap.objs.size, _, I1, rfl, ⟨_, c, rfl, I.hok.fresh (Nat.le_refl _), rfl, hcx⟩, ⟨⟨.str ⟨#[c]⟩ u, ?_⟩, ?_, hne⟩, fun b hb => ?_⟩
    · rw [show ((i + 1 : Nat) : Int) = (i : Int) + 1 by omega]
      exact he'
    · obtain ⟨o, q1, q2⟩ := hit'
      exact ⟨o, (sb.2 it (Ne.symm hne)).trans q1, q2⟩
    · have hb' : b < s.heap.objs.size := by
        have y : b = e ∨ b = it := by simpa using hb
        rcases y with rfl | rfl
        · exact hel
        · exact hil
      rw [upd_ne (Nat.ne_of_lt hb')]
      exact (hf b hb).1
  done := by
    intro X hP hw hK hc i pins s σ H E I hf st hg
    subst hP hw hK
    obtain ⟨⟨old, he⟩, hit, hne⟩ := st
    have hg' : i = z.cps.size := hg
    subst hg'
    have D := Draws.text (prog := X.prog) (w := X.w) (A := X.A.in1) (I.ok.hd hc) it z t
    obtain ⟨f0, f1, f2, f3, f4, f5⟩ := hf it (by simp)
    exact wpAny_pyNext_enum_endD D he hit fun h' eb => ⟨rfl, I.turned (t' := s.toks) (fun b o hb q => eb b o hb q) f0 f1 f3 f4 f5⟩
  self := fun A i s Q E st h => let ⟨⟨_, he⟩, _⟩ := st; wpAny_pyIter_enum he h
def iEnS (ta : TA) : TI := fun σ H R => ta σ H fun vs H1 => ∃ z, vs = [.str z] ∧ R (ItEs z) H1
theorem pi_enS {X : Cx} {e : Expr} {ta : TA} {p pos tpos : Pos} {elts : List Expr} {kk : Nat} (hg : Gl X "enumerate") (hm : X.mg "enumerate" = none) (ha : PA X [e] ta) (hs : starEach [e] X.env = (false, eval e X.env) :: starEach [] X.env) :
    PI X (.Tuple elts kk tpos) (.Call (.Name "enumerate" p) [e] [] pos) (iEnS ta) := by
  refine ⟨fun pins s σ H R I h => ?_⟩
  refine PyProof.Rows.Call_ (ld_blt I hg hm (show bootBuiltins "enumerate" = some (.type "enumerate") by decide +kernel) (PyProof.Rows.callWith_type1 (thn (ha.run pos pins s σ H _ I h) fun us s1 ⟨vs, H1, I1, r1, q1⟩ => ?_) hs rfl))
  obtain ⟨z, ex, q⟩ := q1
  subst ex
  cases r1 with
  | cons r rr =>
    cases rr
    obtain ⟨t, rfl⟩ := r
    refine call_enumerate_str fun h' he hit _ hk => wpAny_pyIter_enum he ?_
    have I2 : Inv X pins σ H1 { s1 with heap := h' } := I1.kept (t' := s1.toks) hk
    refine ⟨s1.heap.objs.size + 1, [s1.heap.objs.size + 1, s1.heap.objs.size], _, _, H1, rfl, I2, turn_enS z t (s1.heap.objs.size + 1) s1.heap.objs.size, ⟨⟨.none, he⟩, hit, Nat.succ_ne_self _⟩, fun b hb => ?_, q⟩
    have hle : s1.heap.objs.size ≤ b := by
      have y : b = s1.heap.objs.size + 1 ∨ b = s1.heap.objs.size := by simpa using hb
      rcases y with rfl | rfl
      · exact Nat.le_add_right _ _
      · exact Nat.le_refl _
    exact I1.fpOk hle (I1.hok.fresh hle)
end PL
set_option maxHeartbeats 4000000
namespace PL
open PySem PySem.Spec L2 RZ
/-! ### walks that give data -/
abbrev Src := V × D
def SrcV (C : Ct) (A : Addr → Prop) (H : Hp) (l : List Src) : Prop := ∀ s ∈ l, Vw C A H s.1 s.2
abbrev WkG (C : Ct) (l : List Src) : Hp → Prop := fun H => ∃ A, Dom A H ∧ SrcV C A H l
abbrev WkY (C : Ct) (ds : List D) (l : List Src) : Nat → Hp → V → Hp → Prop := fun i H x H' => ∀ A, Dom A H → SrcV C A H l → Same H H' ∧ ∃ d, ds[i]? = some d ∧ Rp C A H' x d
def WkJ (C : Ct) (J : It) (ds : List D) (l : List Src) : Prop := Walk J ds.length (WkG C l) (WkY C ds l)
section
variable {C : Ct}
theorem src1 {A : Addr → Prop} {H : Hp} {v : V} {d : D} {r : List Src} (h : SrcV C A H ((v, d) :: r)) : Vw C A H v d := h (v, d) List.mem_cons_self
theorem src2 {A : Addr → Prop} {H : Hp} {v w : V} {d e : D} (h : SrcV C A H [(v, d), (w, e)]) : Vw C A H w e := h (w, e) (List.mem_cons_of_mem _ List.mem_cons_self)
/-- a list at an address -/
theorem Vw.sql {A : Addr → Prop} {H : Hp} {a : Addr} {l : List D} (h : Vw C A H (.ref a) (.lst l) ∨ Vw C A H (.ref a) (.rol l)) : ∃ vs, SqL C.K H a vs ∧ RpL C A H vs l := by
  rcases h with h | h
  · obtain ⟨b, vs, e, hs, r⟩ := h.lst
    cases e
    exact ⟨vs, .inl (.inl hs), r⟩
  · obtain ⟨b, vs, e, hs, r⟩ := h.rol
    cases e
    exact ⟨vs, hs, r⟩
theorem Vw.sqt {A : Addr → Prop} {H : Hp} {a : Addr} {l : List D} (h : Vw C A H (.ref a) (.tup l)) : ∃ vs, SqT C.K H a vs ∧ RpL C A H vs l := by
  obtain ⟨b, vs, e, hs, r⟩ := h.tup
  cases e
  exact ⟨vs, hs, r⟩
theorem wk_list {a : Addr} {ds : List D} {d : D} (hd : d = .lst ds ∨ d = .rol ds) : WkJ C (Itl C.K a) ds [(.ref a, d)] := by
  have vw : ∀ {A : Addr → Prop} {H : Hp}, SrcV C A H [(.ref a, d)] → ∃ vs, SqL C.K H a vs ∧ RpL C A H vs ds := fun h => Vw.sql (by
    have := src1 h
    rcases hd with rfl | rfl
    · exact .inl this
    · exact .inr this)
  refine ⟨fun i H hi ⟨A, dm, h⟩ => ?_, fun H ⟨A, dm, h⟩ => ?_, fun i H x H' hi _ y A dm h => ?_⟩
  · obtain ⟨vs, hs, r⟩ := vw h
    exact ⟨vs, vs[i]'(by rw [r.length]; exact hi), hs, List.getElem?_eq_getElem _⟩
  · obtain ⟨vs, hs, r⟩ := vw h
    exact ⟨vs, hs, by rw [r.length]; exact Nat.le_refl _⟩
  · obtain ⟨vs, hs, r⟩ := vw h
    obtain ⟨rfl, y⟩ := y
    obtain ⟨d, h1, h2⟩ := r.get' (y vs hs)
    exact ⟨Same.refl _, d, h1, h2⟩
theorem wk_tup {a : Addr} {ds : List D} : WkJ C (Itt C.K a) ds [(.ref a, .tup ds)] := by
  refine ⟨fun i H hi ⟨A, dm, h⟩ => ?_, fun H ⟨A, dm, h⟩ => ?_, fun i H x H' hi _ y A dm h => ?_⟩
  · obtain ⟨vs, hs, r⟩ := (src1 h).sqt
    exact ⟨vs, vs[i]'(by rw [r.length]; exact hi), hs, List.getElem?_eq_getElem _⟩
  · obtain ⟨vs, hs, r⟩ := (src1 h).sqt
    exact ⟨vs, hs, by rw [r.length]; exact Nat.le_refl _⟩
  · obtain ⟨vs, hs, r⟩ := (src1 h).sqt
    obtain ⟨rfl, y⟩ := y
    obtain ⟨d, h1, h2⟩ := r.get' (y vs hs)
    exact ⟨Same.refl _, d, h1, h2⟩
theorem wk_str {z : Str} : WkJ C (Its z) (z.cps.toList.map fun c => .str ⟨#[c]⟩) [] := by
  have hl : (z.cps.toList.map fun c => D.str ⟨#[c]⟩).length = z.cps.size := by rw [List.length_map, Array.length_toList]
  unfold WkJ
  rw [hl]
  refine ⟨fun i H hi _ => hi, fun H _ => Nat.le_refl _, fun i H x H' hi _ y A dm h => ?_⟩
  obtain ⟨rfl, c, hc, rfl⟩ := y
  refine ⟨Same.refl _, .str ⟨#[c]⟩, ?_, .str _⟩
  rw [List.getElem?_map, Array.getElem?_toList, hc]
  rfl
theorem wk_rng {lo hi : Int} : WkJ C (Itr lo (hi - lo).toNat) (rgD lo hi) [] := by
  have hl : (rgD lo hi).length = (hi - lo).toNat := by unfold rgD; rw [List.length_map, List.length_range]
  unfold WkJ
  rw [hl]
  refine ⟨fun i H hi _ => hi, fun H _ => Nat.le_refl _, fun i H x H' hi _ y A dm h => ?_⟩
  obtain ⟨rfl, rfl⟩ := y
  refine ⟨Same.refl _, .int (lo + i), ?_, .int _⟩
  unfold rgD
  rw [List.getElem?_map, List.getElem?_range hi]
  rfl
theorem enumD_get : ∀ {l : List D} {k i : Nat}, (enumD k l)[i]? = l[i]?.map fun d => D.tup [.int (k + i : Nat), d]
  | [], k, i => by simp [enumD]
  | d :: r, k, 0 => by simp [enumD]
  | d :: r, k, i + 1 => by
    simp only [enumD, List.getElem?_cons_succ]
    rw [enumD_get]
    have : k + 1 + i = k + (i + 1) := by omega
    rw [this]
theorem enumD_len : ∀ {l : List D} {k : Nat}, (enumD k l).length = l.length
  | [], _ => rfl
  | d :: r, k => by simp [enumD, enumD_len]
theorem zipD_get : ∀ {l m : List D} {i : Nat} {x y : D}, l[i]? = some x → m[i]? = some y → (zipD l m)[i]? = some (.tup [x, y])
  | [], _, _, _, _, h, _ => by simp at h
  | _ :: _, [], _, _, _, _, h => by simp at h
  | a :: l, b :: m, 0, x, y, h1, h2 => by simp at h1 h2; simp [zipD, h1, h2]
  | a :: l, b :: m, i + 1, x, y, h1, h2 => by
    simp only [zipD, List.getElem?_cons_succ]
    exact zipD_get (by simpa using h1) (by simpa using h2)
theorem zipD_len : ∀ {l m : List D}, (zipD l m).length = min l.length m.length
  | [], _ => by simp [zipD]
  | _ :: _, [] => by simp [zipD]
  | a :: l, b :: m => by simp only [zipD, List.length_cons, zipD_len]; omega
theorem pair_rp {A : Addr → Prop} {H : Hp} {T : Addr} {x y : V} {d e : D} (dm : Dom A H) (hT : H T = none) (hx : Rp C A H x d) (hy : Rp C A H y e) : Same H (upd H T (.tup [x, y])) ∧ Rp C A (upd H T (.tup [x, y])) (.ref T) (.tup [d, e]) :=
  ⟨same_upd hT, .tup upd_same (dm.not hT) (.cons (hx.mv (mv_upd dm hT)) (.cons (hy.mv (mv_upd dm hT)) .nil))⟩
theorem wk_enum {a : Addr} {ds : List D} : WkJ C (Ite C.K a) (enumD 0 ds) [(.ref a, .lst ds)] := by
  unfold WkJ
  rw [enumD_len]
  refine ⟨fun i H hi ⟨A, dm, h⟩ => ?_, fun H ⟨A, dm, h⟩ => ?_, fun i H x H' hi _ y A dm h => ?_⟩
  · obtain ⟨vs, hs, r⟩ := Vw.sql (.inl (src1 h))
    exact ⟨vs, vs[i]'(by rw [r.length]; exact hi), hs, List.getElem?_eq_getElem _⟩
  · obtain ⟨vs, hs, r⟩ := Vw.sql (.inl (src1 h))
    exact ⟨vs, hs, by rw [r.length]; exact Nat.le_refl _⟩
  · obtain ⟨vs, hs, r⟩ := Vw.sql (.inl (src1 h))
    obtain ⟨T, z, rfl, hT, rfl, y⟩ := y
    obtain ⟨d, h1, h2⟩ := r.get' (y vs hs)
    obtain ⟨p1, p2⟩ := pair_rp dm hT (.int (i : Nat)) h2
    refine ⟨p1, _, ?_, p2⟩
    rw [enumD_get, h1]
    simp
theorem wk_enT {a : Addr} {ds : List D} : WkJ C (ItEt C.K a) (enumD 0 ds) [(.ref a, .tup ds)] := by
  unfold WkJ
  rw [enumD_len]
  refine ⟨fun i H hi ⟨A, dm, h⟩ => ?_, fun H ⟨A, dm, h⟩ => ?_, fun i H x H' hi _ y A dm h => ?_⟩
  · obtain ⟨vs, hs, r⟩ := (src1 h).sqt
    exact ⟨vs, vs[i]'(by rw [r.length]; exact hi), hs, List.getElem?_eq_getElem _⟩
  · obtain ⟨vs, hs, r⟩ := (src1 h).sqt
    exact ⟨vs, hs, by rw [r.length]; exact Nat.le_refl _⟩
  · obtain ⟨vs, hs, r⟩ := (src1 h).sqt
    obtain ⟨T, z, rfl, hT, rfl, y⟩ := y
    obtain ⟨d, h1, h2⟩ := r.get' (y vs hs)
    obtain ⟨p1, p2⟩ := pair_rp dm hT (.int (i : Nat)) h2
    refine ⟨p1, _, ?_, p2⟩
    rw [enumD_get, h1]
    simp
theorem wk_enS {z : Str} : WkJ C (ItEs z) (enumD 0 (z.cps.toList.map fun c => .str ⟨#[c]⟩)) [] := by
  have hl : (enumD 0 (z.cps.toList.map fun c => D.str ⟨#[c]⟩)).length = z.cps.size := by rw [enumD_len, List.length_map, Array.length_toList]
  unfold WkJ
  rw [hl]
  refine ⟨fun i H hi _ => hi, fun H _ => rfl, fun i H x H' hi _ y A dm h => ?_⟩
  obtain ⟨T, c, rfl, hT, rfl, hc⟩ := y
  obtain ⟨p1, p2⟩ := pair_rp (C := C) dm hT (.int (i : Nat)) (.str ⟨#[c]⟩)
  refine ⟨p1, _, ?_, p2⟩
  rw [enumD_get, List.getElem?_map, Array.getElem?_toList, hc]
  simp
theorem wk_zip {a b : Addr} {ds es : List D} : WkJ C (Itz C.K a b) (zipD ds es) [(.ref a, .lst ds), (.ref b, .lst es)] := by
  unfold WkJ
  rw [zipD_len]
  refine ⟨fun i H hi ⟨A, dm, h⟩ => ?_, fun H ⟨A, dm, h⟩ => ?_, fun i H x H' hi _ y A dm h => ?_⟩
  · obtain ⟨vs, hs, r⟩ := Vw.sql (.inl (src1 h))
    obtain ⟨ws, ht, q⟩ := Vw.sql (.inl (src2 h))
    exact ⟨vs, ws, vs[i]'(by rw [r.length]; omega), ws[i]'(by rw [q.length]; omega), hs, ht, List.getElem?_eq_getElem _, List.getElem?_eq_getElem _⟩
  · obtain ⟨vs, hs, r⟩ := Vw.sql (.inl (src1 h))
    obtain ⟨ws, ht, q⟩ := Vw.sql (.inl (src2 h))
    exact ⟨vs, ws, hs, ht, by rw [r.length, q.length]; omega⟩
  · obtain ⟨vs, hs, r⟩ := Vw.sql (.inl (src1 h))
    obtain ⟨ws, ht, q⟩ := Vw.sql (.inl (src2 h))
    obtain ⟨T, z, z', rfl, hT, rfl, y, y'⟩ := y
    obtain ⟨d, h1, h2⟩ := r.get' (y vs hs)
    obtain ⟨d', h1', h2'⟩ := q.get' (y' ws ht)
    obtain ⟨p1, p2⟩ := pair_rp dm hT h2 h2'
    exact ⟨p1, _, zipD_get h1 h1', p2⟩
theorem wk_zipT {a b : Addr} {ds es : List D} : WkJ C (ItzT C.K a b) (zipD ds es) [(.ref a, .tup ds), (.ref b, .tup es)] := by
  unfold WkJ
  rw [zipD_len]
  refine ⟨fun i H hi ⟨A, dm, h⟩ => ?_, fun H ⟨A, dm, h⟩ => ?_, fun i H x H' hi _ y A dm h => ?_⟩
  · obtain ⟨vs, hs, r⟩ := (src1 h).sqt
    obtain ⟨ws, ht, q⟩ := (src2 h).sqt
    exact ⟨vs, ws, vs[i]'(by rw [r.length]; omega), ws[i]'(by rw [q.length]; omega), hs, ht, List.getElem?_eq_getElem _, List.getElem?_eq_getElem _⟩
  · obtain ⟨vs, hs, r⟩ := (src1 h).sqt
    obtain ⟨ws, ht, q⟩ := (src2 h).sqt
    exact ⟨vs, ws, hs, ht, by rw [r.length, q.length]; omega⟩
  · obtain ⟨vs, hs, r⟩ := (src1 h).sqt
    obtain ⟨ws, ht, q⟩ := (src2 h).sqt
    obtain ⟨T, z, z', rfl, hT, rfl, y, y'⟩ := y
    obtain ⟨d, h1, h2⟩ := r.get' (y vs hs)
    obtain ⟨d', h1', h2'⟩ := q.get' (y' ws ht)
    obtain ⟨p1, p2⟩ := pair_rp dm hT h2 h2'
    exact ⟨p1, _, zipD_get h1 h1', p2⟩
end
/-! ### what a walked thing is, in a state -/
def SrcOk (C : Ct) (B : Addr → Prop) (σ : L2.St) (env : En) (H : Hp) (gs : Gs) (l : List Src) : Prop :=
  ∀ s ∈ l, Rp C (AA B σ env) H s.1 s.2 ∨ ∃ i, (i, s.2) ∈ gs ∧ σ[i]? = some (some s.1)
section
variable {C : Ct} {G : Gh} {B : Addr → Prop} {H H1 H2 : Hp} {σ : L2.St} {env e1 e2 : En}
theorem grd_at {gs : Gs} (h : grd gs env = true) {i : Nat} {d : D} (hm : (i, d) ∈ gs) : env[i]? = some (.o d) ∨ env[i]? = some (.p d) := by
  unfold grd at h
  have := List.all_eq_true.mp h (i, d) hm
  simp only at this
  split at this
  · rename_i x q
    rw [beqD_eq this]
    exact .inl q
  · rename_i x q
    rw [beqD_eq this]
    exact .inr q
  · cases this
theorem SrcOk.src {gs : Gs} {l : List Src} (h : SrcOk C B σ env H gs l) (E : EnvR C G B H σ env) (hg : grd gs env = true) : SrcV C (AA B σ env) H l := fun s hs => by
  rcases h s hs with h | ⟨i, hm, e⟩
  · exact .rp h
  · refine E.lk ?_ e
    unfold lk
    rcases grd_at hg hm with q | q <;> rw [q]
theorem gOf_src {r : R} {v : V} {d : D} {Hs : Hp} (R : ResR C G B Hs σ e1 H1 v r) (S : Stp H1 σ e1 H2 σ e2) (E : EnvR C G B H2 σ e2) (hd : rd r e2 = some d) {gs : Gs} (hsub : ∀ x ∈ gOf r e2, x ∈ gs) :
    Rp C (AA B σ e2) H2 v d ∨ ∃ i, (i, d) ∈ gs ∧ σ[i]? = some (some v) := by
  have R' := R.unf
  cases r with
  | v x => cases hd; cases R' with | v h => exact .inl (h.mv S.mv)
  | f x => cases hd; cases R' with | v h => exact .inl (h.mv S.mv)
  | o i =>
    cases R' with
    | o h =>
      simp only [PL.rd, PL.lk] at hd
      simp only [gOf] at hsub
      split at hd
      · rename_i x q
        cases hd
        obtain ⟨w, e, r⟩ := E.val i d q
        rw [h] at e; cases e
        exact .inl r
      · rename_i x q
        cases hd
        rw [q] at hsub
        exact .inr ⟨i, hsub _ (by simp), h⟩
      · rename_i x q
        cases hd
        rw [q] at hsub
        exact .inr ⟨i, hsub _ (by simp), h⟩
      · cases hd
theorem gOf_grd {r : R} : grd (gOf r env) env = true := by
  unfold gOf
  split
  · rename_i i
    split
    · rename_i d q
      simp [grd, q, beqD_self]
    · rename_i d q
      simp [grd, q, beqD_self]
    · rfl
  · rfl
theorem grd_app {a b : Gs} : grd (a ++ b) env = (grd a env && grd b env) := by unfold grd; rw [List.all_append]
end
def tIv (C : Ct) (f : En → Option (List D × Gs × En)) : TI := fun σ H Q => ∃ (G : Gh) (B : Addr → Prop) (env : En) (ds : List D) (gs : Gs) (env' : En), EnvR C G B H σ env ∧ f env = some (ds, gs, env') ∧
  ∀ J H' l, Stp H σ env H' σ env' → EnvR C G B H' σ env' → WkJ C J ds l → SrcOk C B σ env' H' gs l → grd gs env' = true → Q J H'
theorem pi_or {X : Cx} {tg e : Expr} {t u : TI} (h : PI X tg e t) (h' : PI X tg e u) : PI X tg e (fun σ H R => t σ H R ∨ u σ H R) :=
  ⟨fun pins s σ H R I q => q.elim (h.run pins s σ H R I) (h'.run pins s σ H R I)⟩
section
variable {X : Cx} {fa : Nat → Option Addr} {pos : Pos} {tg : Expr}
variable {f ga gb gc : En → Option (R × En)} {gi : En → Option (List D × Gs × En)} {a b c : Expr}
theorem i_e (ha : PE X a (tEv (Ct.mk X.K fa) ga))
    (hf : ∀ env, gi env = match ga env with
      | some (x, e1) => match rd x e1 with
        | some d => (walkD d).map fun l => (l, gOf x e1, e1)
        | none => none
      | none => none) : PI X tg a (tIv (Ct.mk X.K fa) gi) := by
  refine wkI (pi_or (pi_list ha) (pi_or (pi_tup ha) (pi_str ha))) fun σ H R ⟨G, B, env, ds, gs, env', E, h, k⟩ => ?_
  rw [hf] at h
  split at h
  · rename_i x e1 h1
    split at h
    · rename_i d hd
      simp only [Option.map_eq_some_iff] at h
      obtain ⟨l, hl, he⟩ := h
      cases he
      have so : ∀ {v H' J}, Stp H σ env H' σ env' → EnvR (Ct.mk X.K fa) G B H' σ env' → ResR (Ct.mk X.K fa) G B H σ env' H' v x → WkJ (Ct.mk X.K fa) J ds [(v, d)] → R J H' := fun {v H' J} S E' Rv w =>
        k J H' _ S E' w (fun s hs => by
          have : s = (v, d) := by simpa using hs
          subst this
          exact gOf_src Rv .refl E' hd fun _ => id) gOf_grd
      unfold walkD at hl
      split at hl
      · cases hl
        refine .inl ⟨G, B, env, x, env', E, h1, fun v H' S E' Rv => ?_⟩
        obtain ⟨p, vs, rfl, hs, r⟩ := (Rv.rd0 E' hd).lst
        exact ⟨p, rfl, ⟨vs, .inl (.inl hs)⟩, so S E' Rv (wk_list (.inl rfl))⟩
      · cases hl
        refine .inl ⟨G, B, env, x, env', E, h1, fun v H' S E' Rv => ?_⟩
        obtain ⟨p, vs, rfl, hs, r⟩ := (Rv.rd0 E' hd).rol
        exact ⟨p, rfl, ⟨vs, hs⟩, so S E' Rv (wk_list (.inr rfl))⟩
      · cases hl
        refine .inr (.inl ⟨G, B, env, x, env', E, h1, fun v H' S E' Rv => ?_⟩)
        obtain ⟨p, vs, rfl, hs, r⟩ := (Rv.rd0 E' hd).tup
        exact ⟨p, rfl, ⟨vs, hs⟩, so S E' Rv wk_tup⟩
      · cases hl
        refine .inr (.inr ⟨G, B, env, x, env', E, h1, fun v H' S E' Rv => ?_⟩)
        rename_i z
        refine ⟨z, (Rv.rd0 E' hd).str, k _ H' [] S E' wk_str (fun s hs => by simp at hs) gOf_grd⟩
      · cases hl
    · cases h
  · cases h
theorem inR_of {i : Int} (h : inR i = true) : -(2 ^ 62) ≤ i ∧ i < 2 ^ 62 := by
  unfold inR at h
  simp only [Bool.and_eq_true, decide_eq_true_eq] at h
  exact h
theorem i_rg1 {p : Pos} (hp : plB a = true) (hg : Gl X "range") (hm : X.mg "range" = none) (ha : PE X a (tEv (Ct.mk X.K fa) ga))
    (hf : ∀ env, gi env = match ga env with
      | some (x, e1) => match rd x e1 with
        | some (.int j) => if inR j then some (rgD 0 j, [], e1) else none
        | _ => none
      | none => none) : PI X tg (.Call (.Name "range" p) [a] [] pos) (tIv (Ct.mk X.K fa) gi) := by
  have st := star_cons (plB_st hp) [] X.env
  refine wkI (pi_range1 hg hm (pa_cons ha pa_nil st) st) fun σ H R ⟨G, B, env, ds, gs, env', E, h, k⟩ => ?_
  rw [hf] at h
  split at h
  · rename_i x e1 h1
    split at h
    · rename_i j hd
      split at h
      · rename_i hr
        cases h
        obtain ⟨r1, r2⟩ := inR_of hr
        refine ⟨G, B, env, x, env', E, h1, fun v H' S E' Rv => ⟨j, by rw [(Rv.rd0 E' hd).int], r1, r2, ?_⟩⟩
        refine k _ H' [] S E' ?_ (fun s hs => by simp at hs) rfl
        have := wk_rng (C := (Ct.mk X.K fa)) (lo := 0) (hi := j)
        rw [Int.sub_zero] at this
        exact this
      · cases h
    · cases h
  · cases h
theorem i_rg2 {p : Pos} (hp : plB a = true) (hq : plB b = true) (hg : Gl X "range") (hm : X.mg "range" = none) (ha : PE X a (tEv (Ct.mk X.K fa) ga)) (hb : PE X b (tEv (Ct.mk X.K fa) gb))
    (hf : ∀ env, gi env = match ga env with
      | some (x, e1) => match gb e1 with
        | some (y, e2) => match rd x e2, rd y e2 with
          | some (.int i), some (.int j) => if inR i && inR j then some (rgD i j, [], e2) else none
          | _, _ => none
        | none => none
      | none => none) : PI X tg (.Call (.Name "range" p) [a, b] [] pos) (tIv (Ct.mk X.K fa) gi) := by
  have st := star_cons (plB_st hq) [] X.env
  have st2 := star_cons (plB_st hp) [b] X.env
  refine wkI (pi_range2 hg hm (pa_cons ha (pa_cons hb pa_nil st) st2) (by rw [st2, st]; rfl) st) fun σ H R ⟨G, B, env, ds, gs, env', E, h, k⟩ => ?_
  rw [hf] at h
  split at h
  · rename_i x e1 h1
    split at h
    · rename_i y e2 h2
      split at h
      · rename_i i j hi hj
        split at h
        · rename_i hr
          cases h
          simp only [Bool.and_eq_true] at hr
          obtain ⟨r1, r2⟩ := inR_of hr.1
          obtain ⟨r3, r4⟩ := inR_of hr.2
          refine ⟨G, B, env, x, e1, E, h1, fun v H1 S1 E1 R1 => ⟨G, B, e1, y, env', E1, h2, fun w H2 S2 E2 R2 => ⟨i, j, by rw [(R1.rd S2 E2 hi).int, (R2.rd0 E2 hj).int], ⟨r1, r2, r3, r4⟩, ?_⟩⟩⟩
          exact k _ H2 [] (S1.trans S2) E2 wk_rng (fun s hs => by simp at hs) rfl
        · cases h
      · cases h
    · cases h
  · cases h
theorem i_enum {p tpos : Pos} {elts : List Expr} {kk : Nat} (hp : plB a = true) (hg : Gl X "enumerate") (hm : X.mg "enumerate" = none) (ha : PE X a (tEv (Ct.mk X.K fa) ga))
    (hf : ∀ env, gi env = match ga env with
      | some (x, e1) => match rd x e1 with
        | some (.lst l) => some (enumD 0 l, gOf x e1, e1)
        | some (.tup l) => some (enumD 0 l, gOf x e1, e1)
        | some (.str z) => some (enumD 0 (z.cps.toList.map fun c => .str ⟨#[c]⟩), [], e1)
        | _ => none
      | none => none) : PI X (.Tuple elts kk tpos) (.Call (.Name "enumerate" p) [a] [] pos) (tIv (Ct.mk X.K fa) gi) := by
  have st := star_cons (plB_st hp) [] X.env
  have pa := pa_cons ha pa_nil st
  refine wkI (pi_or (pi_enum hg hm pa st) (pi_or (pi_enT hg hm pa st) (pi_enS hg hm pa st))) fun σ H R ⟨G, B, env, ds, gs, env', E, h, k⟩ => ?_
  rw [hf] at h
  split at h
  · rename_i x e1 h1
    split at h
    · rename_i l hd
      cases h
      refine .inl ⟨G, B, env, x, env', E, h1, fun v H' S E' Rv => ?_⟩
      obtain ⟨p, vs, rfl, hs, r⟩ := (Rv.rd0 E' hd).lst
      refine ⟨p, vs, rfl, .inl (.inl hs), k _ H' _ S E' wk_enum (fun s hs => ?_) gOf_grd⟩
      have : s = (.ref p, .lst l) := by simpa using hs
      subst this
      exact gOf_src Rv .refl E' hd fun _ => id
    · rename_i l hd
      cases h
      refine .inr (.inl ⟨G, B, env, x, env', E, h1, fun v H' S E' Rv => ?_⟩)
      obtain ⟨p, vs, rfl, hs, r⟩ := (Rv.rd0 E' hd).tup
      refine ⟨p, vs, rfl, hs, k _ H' _ S E' wk_enT (fun s hs => ?_) gOf_grd⟩
      have : s = (.ref p, .tup l) := by simpa using hs
      subst this
      exact gOf_src Rv .refl E' hd fun _ => id
    · rename_i z hd
      cases h
      refine .inr (.inr ⟨G, B, env, x, env', E, h1, fun v H' S E' Rv => ?_⟩)
      have hz := (Rv.rd0 E' hd).str
      subst hz
      exact ⟨z, rfl, k _ H' [] S E' wk_enS (fun s hs => nomatch hs) rfl⟩
    · cases h
  · cases h
theorem i_zip {p tpos : Pos} {elts : List Expr} {kk : Nat} (hp : plB a = true) (hq : plB b = true) (hg : Gl X "zip") (hm : X.mg "zip" = none) (ha : PE X a (tEv (Ct.mk X.K fa) ga)) (hb : PE X b (tEv (Ct.mk X.K fa) gb))
    (hf : ∀ env, gi env = match ga env with
      | some (x, e1) => match gb e1 with
        | some (y, e2) => match rd x e2, rd y e2 with
          | some (.lst l), some (.lst m) => some (zipD l m, gOf x e2 ++ gOf y e2, e2)
          | some (.tup l), some (.tup m) => some (zipD l m, gOf x e2 ++ gOf y e2, e2)
          | _, _ => none
        | none => none
      | none => none) : PI X (.Tuple elts kk tpos) (.Call (.Name "zip" p) [a, b] [] pos) (tIv (Ct.mk X.K fa) gi) := by
  have st := star_cons (plB_st hq) [] X.env
  have st2 := star_cons (plB_st hp) [b] X.env
  refine wkI (pi_zipA hg hm (pa_cons ha (pa_cons hb pa_nil st) st2) st2 (star_plain (by simp [plB_st hq]) _ _)) fun σ H R ⟨G, B, env, ds, gs, env', E, h, k⟩ => ?_
  rw [hf] at h
  split at h
  · rename_i x e1 h1
    split at h
    · rename_i y e2 h2
      split at h
      · rename_i l m hi hj
        cases h
        refine ⟨G, B, env, x, e1, E, h1, fun v H1 S1 E1 R1 => ⟨G, B, e1, y, env', E1, h2, fun w H2 S2 E2 R2 => ?_⟩⟩
        obtain ⟨p, vs, rfl, hs, r⟩ := (R1.rd S2 E2 hi).lst
        obtain ⟨q, ws, rfl, ht, r'⟩ := (R2.rd0 E2 hj).lst
        refine ⟨p, q, vs, ws, rfl, .inl ⟨.inl (.inl hs), .inl (.inl ht), k _ H2 _ (S1.trans S2) E2 wk_zip (fun s hs => ?_) (by rw [grd_app, gOf_grd, gOf_grd]; rfl)⟩⟩
        have : s = (.ref p, .lst l) ∨ s = (.ref q, .lst m) := by simpa using hs
        rcases this with rfl | rfl
        · exact gOf_src R1 S2 E2 hi fun _ z => List.mem_append_left _ z
        · exact gOf_src R2 .refl E2 hj fun _ z => List.mem_append_right _ z
      · rename_i l m hi hj
        cases h
        refine ⟨G, B, env, x, e1, E, h1, fun v H1 S1 E1 R1 => ⟨G, B, e1, y, env', E1, h2, fun w H2 S2 E2 R2 => ?_⟩⟩
        obtain ⟨p, vs, rfl, hs, r⟩ := (R1.rd S2 E2 hi).tup
        obtain ⟨q, ws, rfl, ht, r'⟩ := (R2.rd0 E2 hj).tup
        refine ⟨p, q, vs, ws, rfl, .inr ⟨hs, ht, k _ H2 _ (S1.trans S2) E2 wk_zipT (fun s hs => ?_) (by rw [grd_app, gOf_grd, gOf_grd]; rfl)⟩⟩
        have : s = (.ref p, .tup l) ∨ s = (.ref q, .tup m) := by simpa using hs
        rcases this with rfl | rfl
        · exact gOf_src R1 S2 E2 hi fun _ z => List.mem_append_left _ z
        · exact gOf_src R2 .refl E2 hj fun _ z => List.mem_append_right _ z
      · cases h
    · cases h
  · cases h
end
end PL
set_option maxHeartbeats 4000000
namespace PL
open PySem PySem.Spec L2
section
variable {C : Ct} {G : Gh} {B : Addr → Prop} {H H' : Hp} {σ σ2 : L2.St} {env env' : En}
theorem aa_wipe {own : List Nat} : ∀ b, AA (Bw B σ env own) (L2.wipe σ own) (wipeE env own) b → AA B σ env b := fun b z => by
  rcases z with (z | ⟨i, _, d, z⟩) | ⟨i, d, z⟩
  · exact .inl z
  · exact .inr ⟨i, d, z⟩
  · exact .inr ⟨i, d, (isow_wipe z).2⟩
theorem wipe_in : ∀ {own : List Nat} {i : Nat}, i ∈ own → i < σ.length → (L2.wipe σ own)[i]? = some none
  | j :: r, i, h, hl => by
    unfold L2.wipe
    by_cases hj : j = i
    · subst hj
      rw [List.getElem?_set]
      have : j < (L2.wipe σ r).length := by rw [wipe_length]; exact hl
      simp [this]
    · rw [List.getElem?_set_ne hj]
      rcases List.mem_cons.mp h with z | z
      · exact absurd z.symm hj
      · exact wipe_in z hl
theorem wipe_eq {own : List Nat} (hl : σ2.length = σ.length) (h : ∀ i, i ∉ own → σ2[i]? = σ[i]?) : L2.wipe σ2 own = L2.wipe σ own := by
  refine List.ext_getElem? fun i => ?_
  by_cases hi : i ∈ own
  · by_cases hs : i < σ.length
    · rw [wipe_in hi hs, wipe_in hi (by rw [hl]; exact hs)]
    · rw [List.getElem?_eq_none (by rw [wipe_length, hl]; omega), List.getElem?_eq_none (by rw [wipe_length]; omega)]
  · rw [wipe_get hi, wipe_get hi, h i hi]
/-- what is kept apart is changed -/
theorem EnvR.chB (E : EnvR C G B H σ env) {p : Addr} {o : HO} (h : B p) : EnvR C G B (upd H p o) σ env := by
  have m : Mv (AA B σ env) (AA B σ env) H (upd H p o) := mv_own (.inl h)
  have ne : ∀ a, Own σ env a → a ≠ p := fun a z e => E.bdis p h (e ▸ z)
  have dm : ∀ b, H b ≠ none → upd H p o b ≠ none := fun b n => by
    by_cases z : b = p
    · rw [z, upd_same]; exact fun z => nomatch z
    · rw [upd_ne z]; exact n
  refine ⟨E.len, fun i d q => ?_, fun i d q => ?_, fun i d q => ?_, E.inj, fun a z => dm a (E.bdom a z), E.bdis, fun a z => dm a (E.ent a z)⟩
  · obtain ⟨v, e, r⟩ := E.val i d q
    exact ⟨v, e, r.mv m⟩
  · obtain ⟨a, e, r, z⟩ := E.own i d q
    exact ⟨a, e, r.mv m fun o' q' => by rw [upd_ne (ne a ⟨i, d, .inl q, e⟩)]; exact q', z⟩
  · obtain ⟨a, e, r, z⟩ := E.par i d q
    exact ⟨a, e, r.mv m fun o' q' => by rw [upd_ne (ne a ⟨i, d, .inr q, e⟩)]; exact q', z⟩
end
/-! ### targets -/
def tGv (C : Ct) (g : D → En → Option En) (sl : Nat → Prop) : TG := fun v σ H Q => ∃ (G : Gh) (B : Addr → Prop) (env : En) (d : D) (env' : En), EnvR C G B H σ env ∧ Rp C (AA B σ env) H v d ∧ g d env = some env' ∧
  ∀ σ', Stp H σ env H σ' env' → EnvR C G B H σ' env' → σ'.length = σ.length → (∀ i, ¬ sl i → σ'[i]? = σ[i]?) → Q σ' H
def tGsv (C : Ct) (g : List D → En → Option En) (sl : Nat → Prop) : TGs := fun vs σ H Q => ∃ (G : Gh) (B : Addr → Prop) (env : En) (ds : List D) (env' : En), EnvR C G B H σ env ∧ RpL C (AA B σ env) H vs ds ∧ g ds env = some env' ∧
  ∀ σ', Stp H σ env H σ' env' → EnvR C G B H σ' env' → σ'.length = σ.length → (∀ i, ¬ sl i → σ'[i]? = σ[i]?) → Q σ' H
structure TgOk (X : Cx) (sc : Scope) : Prop where
  ok : ∀ x, locB sc x = true → Loc X.env.scope x ∧ (X.fn x = true ∨ X.env.scope.names.lookup x = some .local)
abbrev slOf : Option (List Nat) → Nat → Prop
  | none => fun _ => True
  | some l => fun i => i ∈ l
theorem asg_cons {e : Expr} (h : noSt e = true) {es : List Expr} {env : Env} : assignEach (e :: es) env = (false, assign e env) :: assignEach es env := by
  cases e <;> first | rfl | cases h
theorem asg_plain {env : Env} : ∀ {es : List Expr}, es.all noSt = true → (assignEach es env).length = es.length ∧ (assignEach es env).findIdx? (·.1) = none
  | [], _ => ⟨rfl, rfl⟩
  | e :: r, h => by
    simp only [List.all_cons, Bool.and_eq_true] at h
    obtain ⟨h1, h2⟩ := asg_plain (env := env) h.2
    have he : ∃ t, assignEach (e :: r) env = (false, t) :: assignEach r env := by
      cases e <;> first | exact ⟨_, rfl⟩ | cases h.1
    obtain ⟨t, he⟩ := he
    rw [he]
    exact ⟨by simp [h1], by simp [List.findIdx?_cons, h2]⟩
theorem chkT_st {N : List Str} {sc : Scope} {ow : Option (List Nat)} : ∀ {t : Tg} {e : Expr}, chkT N sc ow t e = true → noSt e = true
  | .nm _, e, h => by cases e <;> first | rfl | simp [chkT] at h
  | .tp _, e, h => by cases e <;> first | rfl | simp [chkT] at h
theorem chkTs_st {N : List Str} {sc : Scope} {ow : Option (List Nat)} : ∀ {t : List Tg} {e : List Expr}, chkTs N sc ow t e = true → e.all noSt = true ∧ t.length = e.length
  | [], [], _ => ⟨rfl, rfl⟩
  | [], _ :: _, h => by simp [chkTs] at h
  | _ :: _, [], h => by simp [chkTs] at h
  | t :: ts, e :: es, h => by
    simp only [chkTs, Bool.and_eq_true] at h
    obtain ⟨h1, h2⟩ := chkTs_st h.2
    exact ⟨by simp [chkT_st h.1, h1], by simp [h2]⟩
section
variable {X : Cx} {fa : Nat → Option Addr}
mutual
theorem s_T {sc : Scope} {ow : Option (List Nat)} (hc : X.calm = true) (nd : X.N.Nodup) (ok : TgOk X sc) : ∀ {t : Tg} {e : Expr}, chkT X.N sc ow t e = true → PG X e (tGv (Ct.mk X.K fa) (asgT t) (slOf ow))
  | .nm i, e, h => by
    cases e with
    | Name x p =>
      simp only [chkT, Bool.and_eq_true, decide_eq_true_eq] at h
      obtain ⟨⟨⟨h1, h2⟩, h3⟩, h4⟩ := h
      obtain ⟨o1, o2⟩ := ok.ok x h2
      refine wkG (pg_name nd h1 o1 o2) fun v σ H Q ⟨G, B, env, d, env', E, r, ha, k⟩ => ?_
      have ha' : putS env i (.v d) = some env' := by simpa only [asgT] using ha
      refine k _ (Stp.put ha') (E.put r ha') (List.length_set ..) fun j hj => ?_
      refine List.getElem?_set_ne fun z => ?_
      subst z
      cases ow with
      | none => exact hj trivial
      | some l => exact hj (by simpa using h4)
    | _ => simp [chkT] at h
  | .tp l, e, h => by
    cases e with
    | Tuple es kk p =>
      simp only [chkT] at h
      obtain ⟨h1, h2⟩ := chkTs_st h
      obtain ⟨a1, a2⟩ := asg_plain (env := X.env) h1
      refine wkG (pg_tup hc (s_Ts hc nd ok h) a1 a2) fun v σ H Q ⟨G, B, env, d, env', E, r, ha, k⟩ => ?_
      cases d <;> simp only [asgT, reduceCtorEq] at ha
      obtain ⟨a, vs, rfl, hs, rl⟩ := r.tup'
      have hl : vs.length = es.length := by
        have : ∀ {l : List Tg} {ds : List D} {env env' : En}, asgTs l ds env = some env' → ds.length = l.length := by
          intro l
          induction l with
          | nil => intro ds env env' h; cases ds <;> simp_all [asgTs]
          | cons t l ih =>
            intro ds env env' h
            cases ds with
            | nil => simp [asgTs] at h
            | cons d ds =>
              simp only [asgTs] at h
              split at h
              · simp [ih h]
              · cases h
        rw [rl.length, this ha, h2]
      exact ⟨a, vs, rfl, hs, hl, G, B, env, _, env', E, rl, ha, k⟩
    | _ => simp [chkT] at h
theorem s_Ts {sc : Scope} {ow : Option (List Nat)} (hc : X.calm = true) (nd : X.N.Nodup) (ok : TgOk X sc) : ∀ {t : List Tg} {e : List Expr}, chkTs X.N sc ow t e = true → PGs X e (tGsv (Ct.mk X.K fa) (asgTs t) (slOf ow))
  | [], e, h => by
    cases e with
    | nil =>
      refine wkGs pgs_nil fun vs σ H Q ⟨G, B, env, ds, env', E, r, ha, k⟩ => ?_
      cases ds with
      | nil =>
        cases r
        simp only [asgTs, Option.some.injEq] at ha
        subst ha
        exact ⟨rfl, k σ .refl E rfl fun _ _ => rfl⟩
      | cons d ds => simp [asgTs] at ha
    | cons _ _ => simp [chkTs] at h
  | t :: ts, e, h => by
    cases e with
    | nil => simp [chkTs] at h
    | cons e es =>
      simp only [chkTs, Bool.and_eq_true] at h
      refine wkGs (pgs_cons (s_T hc nd ok h.1) (s_Ts hc nd ok h.2) (by rw [asg_cons (chkT_st h.1)]; rfl)) fun vs σ H Q ⟨G, B, env, ds, env', E, r, ha, k⟩ => ?_
      cases ds with
      | nil => simp [asgTs] at ha
      | cons d ds =>
        cases r with
        | cons rv rr =>
          simp only [asgTs] at ha
          split at ha
          · rename_i e1 h1
            refine ⟨_, _, rfl, G, B, env, d, e1, E, rv, h1, fun σ1 S1 E1 l1 k1 => ?_⟩
            exact ⟨G, B, e1, ds, env', E1, rr.mv S1.mv, ha, fun σ2 S2 E2 l2 k2 => k σ2 (S1.trans S2) E2 (l2.trans l1) fun i hi => (k2 i hi).trans (k1 i hi)⟩
          · cases ha
end
end
/-! ### comprehensions -/
theorem SrcOk.later {C : Ct} {G : Gh} {B B' : Addr → Prop} {H1 H : Hp} {σ : L2.St} {e1 ei : En} {gs : Gs} {l : List Src} (h : SrcOk C B σ e1 H1 gs l) (m : Mv (AA B σ e1) (AA B' σ ei) H1 H) : SrcOk C B' σ ei H gs l := fun s hs => by
  rcases h s hs with h | h
  · exact .inl (h.mv m)
  · exact .inr h
section
variable {X : Cx} {fa : Nat → Option Addr} {pos : Pos}
theorem c_lc {f ge : En → Option (R × En)} {gi : En → Option (List D × Gs × En)} {gc : En → Option (Bool × En)} {gt : D → En → Option En} {elt tg iter : Expr} {ifs : List Expr} {scope : Scope} {ownN : List (Str × Nat)} {own : List Nat}
    (hc : X.calm = true) (nd : X.N.Nodup) (hi : PI X tg iter (tIv (Ct.mk X.K fa) gi)) (ok : BlkOk X.N X.env.scope scope ownN) (ho : ownN.map (·.2) = own)
    (hg : ∀ (s : Shared) (H : Hp) (C : Addr) (cl : List (Str × Addr)) (fp : List Addr), PG (X.blk s H scope (compEnvC scope cl C X.env) fp) tg (tGv (Ct.mk X.K fa) gt (· ∈ own)))
    (ht : ∀ (s : Shared) (H : Hp) (C : Addr) (cl : List (Str × Addr)) (fp : List Addr), PTs (X.blk s H scope (compEnvC scope cl C X.env) fp) ifs (tTv (Ct.mk X.K fa) gc))
    (he : ∀ (s : Shared) (H : Hp) (C : Addr) (cl : List (Str × Addr)) (fp : List Addr), PE (X.blk s H scope (compEnvC scope cl C X.env) fp) elt (tEv (Ct.mk X.K fa) ge)) (hp : plB iter = true)
    (hf : ∀ env, f env = match gi env with
      | some (ds, gs, e1) => match loopC (fun d e2 => match gt d (wipeE e2 own) with
          | some e3 => match gc e3 with
            | some (true, e4) => match ge e4 with
              | some (r, e5) => match giv r e5 with
                | some (x, e6) => if grd gs (restE e6 e2 own) then some (some x, restE e6 e2 own) else none
                | none => none
              | none => none
            | some (false, e4) => if grd gs (restE e4 e2 own) then some (none, restE e4 e2 own) else none
            | none => none
          | none => none) ds e1 with
        | some (l, e2) => if l.length ≤ SZ then some (.f (.lst l), e2) else none
        | none => none
      | none => none) :
    ∀ σ H Q, tEv (Ct.mk X.K fa) f σ H Q → tLc (tIv (Ct.mk X.K fa) gi) (tGv (Ct.mk X.K fa) gt (· ∈ own)) (tTv (Ct.mk X.K fa) gc) (tEv (Ct.mk X.K fa) ge) own σ H Q := by
  intro σ H Q ⟨G, B, env, r, env', E, h, k⟩
  rw [hf] at h
  split at h
  · rename_i ds gs e1 h1
    generalize htn : (fun (d : D) (e2 : En) => (match gt d (wipeE e2 own) with
          | some e3 => match gc e3 with
            | some (true, e4) => match ge e4 with
              | some (r, e5) => match giv r e5 with
                | some (x, e6) => if grd gs (restE e6 e2 own) then some (some x, restE e6 e2 own) else none
                | none => none
              | none => none
            | some (false, e4) => if grd gs (restE e4 e2 own) then some (none, restE e4 e2 own) else none
            | none => none
          | none => none : Option (Option D × En))) = tn at h
    split at h
    · rename_i l e2 h2
      split at h
      · rename_i hz
        cases h
        refine ⟨G, B, env, ds, gs, e1, E, h1, fun J H1 sr S1 E1 W so hg0 => fun D0 hD => ?_⟩
        have mvB : ∀ {Hx : Hp} {ei : En}, Stp H1 σ e1 Hx σ ei → Mv (AA B σ e1) (AA (Plus B D0) σ ei) H1 Hx := fun S => ⟨fun b o e n => S.fr b o e fun z => n (.inr z), fun b z => by
          rcases z with (z | z) | z
          · exact .inl (.inl z)
          · exact .inr (z ▸ hD)
          · rcases S.own b z with q | q
            · exact .inl (.inr q)
            · exact .inr q⟩
        have nB : ¬ B D0 := fun z => E1.bdom D0 z hD
        refine lc_it W (fun i Hx => ∃ (ei : En) (acc lr : List D) (av : List V), EnvR (Ct.mk X.K fa) G (Plus B D0) Hx σ ei ∧ Stp H1 σ e1 Hx σ ei ∧ loopC tn (ds.drop i) ei = some (lr, env') ∧ acc ++ lr = l ∧ Hx D0 = some (.lst av) ∧
          RpL (Ct.mk X.K fa) (AA (Plus B D0) σ ei) Hx av acc ∧ grd gs ei = true) ?_ ?_ ?_ ?_
        · exact ⟨e1, [], l, [], E1.fresh hD, .same (same_upd hD), h2, rfl, upd_same, .nil, hg0⟩
        · rintro i Hx hi ⟨ei, acc, lr, av, Ei, Si, _, _, _, _, gi'⟩
          exact ⟨_, Ei.dm, (so.later (G := G) (mvB Si)).src Ei gi'⟩
        · rintro i x Hx Hy hi ⟨ei, acc, lr, av, Ei, Si, hl, ha, hDx, rl, gi'⟩ hY
          obtain ⟨sm, d, hd, rx⟩ := hY _ Ei.dm ((so.later (G := G) (mvB Si)).src Ei gi')
          have hdr : ds.drop i = d :: ds.drop (i + 1) := by
            have hil : i < ds.length := hi
            rw [List.drop_eq_getElem_cons hil]
            rw [List.getElem?_eq_getElem hil] at hd
            cases hd
            rfl
          rw [hdr] at hl
          simp only [loopC] at hl
          split at hl
          · rename_i o e' ht1
            split at hl
            · rename_i l' e'' hl'
              cases hl
              -- the turn
              have Ey := Ei.same0 sm
              have Ew := Ey.wipe own
              rw [← htn] at ht1
              simp only at ht1
              split at ht1
              · rename_i e3 h3
                refine ⟨G, _, wipeE ei own, d, e3, Ew, rx.mv (.sub aa_wipe), h3, fun σ2 S2 E2 l2 k2 => ?_⟩
                have hσ : ∀ j, j ∉ own → σ2[j]? = σ[j]? := fun j hj => (k2 j hj).trans (wipe_get hj)
                have hlen : σ2.length = σ.length := l2.trans (wipe_length _ _)
                refine ⟨wipe_eq hlen hσ, ?_⟩
                -- what stays at D0
                have stayD : ∀ {Hz : Hp} {e7 : En}, Stp Hy σ ei Hz σ e7 → Hz D0 = some (.lst av) := fun S => S.fr D0 _ (sm D0 _ hDx) (Ey.bdis D0 (.inr rfl))
                split at ht1
                · rename_i e4 h4
                  split at ht1
                  · rename_i r5 e5 h5
                    split at ht1
                    · rename_i y e6 h6
                      split at ht1
                      · rename_i hgr
                        cases ht1
                        refine ⟨G, _, e3, true, e4, E2, h4, fun H3 S3 E3 => iteT ⟨G, _, e4, r5, e5, E3, h5, fun v H4 S4 E4 R4 => ?_⟩⟩
                        obtain ⟨ry, E6, S6⟩ := R4.giv .refl E4 h6
                        obtain ⟨E7, S7, sub7⟩ := Ey.rest E6 hlen hσ (((S2.trans S3).trans S4).trans S6)
                        have hD4 := stayD S7
                        have St : Stp H1 σ e1 H4 σ (restE e6 ei own) := (Si.trans (.same sm)).trans S7
                        have rl7 : RpL (Ct.mk X.K fa) (AA (Plus B D0) σ (restE e6 ei own)) H4 av acc := (rl.mv (⟨fun b o e n => sm b o e, fun b z => .inl z⟩ : Mv (AA (Plus B D0) σ ei) (AA (Plus B D0) σ ei) Hx Hy)).mv S7.mv
                        have ac : acc.length < l.length := by
                          rw [← ha]
                          simp
                        refine ⟨av, hD4, ?_, restE e6 ei own, acc ++ [y], l', av ++ [v], E7.chB (.inr rfl), ⟨fun b ob e n => ?_, fun b n => ?_, St.own⟩, hl', ?_, upd_same, ?_, hgr⟩
                        · rw [SZ_eq, rl.length]; omega
                        · have : b ≠ D0 := fun z => by rw [z, hD] at e; cases e
                          rw [upd_ne this]
                          exact St.fr b ob e n
                        · by_cases z : b = D0
                          · rw [z, upd_same]; exact fun q => nomatch q
                          · rw [upd_ne z]; exact St.dom b n
                        · rw [← ha]; simp
                        · have m := mv_own (H := H4) (o := .lst (av ++ [v])) (A := AA (Plus B D0) σ (restE e6 ei own)) (a := D0) (.inl (.inr rfl))
                          exact (rl7.mv m).append (.cons ((ry.mv (.sub sub7)).mv m) .nil)
                      · cases ht1
                    · cases ht1
                  · cases ht1
                · rename_i e4 h4
                  split at ht1
                  · rename_i hgr
                    cases ht1
                    refine ⟨G, _, e3, false, e4, E2, h4, fun H3 S3 E3 => iteF ?_⟩
                    obtain ⟨E7, S7, sub7⟩ := Ey.rest E3 hlen hσ (S2.trans S3)
                    have St : Stp H1 σ e1 H3 σ (restE e4 ei own) := (Si.trans (.same sm)).trans S7
                    have rl7 : RpL (Ct.mk X.K fa) (AA (Plus B D0) σ (restE e4 ei own)) H3 av acc := (rl.mv (⟨fun b o e n => sm b o e, fun b z => .inl z⟩ : Mv (AA (Plus B D0) σ ei) (AA (Plus B D0) σ ei) Hx Hy)).mv S7.mv
                    exact ⟨restE e4 ei own, acc, l', av, E7, St, hl', by simpa using ha, stayD S7, rl7, hgr⟩
                  · cases ht1
                · cases ht1
              · cases ht1
            · cases hl
          · cases hl
        · rintro Hx ⟨ei, acc, lr, av, Ei, Si, hl, ha, hDx, rl, gi'⟩
          rw [List.drop_length] at hl
          cases hl
          rw [List.append_nil] at ha
          subst ha
          exact k _ Hx (S1.trans Si) (Ei.less fun _ z => .inl z) (.f (S1.none hD) nB (.lst hDx rl) Ei)
      · cases h
    · cases h
  · cases h
end
end PL
set_option maxHeartbeats 8000000
namespace PL
open PySem PySem.Spec L2
section
variable {X : Cx} {fa : Nat → Option Addr} {pos : Pos}
theorem c_pite {f ga gb gc : En → Option (R × En)} {a b c : Expr} (hc : PT X c (tTv (Ct.mk X.K fa) fun env => toB (gc env))) (ha : PT X a (tTv (Ct.mk X.K fa) fun env => toB (ga env))) (hb : PT X b (tTv (Ct.mk X.K fa) fun env => toB (gb env)))
    (hf : ∀ env, f env = match toB (gc env) with
      | some (true, e1) => ga e1
      | some (false, e1) => gb e1
      | none => none) : PT X (.IfExp c a b pos) (tTv (Ct.mk X.K fa) fun env => toB (f env)) := by
  refine ⟨fun pins s σ H Q I ⟨G, B, env, r, env', E, h, k⟩ => ?_⟩
  show wpAny _ _ (do if ← isTrue c X.env (eval c X.env) then isTrue a X.env (eval a X.env) else isTrue b X.env (eval b X.env)) _ _ s
  have h' : toB (f env) = some (r, env') := h
  rw [hf] at h'
  split at h'
  · rename_i e1 h1
    refine wpAny_bind (thn (hc.run pins s σ H (fun d H1 => d = true ∧ tTv (Ct.mk X.K fa) (fun env => toB (ga env)) σ H1 Q) I ⟨G, B, env, true, e1, E, h1, fun H1 S1 E1 => ⟨rfl, G, B, e1, r, env', E1, h', fun H' S E' => k H' (S1.trans S) E'⟩⟩) fun d s1 ⟨H1, I1, hd, q⟩ => ?_)
    subst hd
    rw [if_pos rfl]
    exact ha.run pins s1 σ H1 Q I1 q
  · rename_i e1 h1
    refine wpAny_bind (thn (hc.run pins s σ H (fun d H1 => d = false ∧ tTv (Ct.mk X.K fa) (fun env => toB (gb env)) σ H1 Q) I ⟨G, B, env, false, e1, E, h1, fun H1 S1 E1 => ⟨rfl, G, B, e1, r, env', E1, h', fun H' S E' => k H' (S1.trans S) E'⟩⟩) fun d s1 ⟨H1, I1, hd, q⟩ => ?_)
    subst hd
    rw [if_neg Bool.false_ne_true]
    exact hb.run pins s1 σ H1 Q I1 q
  · cases h'
theorem c_ts0 {g : En → Option (Bool × En)} (hf : ∀ env, g env = some (true, env)) : PTs X [] (tTv (Ct.mk X.K fa) g) := by
  refine wkTs pts_nil fun σ H Q ⟨G, B, env, r, env', E, h, k⟩ => ?_
  rw [hf] at h
  cases h
  exact k H .refl E
theorem c_ts1 {g : En → Option (Bool × En)} {ga : En → Option (R × En)} {a : Expr} (ha : PT X a (tTv (Ct.mk X.K fa) fun env => toB (ga env)))
    (hf : ∀ env, g env = match toB (ga env) with
      | some (true, e1) => some (true, e1)
      | some (false, e1) => some (false, e1)
      | none => none) : PTs X [a] (tTv (Ct.mk X.K fa) g) := by
  refine wkTs (pts_one ha) fun σ H Q ⟨G, B, env, r, env', E, h, k⟩ => ?_
  rw [hf] at h
  split at h
  · rename_i e1 h1
    cases h
    exact ⟨G, B, env, true, env', E, h1, k⟩
  · rename_i e1 h1
    cases h
    exact ⟨G, B, env, false, env', E, h1, k⟩
  · cases h
theorem c_o0 {g : En → Option (Option Int × En)} (hf : ∀ env, g env = some (none, env)) : PO X none (tOv (Ct.mk X.K fa) g) := by
  refine wkO po_none fun σ H Q ⟨G, B, env, r, env', E, h, k⟩ => ?_
  rw [hf] at h
  cases h
  exact k H .refl E
theorem c_o1 {g : En → Option (Option Int × En)} {ga : En → Option (R × En)} {a : Expr} (ha : PE X a (tEv (Ct.mk X.K fa) ga))
    (hf : ∀ env, g env = match ga env with
      | some (x, e1) => match rd x e1 with
        | some (.int i) => some (some i, e1)
        | _ => none
      | none => none) : PO X (some a) (tOv (Ct.mk X.K fa) g) := by
  refine wkO (po_some ha) fun σ H Q ⟨G, B, env, r, env', E, h, k⟩ => ?_
  rw [hf] at h
  split at h
  · rename_i x e1 h1
    split at h
    · rename_i i hi
      cases h
      exact ⟨G, B, env, x, env', E, h1, fun v H' S E' R => ⟨i, (R.rd0 E' hi).int, k H' S E'⟩⟩
    · cases h
  · cases h
end
/-- the names of a block -/
theorem TgOk.blk {X : Cx} (s : Shared) (H : Hp) (scope : Scope) (C : Addr) (cl : List (Str × Addr)) (fp : List Addr) : TgOk (X.blk s H scope (compEnvC scope cl C X.env) fp) scope := by
  refine ⟨fun x h => ?_⟩
  unfold locB at h
  split at h
  · rename_i q
    have q' := lookup_relS_keep (sc := X.env.scope) (k := .local) (by decide) q
    exact ⟨.inl q', .inr q'⟩
  · rename_i q
    have q' := lookup_relS_keep (sc := X.env.scope) (k := .cell) (by decide) q
    refine ⟨.inr q', .inl ?_⟩
    show (scope.names.lookup x == some .cell) = true
    rw [q]
    rfl
  · cases h
theorem chkL_pl {T : Tb} {N : List Str} : ∀ {sc : Scope} {l : List Ex} {es : List Expr}, chkL T N sc l es = true → es.all plB = true ∧ l.length = es.length
  | _, [], [], _ => ⟨rfl, rfl⟩
  | _, [], _ :: _, h => by simp [chkL] at h
  | _, _ :: _, [], h => by simp [chkL] at h
  | sc, a :: l, x :: es, h => by
    simp only [chkL, Bool.and_eq_true] at h
    obtain ⟨h1, h2⟩ := chkL_pl h.2
    exact ⟨by simp [h.1.2, h1], by simp [h2]⟩
theorem all_st {es : List Expr} (h : es.all plB = true) : es.all noSt = true := by
  rw [List.all_eq_true] at h ⊢
  exact fun x hx => plB_st (h x hx)
section
variable {T : Tb} {N : List Str} {sc : Scope}
theorem chk_rev {a : Ex} {l r : Expr} {p : Pos} (h : chkE T N sc (.rev a) (.Subscript l r p) = true) : ∃ p1 p2 p3 kk, r = .Slice none none (some (.UnaryOp .USub (.Constant (.int 1) kk p1) p2)) p3 ∧ chkE T N sc a l = true := by
  cases r with
  | Slice lo hi st p3 =>
    cases lo with
    | some _ => simp [chkE] at h
    | none =>
      cases hi with
      | some _ => simp [chkE] at h
      | none =>
        cases st with
        | none => simp [chkE] at h
        | some st =>
          cases st with
          | UnaryOp op e p2 =>
            cases op with
            | USub =>
              cases e with
              | Constant c kk p1 =>
                cases c with
                | int i =>
                  simp only [chkE, Bool.and_eq_true, decide_eq_true_eq] at h
                  obtain ⟨rfl, h⟩ := h
                  exact ⟨p1, p2, p3, kk, rfl, h⟩
                | _ => simp [chkE] at h
              | _ => simp [chkE] at h
            | _ => simp [chkE] at h
          | _ => simp [chkE] at h
  | _ => simp [chkE] at h
theorem chk_isi {a : Ex} {t : Ty} {x : Expr} (h : chkE T N sc (.isi a t) x = true) : ∃ xn p1 e y p2 p, x = .Call (.Name xn p1) [e, .Name y p2] [] p ∧ xn = ("isinstance" : Str) ∧ glB sc xn = true ∧ xn ∈ T.bl ∧ y = Str.ofString (tyN t) ∧ glB sc y = true ∧ y ∈ T.bl ∧
    (nameB y = true ∧ plB e = true) ∧ chkE T N sc a e = true := by
  cases x with
  | Call fn es kws p =>
    cases fn with
    | Name xn p1 =>
      cases es with
      | nil => simp [chkE] at h
      | cons e es =>
        cases es with
        | nil => simp [chkE] at h
        | cons y es =>
          cases es with
          | cons _ _ => cases y <;> simp [chkE] at h
          | nil =>
            cases y with
            | Name y p2 =>
              cases kws with
              | cons _ _ => simp [chkE] at h
              | nil =>
                simp only [chkE, Bool.and_eq_true, beq_iff_eq, List.contains_iff_mem] at h
                obtain ⟨⟨⟨⟨⟨⟨⟨⟨h1, h2⟩, h3⟩, h4⟩, h5⟩, h6⟩, h7⟩, h8⟩, h9⟩ := h
                exact ⟨xn, p1, e, y, p2, p, rfl, h1, h2, h3, h4, h5, h6, ⟨h7, h8⟩, h9⟩
            | _ => simp [chkE] at h
    | _ => simp [chkE] at h
  | _ => simp [chkE] at h
theorem chk_lc {e : Ex} {tg : Tg} {it : It'} {cs : List Ex} {own : List Nat} {x : Expr} (h : chkE T N sc (.lc e tg it cs own) x = true) : ∃ elt tg' iter ifs scope p, x = .ListComp elt [⟨tg', iter, ifs, 0⟩] scope p ∧
    blkC N sc scope (own.map fun i => (N.getD i "", i)) = true ∧ chkT N scope (some own) tg tg' = true ∧ chkI T N sc it iter (isTp tg) = true ∧ chkL T N (relS scope sc) cs ifs = true ∧ cs.length ≤ 1 ∧ chkE T N (relS scope sc) e elt = true := by
  cases x with
  | ListComp elt gens scope p =>
    cases gens with
    | nil => simp [chkE] at h
    | cons g gens =>
      cases gens with
      | cons _ _ => simp [chkE] at h
      | nil =>
        obtain ⟨tg', iter, ifs, asy⟩ := g
        simp only [chkE, Bool.and_eq_true, decide_eq_true_eq] at h
        obtain ⟨⟨⟨⟨⟨⟨h0, h1⟩, h2⟩, h3⟩, h4⟩, h5⟩, h6⟩ := h
        subst h0
        exact ⟨elt, tg', iter, ifs, scope, p, rfl, h1, h2, h3, h4, h5, h6⟩
  | _ => simp [chkE] at h
theorem chk_rg1 {a : Ex} {x : Expr} {tp : Bool} (h : chkI T N sc (.rg1 a) x tp = true) : ∃ xn p1 l p, x = .Call (.Name xn p1) [l] [] p ∧ xn = ("range" : Str) ∧ glB sc xn = true ∧ xn ∈ T.bl ∧ chkE T N sc a l = true ∧ plB l = true := by
  cases x with
  | Call fn es kws p =>
    cases fn with
    | Name xn p1 =>
      cases es with
      | nil => simp [chkI] at h
      | cons l es =>
        cases es with
        | cons _ _ => simp [chkI] at h
        | nil =>
          cases kws with
          | cons _ _ => simp [chkI] at h
          | nil =>
            simp only [chkI, Bool.and_eq_true, beq_iff_eq, List.contains_iff_mem] at h
            obtain ⟨⟨⟨⟨h1, h2⟩, h3⟩, h4⟩, h5⟩ := h
            exact ⟨xn, p1, l, p, rfl, h1, h2, h3, h4, h5⟩
    | _ => simp [chkI] at h
  | _ => simp [chkI] at h
theorem chk_enum {a : Ex} {x : Expr} {tp : Bool} (h : chkI T N sc (.enum a) x tp = true) : ∃ xn p1 l p, x = .Call (.Name xn p1) [l] [] p ∧ xn = ("enumerate" : Str) ∧ glB sc xn = true ∧ xn ∈ T.bl ∧ chkE T N sc a l = true ∧ plB l = true ∧ tp = true := by
  cases x with
  | Call fn es kws p =>
    cases fn with
    | Name xn p1 =>
      cases es with
      | nil => simp [chkI] at h
      | cons l es =>
        cases es with
        | cons _ _ => simp [chkI] at h
        | nil =>
          cases kws with
          | cons _ _ => simp [chkI] at h
          | nil =>
            simp only [chkI, Bool.and_eq_true, beq_iff_eq, List.contains_iff_mem] at h
            obtain ⟨⟨⟨⟨⟨h1, h2⟩, h3⟩, h4⟩, h5⟩, h6⟩ := h
            exact ⟨xn, p1, l, p, rfl, h1, h2, h3, h4, h5, h6⟩
    | _ => simp [chkI] at h
  | _ => simp [chkI] at h
theorem chk_rg2 {a b : Ex} {x : Expr} {tp : Bool} (h : chkI T N sc (.rg2 a b) x tp = true) : ∃ xn p1 l r p, x = .Call (.Name xn p1) [l, r] [] p ∧ xn = ("range" : Str) ∧ glB sc xn = true ∧ xn ∈ T.bl ∧ chkE T N sc a l = true ∧ chkE T N sc b r = true ∧ plB l = true ∧ plB r = true := by
  cases x with
  | Call fn es kws p =>
    cases fn with
    | Name xn p1 =>
      cases es with
      | nil => simp [chkI] at h
      | cons l es =>
        cases es with
        | nil => simp [chkI] at h
        | cons r es =>
          cases es with
          | cons _ _ => simp [chkI] at h
          | nil =>
            cases kws with
            | cons _ _ => simp [chkI] at h
            | nil =>
              simp only [chkI, Bool.and_eq_true, beq_iff_eq, List.contains_iff_mem] at h
              obtain ⟨⟨⟨⟨⟨⟨h1, h2⟩, h3⟩, h4⟩, h5⟩, h6⟩, h7⟩ := h
              exact ⟨xn, p1, l, r, p, rfl, h1, h2, h3, h4, h5, h6, h7⟩
    | _ => simp [chkI] at h
  | _ => simp [chkI] at h
theorem chk_zip {a b : Ex} {x : Expr} {tp : Bool} (h : chkI T N sc (.zip a b) x tp = true) : ∃ xn p1 l r p, x = .Call (.Name xn p1) [l, r] [] p ∧ xn = ("zip" : Str) ∧ glB sc xn = true ∧ xn ∈ T.bl ∧ chkE T N sc a l = true ∧ chkE T N sc b r = true ∧ plB l = true ∧ plB r = true ∧ tp = true := by
  cases x with
  | Call fn es kws p =>
    cases fn with
    | Name xn p1 =>
      cases es with
      | nil => simp [chkI] at h
      | cons l es =>
        cases es with
        | nil => simp [chkI] at h
        | cons r es =>
          cases es with
          | cons _ _ => simp [chkI] at h
          | nil =>
            cases kws with
            | cons _ _ => simp [chkI] at h
            | nil =>
              simp only [chkI, Bool.and_eq_true, beq_iff_eq, List.contains_iff_mem] at h
              obtain ⟨⟨⟨⟨⟨⟨⟨h1, h2⟩, h3⟩, h4⟩, h5⟩, h6⟩, h7⟩, h8⟩ := h
              exact ⟨xn, p1, l, r, p, rfl, h1, h2, h3, h4, h5, h6, h7, h8⟩
    | _ => simp [chkI] at h
  | _ => simp [chkI] at h
end
theorem chkI_pl {T : Tb} {N : List Str} {sc : Scope} {it : It'} {x : Expr} {tp : Bool} (h : chkI T N sc it x tp = true) : plB x = true := by
  cases it with
  | e a =>
    simp only [chkI, Bool.and_eq_true] at h
    exact h.2
  | _ => cases x <;> first | rfl | simp [chkI] at h
abbrev Both (X : Cx) (fa : Nat → Option Addr) (x : Expr) (f : En → Option (R × En)) : Prop := PE X x (tEv ⟨X.K, fa⟩ f) ∧ PT X x (tTv ⟨X.K, fa⟩ fun env => toB (f env))
theorem both {X : Cx} {fa : Nat → Option Addr} {x : Expr} {f : En → Option (R × En)} (h : PE X x (tEv ⟨X.K, fa⟩ f)) (t : tstB x = true) : Both X fa x f := ⟨h, pt_ofE h (tstB_of t _)⟩
section
variable {T : Tab} {F : FT} {k : Nat} (hF : ∀ n as r fin, F n as = some (r, fin) → as.length = T.np n)
include hF
mutual
theorem s_E : ∀ (e : Ex) {X : Cx} {x : Expr}, SOk T F k X → chkE T.toTb X.N X.env.scope e x = true → Both X T.fa x (ev F T.gl e)
  | .k d, X, x, S, h => by
    cases x with
    | Constant c kk p =>
      cases d with
      | non => cases c <;> simp [chkE] at h; exact both (c_k .non pe_non (fun _ _ => .non) fun env => by simp only [ev]) rfl
      | bl b =>
        cases c <;> simp [chkE] at h
        subst h
        exact both (c_k (.bl _) pe_bl (fun _ _ => .bl _) fun env => by simp only [ev]) rfl
      | int b =>
        cases c <;> simp [chkE] at h
        subst h
        exact both (c_k (.int _) pe_int (fun _ _ => .int _) fun env => by simp only [ev]) rfl
      | str b =>
        cases c <;> simp [chkE] at h
        subst h
        exact both (c_k (.str _) pe_str (fun _ _ => .str _) fun env => by simp only [ev]) rfl
      | _ => simp [chkE] at h
    | _ => cases d <;> simp [chkE] at h
  | .v i, X, x, S, h => by
    cases x with
    | Name x p =>
      simp only [chkE, Bool.and_eq_true, decide_eq_true_eq] at h
      obtain ⟨n1, n2, n3⟩ := nameB_of h.2
      exact both (c_v (pe_var h.1.1 (vis_of h.1.2) n1 n2) fun env => by simp only [ev] <;> rfl) rfl
    | _ => simp [chkE] at h
  | .g y, X, x, S, h => by
    cases x with
    | Name x p =>
      simp only [chkE, Bool.and_eq_true, beq_iff_eq] at h
      obtain ⟨⟨h1, h2⟩, h3⟩ := h
      subst h1
      obtain ⟨n1, n2, n3⟩ := nameB_of h3
      refine both (c_g (d0 := T.gl x) (fun d hd => ?_) fun env => by simp only [ev]) rfl
      obtain ⟨u, v, m, rv, rp⟩ := S.gl x d hd
      exact ⟨v, pe_glob (gl_of h2) m rv n1, rp⟩
    | _ => simp [chkE] at h
  | .bin op a b, X, x, S, h => by
    cases x with
    | BinOp l o r p =>
      simp only [chkE, Bool.and_eq_true] at h
      rw [opEq_of h.1.1]
      exact both (c_bin (s_E a S h.1.2).1 (s_E b S h.2).1 fun env => by simp only [ev] <;> rfl) rfl
    | _ => simp [chkE] at h
  | .cmp op a b, X, x, S, h => by
    cases x with
    | Compare l os rs p =>
      cases os with
      | nil => simp [chkE] at h
      | cons o os =>
        cases os with
        | cons _ _ => simp [chkE] at h
        | nil =>
          cases rs with
          | nil => simp [chkE] at h
          | cons r rs =>
            cases rs with
            | cons _ _ => simp [chkE] at h
            | nil =>
              simp only [chkE, Bool.and_eq_true] at h
              rw [copEq_of h.1.1.1]
              exact c_cmp S.hu h.2 (s_E a S h.1.1.2).1 (s_E b S h.1.2).1 fun env => by simp only [ev] <;> rfl
    | _ => simp [chkE] at h
  | .cmp2 op op' a b c, X, x, S, h => by
    cases x with
    | Compare l os rs p =>
      cases os with
      | nil => simp [chkE] at h
      | cons o os =>
        cases os with
        | nil => simp [chkE] at h
        | cons o' os =>
          cases os with
          | cons _ _ => simp [chkE] at h
          | nil =>
            cases rs with
            | nil => simp [chkE] at h
            | cons r rs =>
              cases rs with
              | nil => simp [chkE] at h
              | cons r' rs =>
                cases rs with
                | cons _ _ => simp [chkE] at h
                | nil =>
                  simp only [chkE, Bool.and_eq_true] at h
                  obtain ⟨⟨⟨⟨⟨h1, h2⟩, h3⟩, h4⟩, h5⟩, h6⟩ := h
                  rw [copEq_of h1, copEq_of h2]
                  exact c_cmp2 S.hu h6 (s_E a S h3).1 (s_E b S h4).1 (s_E c S h5).1 fun env => by simp only [ev] <;> rfl
    | _ => simp [chkE] at h
  | .and l, X, x, S, h => by
    cases x with
    | BoolOp op es p =>
      cases op with
      | And =>
        simp only [chkE] at h
        have q := s_And l S (p := p) h
        have e : ev F T.gl (.and l) = evAnd F T.gl l := funext fun env => by simp only [ev]
        rw [Both, e]
        exact ⟨q.1, q.2.pt⟩
      | Or => simp [chkE] at h
    | _ => simp [chkE] at h
  | .or l, X, x, S, h => by
    cases x with
    | BoolOp op es p =>
      cases op with
      | Or =>
        simp only [chkE] at h
        have q := s_Or l S (p := p) h
        have e : ev F T.gl (.or l) = evOr F T.gl l := funext fun env => by simp only [ev]
        rw [Both, e]
        exact ⟨q.1, q.2.pt⟩
      | And => simp [chkE] at h
    | _ => simp [chkE] at h
  | .not a, X, x, S, h => by
    cases x with
    | UnaryOp op l p =>
      cases op with
      | Not =>
        simp only [chkE] at h
        have q := s_E a S h
        exact c_not q.1 q.2 fun env => by simp only [ev] <;> rfl
      | _ => simp [chkE] at h
    | _ => simp [chkE] at h
  | .neg a, X, x, S, h => by
    cases x with
    | UnaryOp op l p =>
      cases op with
      | USub =>
        simp only [chkE] at h
        exact both (c_neg (s_E a S h).1 fun env => by simp only [ev] <;> rfl) rfl
      | _ => simp [chkE] at h
    | _ => simp [chkE] at h
  | .ite c a b, X, x, S, h => by
    cases x with
    | IfExp c' a' b' p =>
      simp only [chkE, Bool.and_eq_true] at h
      have qc := s_E c S h.1.1
      have qa := s_E a S h.1.2
      have qb := s_E b S h.2
      have hf : ∀ env, ev F T.gl (.ite c a b) env = match toB (ev F T.gl c env) with
        | some (true, e1) => ev F T.gl a e1
        | some (false, e1) => ev F T.gl b e1
        | none => none := fun env => by simp only [ev] <;> rfl
      exact ⟨c_ite qc.2 qa.1 qb.1 hf, c_pite qc.2 qa.2 qb.2 hf⟩
    | _ => simp [chkE] at h
  | .tup l, X, x, S, h => by
    cases x with
    | Tuple es kk p =>
      simp only [chkE] at h
      exact both (c_tup (s_L l S h) fun env => by simp only [ev] <;> rfl) rfl
    | _ => simp [chkE] at h
  | .lst l, X, x, S, h => by
    cases x with
    | List es p =>
      simp only [chkE] at h
      exact both (c_lst (s_L l S h) fun env => by simp only [ev] <;> rfl) rfl
    | _ => simp [chkE] at h
  | .idx a i, X, x, S, h => by
    cases x with
    | Subscript l r p =>
      simp only [chkE, Bool.and_eq_true] at h
      exact both (c_idx h.2 (s_E a S h.1.1).1 (s_E i S h.1.2).1 fun env => by simp only [ev] <;> rfl) rfl
    | _ => simp [chkE] at h
  | .slc a lo hi, X, x, S, h => by
    cases x with
    | Subscript l r p =>
      cases r with
      | Slice sl sh st p2 =>
        cases st with
        | none =>
          simp only [chkE, Bool.and_eq_true] at h
          exact both (c_slc (s_E a S h.1.1).1 (s_O lo S h.1.2) (s_O hi S h.2) fun env => by simp only [ev] <;> rfl) rfl
        | some _ => simp [chkE] at h
      | _ => simp [chkE] at h
    | _ => simp [chkE] at h
  | .rev a, X, x, S, h => by
    cases x with
    | Subscript l r p =>
      obtain ⟨p1, p2, p3, kk, rfl, h'⟩ := chk_rev h
      exact both (c_rev (s_E a S h').1 fun env => by simp only [ev] <;> rfl) rfl
    | _ => simp [chkE] at h
  | .call f l, X, x, S, h => by
    cases x with
    | Call fn es kws p =>
      cases fn with
      | Name x p1 =>
        cases kws with
        | nil =>
          simp only [chkE, Bool.and_eq_true, decide_eq_true_eq] at h
          obtain ⟨⟨⟨h1, h2⟩, h3⟩, h4⟩ := h
          obtain ⟨q1, q2⟩ := chkL_pl h4
          refine both (c_call S h1 (gl_of h2) h3 (all_st q1) (s_L l S h4) (fun env => by simp only [ev] <;> rfl) (hF f) fun z env => ?_) rfl
          subst z
          cases l with
          | nil => simp only [evs]
          | cons _ _ => simp at q2
        | cons _ _ => simp [chkE] at h
      | _ => simp [chkE] at h
    | _ => simp [chkE] at h
  | .bi b l, X, x, S, h => by
    cases x with
    | Call fn es kws p =>
      cases fn with
      | Name x p1 =>
        cases kws with
        | nil =>
          simp only [chkE, Bool.and_eq_true, beq_iff_eq, List.contains_iff_mem] at h
          obtain ⟨⟨⟨⟨⟨h1, h2⟩, h3⟩, h4⟩, h5⟩, h6⟩ := h
          obtain ⟨q1, q2⟩ := chkL_pl h6
          cases es with
          | nil => simp at h5
          | cons e es => exact both (c_bi S.calm S.hg S.hu h1 (gl_of h2) (S.bl x h3) h4 (all_st q1) (s_L l S h6) fun env => by simp only [ev] <;> rfl) rfl
        | cons _ _ => simp [chkE] at h
      | _ => simp [chkE] at h
    | _ => simp [chkE] at h
  | .isi a t, X, x, S, h => by
    obtain ⟨xn, p1, e, y, p2, p, rfl, h1, h2, h3, h4, h5, h6, h7, h8⟩ := chk_isi h
    exact both (c_isi h1 (gl_of h2) (S.bl xn h3) h4 (gl_of h5) (S.bl y h6) h7.1 h7.2 (s_E a S h8).1 fun env => by simp only [ev] <;> rfl) rfl
  | .ml m i l, X, x, S, h => by
    cases x with
    | Call fn es kws p =>
      cases fn with
      | Attribute o nm ap =>
        cases o with
        | Name x p1 =>
          cases kws with
          | nil =>
            simp only [chkE, Bool.and_eq_true, decide_eq_true_eq, beq_iff_eq] at h
            obtain ⟨⟨⟨⟨⟨⟨h1, h2⟩, h3⟩, h4⟩, h5⟩, h6⟩, h7⟩ := h
            obtain ⟨n1, n2, n3⟩ := nameB_of h3
            obtain ⟨q1, q2⟩ := chkL_pl h7
            refine both (c_ml (pe_var h1 (vis_of h2) n1 n2) h4 (by simpa using h5) h6 (all_st q1) (s_L l S h7) (fun z env => ?_) fun env => by simp only [ev] <;> rfl) rfl
            subst z
            cases l with
            | nil => simp only [evs]
            | cons _ _ => simp at q2
          | cons _ _ => simp [chkE] at h
        | _ => simp [chkE] at h
      | _ => simp [chkE] at h
    | _ => simp [chkE] at h
  | .lc e tg it cs own, X, x, S, h => by
    obtain ⟨elt, tg', iter, ifs, scope, p, rfl, h1, h2, h3, h4, h5, h6⟩ := chk_lc h
    have ok := blkOk_by h1
    have ho : (own.map fun i => (X.N.getD i "", i)).map (·.2) = own := by
      rw [List.map_map]
      exact List.map_id' own
    have hp : plB iter = true := chkI_pl h3
    have hi := s_I it S (tg := tg') (fun z => by
      cases tg with
      | nm i => cases z
      | tp l => cases tg' <;> first | exact ⟨_, _, _, rfl⟩ | simp [chkT] at h2) h3
    have hg : ∀ (s : Shared) (H : Hp) (C : Addr) (cl : List (Str × Addr)) (fp : List Addr), PG (X.blk s H scope (compEnvC scope cl C X.env) fp) tg' (tGv ⟨X.K, T.fa⟩ (asgT tg) (· ∈ own)) :=
      fun s H C cl fp => s_T (X := X.blk s H scope (compEnvC scope cl C X.env) fp) (fa := T.fa) S.calm S.nd (TgOk.blk s H scope C cl fp) h2
    have ht : ∀ (s : Shared) (H : Hp) (C : Addr) (cl : List (Str × Addr)) (fp : List Addr), PTs (X.blk s H scope (compEnvC scope cl C X.env) fp) ifs (tTv ⟨X.K, T.fa⟩ (tsts F T.gl cs)) :=
      fun s H C cl fp => s_Ts' cs (X := X.blk s H scope (compEnvC scope cl C X.env) fp) (S.blk ..) h4 h5
    have he : ∀ (s : Shared) (H : Hp) (C : Addr) (cl : List (Str × Addr)) (fp : List Addr), PE (X.blk s H scope (compEnvC scope cl C X.env) fp) elt (tEv ⟨X.K, T.fa⟩ (ev F T.gl e)) :=
      fun s H C cl fp => (s_E e (X := X.blk s H scope (compEnvC scope cl C X.env) fp) (S.blk ..) h6).1
    have base := pe_lc (pos := p) S.calm S.nd hi ok hg ht he (plB_fold hp _)
    rw [ho] at base
    exact both (wkE base (c_lc (ownN := own.map fun i => (X.N.getD i "", i)) S.calm S.nd hi ok ho hg ht he hp fun env => by simp only [ev] <;> rfl)) rfl
theorem s_L : ∀ (l : List Ex) {X : Cx} {es : List Expr}, SOk T F k X → chkL T.toTb X.N X.env.scope l es = true → PA X es (tAv ⟨X.K, T.fa⟩ (evs F T.gl l))
  | [], X, es, S, h => by
    cases es with
    | nil => exact c_nil fun env => by simp only [evs]
    | cons _ _ => simp [chkL] at h
  | a :: l, X, es, S, h => by
    cases es with
    | nil => simp [chkL] at h
    | cons x es =>
      simp only [chkL, Bool.and_eq_true] at h
      exact c_cons h.1.2 (s_E a S h.1.1).1 (s_L l S h.2) fun env => by simp only [evs] <;> rfl
theorem s_And : ∀ (l : List Ex) {X : Cx} {es : List Expr} {p : Pos}, SOk T F k X → chkL T.toTb X.N X.env.scope l es = true →
    PE X (.BoolOp .And es p) (tEv ⟨X.K, T.fa⟩ (evAnd F T.gl l)) ∧ PW X (.BoolOp .And es p) (tTv ⟨X.K, T.fa⟩ fun env => toB (evAnd F T.gl l env))
  | [], X, es, p, S, h => by
    have e : evAnd F T.gl [] = fun _ => none := funext fun env => by simp only [evAnd]
    rw [e]
    exact ⟨⟨fun _ _ _ _ _ _ ⟨_, _, _, _, _, _, z, _⟩ => by cases z⟩, ⟨fun _ _ _ _ _ _ _ ⟨_, _, _, _, _, _, z, _⟩ => by cases z⟩⟩
  | [a], X, es, p, S, h => by
    cases es with
    | nil => simp [chkL] at h
    | cons x es =>
      cases es with
      | cons _ _ => simp [chkL] at h
      | nil =>
        simp only [chkL, Bool.and_eq_true] at h
        have q := s_E a S h.1.1
        exact ⟨c_and1 q.1 fun env => by simp only [evAnd], c_pand1 q.2 fun env => by simp only [evAnd]⟩
  | a :: b :: l, X, es, p, S, h => by
    cases es with
    | nil => simp [chkL] at h
    | cons x es =>
      cases es with
      | nil => simp [chkL] at h
      | cons y es =>
        have h' := h
        rw [chkL, Bool.and_eq_true, Bool.and_eq_true] at h'
        have q := s_E a S h'.1.1
        have r := s_And (b :: l) S (p := p) h'.2
        exact ⟨c_and2 q.1 r.1 fun env => by simp only [evAnd] <;> rfl, c_pand2 q.2 r.2 fun env => by simp only [evAnd] <;> rfl⟩
theorem s_Or : ∀ (l : List Ex) {X : Cx} {es : List Expr} {p : Pos}, SOk T F k X → chkL T.toTb X.N X.env.scope l es = true →
    PE X (.BoolOp .Or es p) (tEv ⟨X.K, T.fa⟩ (evOr F T.gl l)) ∧ PW X (.BoolOp .Or es p) (tTv ⟨X.K, T.fa⟩ fun env => toB (evOr F T.gl l env))
  | [], X, es, p, S, h => by
    have e : evOr F T.gl [] = fun _ => none := funext fun env => by simp only [evOr]
    rw [e]
    exact ⟨⟨fun _ _ _ _ _ _ ⟨_, _, _, _, _, _, z, _⟩ => by cases z⟩, ⟨fun _ _ _ _ _ _ _ ⟨_, _, _, _, _, _, z, _⟩ => by cases z⟩⟩
  | [a], X, es, p, S, h => by
    cases es with
    | nil => simp [chkL] at h
    | cons x es =>
      cases es with
      | cons _ _ => simp [chkL] at h
      | nil =>
        simp only [chkL, Bool.and_eq_true] at h
        have q := s_E a S h.1.1
        exact ⟨c_or1 q.1 fun env => by simp only [evOr], c_por1 q.2 fun env => by simp only [evOr]⟩
  | a :: b :: l, X, es, p, S, h => by
    cases es with
    | nil => simp [chkL] at h
    | cons x es =>
      cases es with
      | nil => simp [chkL] at h
      | cons y es =>
        have h' := h
        rw [chkL, Bool.and_eq_true, Bool.and_eq_true] at h'
        have q := s_E a S h'.1.1
        have r := s_Or (b :: l) S (p := p) h'.2
        exact ⟨c_or2 q.1 r.1 fun env => by simp only [evOr] <;> rfl, c_por2 q.2 r.2 fun env => by simp only [evOr] <;> rfl⟩
theorem s_O : ∀ (o : Option Ex) {X : Cx} {x : Option Expr}, SOk T F k X → chkO T.toTb X.N X.env.scope o x = true → PO X x (tOv ⟨X.K, T.fa⟩ (evO F T.gl o))
  | none, X, x, S, h => by
    cases x with
    | none => exact c_o0 fun env => by simp only [evO]
    | some _ => simp [chkO] at h
  | some a, X, x, S, h => by
    cases x with
    | none => simp [chkO] at h
    | some x =>
      simp only [chkO] at h
      exact c_o1 (s_E a S h).1 fun env => by simp only [evO] <;> rfl
theorem s_Ts' : ∀ (l : List Ex) {X : Cx} {es : List Expr}, SOk T F k X → chkL T.toTb X.N X.env.scope l es = true → l.length ≤ 1 → PTs X es (tTv ⟨X.K, T.fa⟩ (tsts F T.gl l))
  | [], X, es, S, h, _ => by
    cases es with
    | nil => exact c_ts0 fun env => by simp only [tsts]
    | cons _ _ => simp [chkL] at h
  | [a], X, es, S, h, _ => by
    cases es with
    | nil => simp [chkL] at h
    | cons x es =>
      cases es with
      | cons _ _ => simp [chkL] at h
      | nil =>
        simp only [chkL, Bool.and_eq_true] at h
        exact c_ts1 (s_E a S h.1.1).2 fun env => by simp only [tsts] <;> rfl
  | _ :: _ :: _, X, es, S, h, hl => by simp at hl
theorem s_I : ∀ (it : It') {X : Cx} {tg x : Expr} {tp : Bool}, SOk T F k X → (tp = true → ∃ elts kk tpos, tg = .Tuple elts kk tpos) → chkI T.toTb X.N X.env.scope it x tp = true → PI X tg x (tIv ⟨X.K, T.fa⟩ (evI F T.gl it))
  | .e a, X, tg, x, tp, S, ht, h => by
    simp only [chkI, Bool.and_eq_true] at h
    exact i_e (s_E a S h.1).1 fun env => by simp only [evI] <;> rfl
  | .rg1 a, X, tg, x, tp, S, ht, h => by
    obtain ⟨xn, p1, l, p, rfl, h1, h2, h3, h4, h5⟩ := chk_rg1 h
    subst h1
    exact i_rg1 h5 (gl_of h2) (S.bl _ h3) (s_E a S h4).1 fun env => by simp only [evI] <;> rfl
  | .rg2 a b, X, tg, x, tp, S, ht, h => by
    obtain ⟨xn, p1, l, r, p, rfl, h1, h2, h3, h4, h5, h6, h7⟩ := chk_rg2 h
    subst h1
    exact i_rg2 h6 h7 (gl_of h2) (S.bl _ h3) (s_E a S h4).1 (s_E b S h5).1 fun env => by simp only [evI] <;> rfl
  | .rg3 _ _ _, X, tg, x, tp, S, ht, h => by cases x <;> simp [chkI] at h
  | .enum a, X, tg, x, tp, S, ht, h => by
    obtain ⟨xn, p1, l, p, rfl, h1, h2, h3, h4, h5, h6⟩ := chk_enum h
    subst h1
    obtain ⟨elts, kk, tpos, rfl⟩ := ht h6
    exact i_enum h5 (gl_of h2) (S.bl _ h3) (s_E a S h4).1 fun env => by simp only [evI] <;> rfl
  | .zip a b, X, tg, x, tp, S, ht, h => by
    obtain ⟨xn, p1, l, r, p, rfl, h1, h2, h3, h4, h5, h6, h7, h8⟩ := chk_zip h
    subst h1
    obtain ⟨elts, kk, tpos, rfl⟩ := ht h8
    exact i_zip h6 h7 (gl_of h2) (S.bl _ h3) (s_E a S h4).1 (s_E b S h5).1 fun env => by simp only [evI] <;> rfl
end
end
end PL
set_option maxHeartbeats 4000000
namespace PL
open PySem PySem.Spec L2
section
variable {C : Ct} {G : Gh} {B : Addr → Prop} {H H1 H' : Hp} {σ σ1 σ' : L2.St} {env e1 e2 env' : En} {v : V} {r : R}
/-! ### ends of statements -/
def RtOk (C : Ct) (G : Gh) (B : Addr → Prop) (H : Hp) (σ : L2.St) (env env' : En) (H' : Hp) (v : V) (r : R) : Prop :=
  ∃ σ' e2, Stp H σ env H' σ' e2 ∧ (∀ (i : Nat) (d : D), env'[i]? = some (.p d) → e2[i]? = some (.p d)) ∧
    ((∃ d, r = .v d ∧ EnvR C G B H' σ' e2 ∧ Rp C (AA B σ' e2) H' v d) ∨
      ∃ p d, r = .f d ∧ v = .ref p ∧ G.H0 p = none ∧ ¬ B p ∧ EnvR C G (Plus B p) H' σ' e2 ∧ OwnAt C (AA (Plus B p) σ' e2) H' p d)
def Post (C : Ct) (G : Gh) (B : Addr → Prop) (H : Hp) (σ : L2.St) (env : En) (D : Ends) (env' : En) : Fl → Prop
  | .nx => ∀ σ' H', Stp H σ env H' σ' env' → EnvR C G B H' σ' env' → D.nx σ' H'
  | .bk => ∀ σ' H', Stp H σ env H' σ' env' → EnvR C G B H' σ' env' → D.bk σ' H'
  | .ct => ∀ σ' H', Stp H σ env H' σ' env' → EnvR C G B H' σ' env' → D.ct σ' H'
  | .rt r => ∀ v H', RtOk C G B H σ env env' H' v r → D.rt v H'
def tSv (C : Ct) (f : En → Option (Fl × En)) : TS := fun D σ H => ∃ (G : Gh) (B : Addr → Prop) (env : En) (fl : Fl) (env' : En), EnvR C G B H σ env ∧ f env = some (fl, env') ∧ Post C G B H σ env D env' fl
theorem RtOk.back (h : RtOk C G B H1 σ1 e1 env' H' v r) (S : Stp H σ env H1 σ1 e1) : RtOk C G B H σ env env' H' v r := by
  obtain ⟨σ', e2, S2, q, h⟩ := h
  exact ⟨σ', e2, S.trans S2, q, h⟩
theorem Post.later {D : Ends} {fl : Fl} (h : Post C G B H σ env D env' fl) (S : Stp H σ env H1 σ1 e1) : Post C G B H1 σ1 e1 D env' fl := by
  cases fl with
  | nx => exact fun σ' H' S' E' => h σ' H' (S.trans S') E'
  | bk => exact fun σ' H' S' E' => h σ' H' (S.trans S') E'
  | ct => exact fun σ' H' S' E' => h σ' H' (S.trans S') E'
  | rt r => exact fun v H' q => h v H' (q.back S)
theorem EnvR.g0 (E : EnvR C G B H σ env) {a : Addr} (h : H a = none) : G.H0 a = none := by
  cases q : G.H0 a with
  | none => rfl
  | some o => exact absurd h (E.ent a (by rw [q]; exact fun z => nomatch z))
theorem AA.iff {B' : Addr → Prop} (h : ∀ a, B a ↔ B' a) : ∀ a, AA B σ env a ↔ AA B' σ env a := fun a => ⟨fun z => z.elim (fun q => .inl ((h a).mp q)) .inr, fun z => z.elim (fun q => .inl ((h a).mpr q)) .inr⟩
/-- the name is let go, what it had is kept apart -/
theorem EnvR.rel (E : EnvR C G B H σ env) {i : Nat} {d : D} {a : Addr} (hi : env[i]? = some (.o d)) (ha : σ[i]? = some (some (.ref a))) :
    ¬ B a ∧ G.H0 a = none ∧ EnvR C G (Plus B a) H σ (env.set i .n) ∧ OwnAt C (AA (Plus B a) σ (env.set i .n)) H a d ∧ Stp H σ env H σ (env.set i .n) := by
  obtain ⟨a', e, o, g0⟩ := E.own i d hi
  rw [ha] at e
  cases e
  have hl : i < env.length := (List.getElem?_eq_some_iff.mp hi).1
  have own0 : Own σ env a := ⟨i, d, .inl hi, ha⟩
  have isow : ∀ {j : Nat} {b : Addr} {x : D}, IsOw σ (env.set i .n) j b x → IsOw σ env j b x ∧ j ≠ i := fun {j b x} h => by
    obtain ⟨h1, h2⟩ := h
    have hj : j ≠ i := fun z => by
      subst z
      rw [List.getElem?_set] at h1
      simp [hl] at h1
    rw [List.getElem?_set_ne fun z => hj z.symm] at h1
    exact ⟨⟨h1, h2⟩, hj⟩
  have sub : ∀ b, Own σ (env.set i .n) b → Own σ env b := fun b ⟨j, x, z⟩ => ⟨j, x, (isow z).1⟩
  have aas : ∀ b, AA (Plus B a) σ (env.set i .n) b → AA B σ env b := fun b z => by
    rcases z with (z | z) | z
    · exact .inl z
    · exact .inr (z ▸ own0)
    · exact .inr (sub b z)
  have m : Mv (AA B σ env) (AA (Plus B a) σ (env.set i .n)) H H := .sub aas
  have sl : ∀ {j : Nat} {s : Sl}, (env.set i .n)[j]? = some s → s = .n ∨ env[j]? = some s := fun {j s} h => by
    rcases get_set_v h with ⟨_, e, _⟩ | ⟨_, e⟩
    · exact .inl e
    · exact .inr e
  refine ⟨fun z => E.bdis a z own0, g0, ⟨by rw [List.length_set]; exact E.len, fun j x q => ?_, fun j x q => ?_, fun j x q => ?_, fun j k b x y p q => E.inj j k b x y (isow p).1 (isow q).1, fun b z => ?_, fun b z q => ?_, E.ent⟩, o.mv m fun _ => id, ⟨fun _ _ e _ => e, fun _ z => z, fun b z => .inl (sub b z)⟩⟩
  · rcases sl q with z | z
    · cases z
    · obtain ⟨w, e, rr⟩ := E.val j x z
      exact ⟨w, e, rr.mv m⟩
  · rcases sl q with z | z
    · cases z
    · obtain ⟨w, e, rr, g⟩ := E.own j x z
      exact ⟨w, e, rr.mv m fun _ => id, g⟩
  · rcases sl q with z | z
    · cases z
    · obtain ⟨w, e, rr, g⟩ := E.par j x z
      exact ⟨w, e, rr.mv m fun _ => id, g⟩
  · rcases z with z | z
    · exact E.bdom b z
    · rw [z]; exact o.dom
  · rcases z with z | z
    · exact E.bdis b z (sub b q)
    · subst z
      obtain ⟨j, x, q⟩ := q
      obtain ⟨q, hj⟩ := isow q
      exact hj (E.inj j i b x d q ⟨.inl hi, ha⟩)
/-- what a return hands out -/
theorem ret_ok {x : R} (E0 : EnvR C G B H σ env) (S : Stp H σ env H' σ e1) (E : EnvR C G B H' σ e1) (R : ResR C G B H σ e1 H' v x) (h : outR x e1 = some r) : RtOk C G B H σ env e1 H' v r := by
  cases R with
  | v h1 =>
    cases h
    exact ⟨σ, e1, S, fun _ _ z => z, .inl ⟨_, rfl, E, h1⟩⟩
  | f h1 h2 h3 h4 =>
    cases h
    exact ⟨σ, e1, S, fun _ _ z => z, .inr ⟨_, _, rfl, rfl, E0.g0 h1, h2, h4, h3⟩⟩
  | o h1 =>
    rename_i i
    simp only [outR] at h
    split at h
    · rename_i d q
      cases h
      obtain ⟨w, e, rr⟩ := E.val i d q
      rw [h1] at e
      cases e
      exact ⟨σ, e1, S, fun _ _ z => z, .inl ⟨_, rfl, E, rr⟩⟩
    · rename_i d q
      cases h
      obtain ⟨a, e, o, g⟩ := E.own i d q
      rw [h1] at e
      cases e
      obtain ⟨r1, r2, r3, r4, r5⟩ := E.rel q h1
      refine ⟨σ, e1.set i .n, S.trans r5, fun j x z => ?_, .inr ⟨a, d, rfl, rfl, r2, r1, r3, r4⟩⟩
      rw [List.getElem?_set_ne fun y => ?_]
      · exact z
      · rw [← y, q] at z; cases z
    · cases h
/-- what is put at a name -/
theorem asg_ok {x : R} {i : Nat} (E0 : EnvR C G B H σ env) (S : Stp H σ env H' σ e1) (E : EnvR C G B H' σ e1) (R : ResR C G B H σ e1 H' v x) (h : asgR i x e1 = some e2) :
    Stp H σ env H' (σ.set i (some v)) e2 ∧ EnvR C G B H' (σ.set i (some v)) e2 := by
  cases R with
  | v h1 => exact ⟨S.trans (.put h), E.put h1 h⟩
  | f h1 h2 h3 h4 =>
    refine ⟨⟨S.fr, S.dom, fun b z => ?_⟩, h4.puto h3 (E0.g0 h1) h2 h⟩
    obtain ⟨rfl, _, _⟩ := putS_is h
    rcases own_puto b z with z | z
    · exact S.own b z
    · exact .inr (z ▸ h1)
  | o h1 =>
    rename_i j
    simp only [asgR] at h
    split at h
    · rename_i d e3 q
      obtain ⟨rr, E3, S3⟩ := (ResR.o h1 : ResR C G B H' σ e1 H' v (.o j)).giv .refl E q
      exact ⟨(S.trans S3).trans (.put h), E3.put rr h⟩
    · cases h
end
end PL
set_option maxHeartbeats 4000000
namespace PL
open PySem PySem.Spec L2
/-! ### lists under a walk -/
def inB (gs : Gs) (j : Nat) : Bool := gs.any fun g => g.1 == j
def lk1 : Option Sl → Option Sl
  | some (.o x) => some (.p x)
  | s => s
def ul1 : Option Sl → Option Sl
  | some (.p x) => some (.o x)
  | s => s
def isO : Option Sl → Bool
  | some (.o _) => true
  | _ => false
theorem lockE_len {env : En} : ∀ {gs : Gs}, (lockE gs env).length = env.length
  | [] => rfl
  | (i, d) :: r => by
    unfold lockE
    split
    · rw [List.length_set, lockE_len]
    · exact lockE_len
theorem unlE_len {old env : En} : ∀ {gs : Gs}, (unlE old gs env).length = env.length
  | [] => rfl
  | (i, d) :: r => by
    unfold unlE
    split
    · rw [List.length_set, unlE_len]
    · exact unlE_len
theorem lockE_get {env : En} {j : Nat} : ∀ {gs : Gs}, (lockE gs env)[j]? = if inB gs j then lk1 env[j]? else env[j]?
  | [] => rfl
  | (i, d) :: r => by
    have ih := @lockE_get env j r
    unfold lockE
    by_cases hj : i = j
    · subst hj
      have e : inB ((i, d) :: r) i = true := by simp [inB]
      rw [e, if_pos rfl]
      split
      · rename_i x q
        have hl : i < (lockE r env).length := by rw [lockE_len]; exact (List.getElem?_eq_some_iff.mp q).1
        rw [List.getElem?_set, q]
        simp [hl, lk1]
      · rename_i q
        rw [ih]
        have : lk1 env[i]? = env[i]? := by
          cases h : env[i]? with
          | none => rfl
          | some s => cases s <;> first | rfl | exact absurd h (q _)
        rw [this, ite_self]
    · have e : inB ((i, d) :: r) j = inB r j := by simp [inB, hj]
      rw [e, ← ih]
      split
      · rw [List.getElem?_set_ne hj]
      · rfl
theorem unlE_get {old env : En} {j : Nat} : ∀ {gs : Gs}, (unlE old gs env)[j]? = if inB gs j && isO old[j]? then ul1 env[j]? else env[j]?
  | [] => rfl
  | (i, d) :: r => by
    have ih := @unlE_get old env j r
    unfold unlE
    by_cases hj : i = j
    · subst hj
      have e : inB ((i, d) :: r) i = true := by simp [inB]
      rw [e, Bool.true_and]
      split
      · rename_i y x q1 q
        have hl : i < (unlE old r env).length := by rw [unlE_len]; exact (List.getElem?_eq_some_iff.mp q).1
        rw [List.getElem?_set, q, q1]
        simp [hl, ul1, isO]
      · rename_i q
        rw [ih]
        cases h : old[i]? with
        | none => simp [isO]
        | some s =>
          cases s with
          | o y =>
            have : ul1 env[i]? = env[i]? := by
              cases h' : env[i]? with
              | none => rfl
              | some s' => cases s' <;> first | rfl | exact absurd h' (q _ _ h)
            rw [this, ite_self, ite_self]
          | n => simp [isO]
          | v _ => simp [isO]
          | p _ => simp [isO]
    · have e : inB ((i, d) :: r) j = inB r j := by simp [inB, hj]
      rw [e, ← ih]
      split
      · rw [List.getElem?_set_ne hj]
      · rfl
section
variable {C : Ct} {G : Gh} {B B5 : Addr → Prop} {H H1 H5 H' : Hp} {σ σ1 σ5 : L2.St} {env e1 e2 e5 env' : En} {gs : Gs} {v : V} {r : R}
/-- two writings of the same slots that differ in o and p alone -/
structure Opq (env env' : En) : Prop where
  len : env'.length = env.length
  v : ∀ (i : Nat) (d : D), env'[i]? = some (.v d) → env[i]? = some (.v d)
  op : ∀ (i : Nat) (d : D), (env'[i]? = some (.o d) ∨ env'[i]? = some (.p d)) ↔ (env[i]? = some (.o d) ∨ env[i]? = some (.p d))
theorem Opq.own (q : Opq env env') : ∀ a, Own σ env' a ↔ Own σ env a := fun a =>
  ⟨fun ⟨i, d, h, e⟩ => ⟨i, d, (q.op i d).mp h, e⟩, fun ⟨i, d, h, e⟩ => ⟨i, d, (q.op i d).mpr h, e⟩⟩
theorem Opq.aa (q : Opq env env') : ∀ a, AA B σ env' a → AA B σ env a := fun a z => z.elim .inl fun z => .inr ((q.own a).mp z)
theorem EnvR.opq {G' : Gh} (E : EnvR C G B H σ env) (q : Opq env env') (h0 : G'.H0 = G.H0) (ho : ∀ (i : Nat) (d : D) (a : Addr), env'[i]? = some (.o d) → σ[i]? = some (some (.ref a)) → G.H0 a = none)
    (hp : ∀ (i : Nat) (d : D) (a : Addr), env'[i]? = some (.p d) → σ[i]? = some (some (.ref a)) → G'.σ0[i]? = some (some (.ref a)) ∧ G'.pp i) : EnvR C G' B H σ env' := by
  have m : Mv (AA B σ env) (AA B σ env') H H := .sub q.aa
  have get : ∀ {i : Nat} {d : D}, (env'[i]? = some (.o d) ∨ env'[i]? = some (.p d)) → ∃ a, σ[i]? = some (some (V.ref a)) ∧ OwnAt C (AA B σ env) H a d := fun {i d} z => by
    rcases (q.op i d).mp z with z | z
    · obtain ⟨a, e, o, _⟩ := E.own i d z
      exact ⟨a, e, o⟩
    · obtain ⟨a, e, o, _⟩ := E.par i d z
      exact ⟨a, e, o⟩
  refine ⟨E.len.trans q.len.symm, fun i d z => ?_, fun i d z => ?_, fun i d z => ?_, fun i j a d e x y => E.inj i j a d e ⟨(q.op i d).mp x.1, x.2⟩ ⟨(q.op j e).mp y.1, y.2⟩, E.bdom, fun a z y => E.bdis a z ((q.own a).mp y), fun a z => E.ent a (by rw [← h0]; exact z)⟩
  · obtain ⟨w, e, rr⟩ := E.val i d (q.v i d z)
    exact ⟨w, e, rr.mv m⟩
  · obtain ⟨a, e, o⟩ := get (.inl z)
    exact ⟨a, e, o.mv m fun _ => id, by rw [h0]; exact ho i d a z e⟩
  · obtain ⟨a, e, o⟩ := get (.inr z)
    exact ⟨a, e, o.mv m fun _ => id, hp i d a z e⟩
theorem Stp.opq (q : Opq env env') : Stp H σ env H σ env' := ⟨fun _ _ e _ => e, fun _ z => z, fun b z => .inl ((q.own b).mp z)⟩
theorem Opq.symm' (q : Opq env env') (hv : ∀ (i : Nat) (d : D), env[i]? = some (.v d) → env'[i]? = some (.v d)) : Opq env' env := ⟨q.len.symm, hv, fun i d => (q.op i d).symm⟩
theorem opq_lock : Opq env (lockE gs env) := by
  refine ⟨lockE_len, fun i d h => ?_, fun i d => ?_⟩
  · rw [lockE_get] at h
    split at h
    · revert h
      cases env[i]? with
      | none => exact id
      | some s => cases s <;> simp [lk1]
    · exact h
  · rw [lockE_get]
    split
    · cases env[i]? with
      | none => simp [lk1]
      | some s => cases s <;> simp [lk1]
    · exact Iff.rfl
theorem opq_unl {old : En} : Opq env (unlE old gs env) := by
  refine ⟨unlE_len, fun i d h => ?_, fun i d => ?_⟩
  · rw [unlE_get] at h
    split at h
    · revert h
      cases env[i]? with
      | none => exact id
      | some s => cases s <;> simp [ul1]
    · exact h
  · rw [unlE_get]
    split
    · cases env[i]? with
      | none => simp [ul1]
      | some s => cases s <;> simp [ul1]
    · exact Iff.rfl
/-- the entry that a locked body sees -/
abbrev Gk (G : Gh) (σ1 : L2.St) (gs : Gs) (e1 : En) : Gh := ⟨G.H0, σ1, fun i => ∃ d, (lockE gs e1)[i]? = some (.p d)⟩
theorem EnvR.lock (E : EnvR C G B H σ env) (gs : Gs) : EnvR C (Gk G σ gs env) B H σ (lockE gs env) := by
  refine E.opq opq_lock rfl (fun i d a h e => ?_) fun i d a h e => ⟨e, d, h⟩
  have h' : env[i]? = some (.o d) := by
    rw [lockE_get] at h
    split at h
    · revert h
      cases env[i]? with
      | none => intro h; cases h
      | some s => cases s <;> simp [lk1]
    · exact h
  obtain ⟨a', e', _, g⟩ := E.own i d h'
  rw [e] at e'; cases e'
  exact g
theorem EnvR.unl (E1 : EnvR C G B H1 σ1 e1) (E : EnvR C (Gk G σ1 gs e1) B5 H5 σ5 e5) : EnvR C G B5 H5 σ5 (unlE e1 gs e5) := by
  have par : ∀ {i : Nat} {d : D} {a : Addr}, e5[i]? = some (.p d) → σ5[i]? = some (some (.ref a)) → σ1[i]? = some (some (.ref a)) ∧ ∃ d', (lockE gs e1)[i]? = some (.p d') := fun {i d a} h e => by
    obtain ⟨a', e', _, q1, q2⟩ := E.par i d h
    rw [e] at e'; cases e'
    exact ⟨q1, q2⟩
  refine E.opq opq_unl rfl (fun i d a h e => ?_) fun i d a h e => ?_
  · rw [unlE_get] at h
    split at h
    · rename_i hc
      simp only [Bool.and_eq_true] at hc
      cases h5 : e5[i]? with
      | none => rw [h5] at h; cases h
      | some s =>
        rw [h5] at h
        cases s with
        | o x =>
          obtain ⟨a', e', _, g⟩ := E.own i x h5
          rw [e] at e'; cases e'
          exact g
        | p x =>
          obtain ⟨q1, _⟩ := par h5 e
          cases h1 : e1[i]? with
          | none => rw [h1] at hc; simp [isO] at hc
          | some s =>
            rw [h1] at hc
            cases s with
            | o y =>
              obtain ⟨a', e', _, g⟩ := E1.own i y h1
              rw [q1] at e'; cases e'
              exact g
            | _ => simp [isO] at hc
        | n => simp [ul1] at h
        | v x => simp [ul1] at h
    · obtain ⟨a', e', _, g⟩ := E.own i d h
      rw [e] at e'; cases e'
      exact g
  · rw [unlE_get] at h
    split at h
    · cases h5 : e5[i]? with
      | none => rw [h5] at h; cases h
      | some s => rw [h5] at h; cases s <;> simp [ul1] at h
    · rename_i hc
      obtain ⟨q1, d', q2⟩ := par h e
      rw [lockE_get] at q2
      have h1 : e1[i]? = some (.p d') := by
        split at q2
        · rename_i hin
          cases h1 : e1[i]? with
          | none => rw [h1] at q2; cases q2
          | some s =>
            rw [h1] at q2 hc
            cases s with
            | o y => simp [isO, hin] at hc
            | p y => exact q2
            | _ => simp [lk1] at q2
        · exact q2
      obtain ⟨a', e', _, g⟩ := E1.par i d' h1
      rw [q1] at e'; cases e'
      exact g
theorem RtOk.unl (E1 : EnvR C G B H1 σ1 e1) (h : RtOk C (Gk G σ1 gs e1) B H σ env env' H' v r) : RtOk C G B H σ env (unlE e1 gs env') H' v r := by
  obtain ⟨σ', e2, S, hp, h⟩ := h
  have sub : ∀ {B : Addr → Prop}, ∀ b, AA B σ' (unlE e1 gs e2) b → AA B σ' e2 b := fun {B} => opq_unl.aa
  refine ⟨σ', unlE e1 gs e2, S.trans (.opq opq_unl), fun i d q => ?_, ?_⟩
  · rw [unlE_get] at q ⊢
    by_cases hc : (inB gs i && isO e1[i]?) = true
    · rw [if_pos hc] at q
      cases h5 : env'[i]? with
      | none => rw [h5] at q; cases q
      | some s => rw [h5] at q; cases s <;> simp [ul1] at q
    · rw [if_neg hc] at q ⊢
      exact hp i d q
  · rcases h with ⟨d, e, E, rr⟩ | ⟨p, d, e, ev, g, nb, E, o⟩
    · exact .inl ⟨d, e, E1.unl E, rr.mv (.sub sub)⟩
    · exact .inr ⟨p, d, e, ev, g, nb, E1.unl E, o.mv (.sub sub) fun _ => id⟩
theorem grdP_at (h : grdP gs env = true) {i : Nat} {d : D} (hm : (i, d) ∈ gs) : env[i]? = some (.p d) := by
  unfold grdP at h
  have := List.all_eq_true.mp h (i, d) hm
  simp only at this
  split at this
  · rename_i x q
    rw [beqD_eq this]
    exact q
  · cases this
theorem grdP_lock (h : grd gs env = true) : grdP gs (lockE gs env) = true := by
  unfold grdP
  rw [List.all_eq_true]
  rintro ⟨i, d⟩ hm
  have e : inB gs i = true := by
    unfold inB
    rw [List.any_eq_true]
    exact ⟨_, hm, by simp⟩
  simp only [lockE_get, e, if_true]
  rcases grd_at h hm with q | q
  · rw [q]; exact beqD_self d
  · rw [q]; exact beqD_self d
end
end PL
set_option maxHeartbeats 4000000
namespace PL
open PySem PySem.Spec L2
/-! ### small statements -/
def noLc : Expr → Bool
  | .ListComp .. => false
  | .SetComp .. => false
  | .DictComp .. => false
  | _ => true
theorem sw_no {v : Expr} (h : noLc v = true) (t : Option Expr) (line : Nat) (env : Env) : swapsWith v t line env = pure false := by
  cases v <;> first | rfl | cases h
section
variable {X : Cx} {fa : Nat → Option Addr} {pos : Pos} {f ga gb gc : En → Option (R × En)} {fs : En → Option (Fl × En)} {a b c e : Expr}
theorem c_setg {te : TE} {i : Nat} {st : Stmt} (hs : PS X st (tAsg te (gName i))) (ht : ∀ σ H Q, tEv (Ct.mk X.K fa) ga σ H Q → te σ H Q)
    (hf : ∀ env, fs env = match ga env with
      | some (r, e1) => match asgR i r e1 with
        | some e2 => some (.nx, e2)
        | none => none
      | none => none) : PS X st (tSv (Ct.mk X.K fa) fs) := by
  refine wkS hs fun D σ H ⟨G, B, env, fl, env', E, h, k⟩ => ?_
  rw [hf] at h
  split at h
  · rename_i r e1 h1
    split at h
    · rename_i e2 h2
      cases h
      refine ht _ _ _ ⟨G, B, env, r, e1, E, h1, fun v H' S E1 R1 => ?_⟩
      obtain ⟨S', E'⟩ := asg_ok E S E1 R1 h2
      exact k _ H' S' E'
    · cases h
  · cases h
theorem c_asgT {tg : Expr} {t : Tg} (he : PE X e (tEv (Ct.mk X.K fa) ga)) (hg : PG X tg (tGv (Ct.mk X.K fa) (asgT t) (slOf none))) (hs : swapsWithSole [tg] e pos.line X.env = pure false) (hw : swappedStores [tg] e X.env = pure none)
    (h1 : (assignEach [tg] X.env).map (·.2) = [assign tg X.env]) (htup : ∀ d env env', asgT t d env = some env' → ∃ l, d = .tup l)
    (hf : ∀ env, fs env = match ga env with
      | some (r, e1) => match rd r e1 with
        | some d => match asgT t d e1 with
          | some e2 => some (.nx, e2)
          | none => none
        | none => none
      | none => none) : PS X (.Assign [tg] e pos) (tSv (Ct.mk X.K fa) fs) := by
  refine wkS (ps_asg he hg hs hw h1) fun D σ H ⟨G, B, env, fl, env', E, h, k⟩ => ?_
  rw [hf] at h
  split at h
  · rename_i r e1 h1
    split at h
    · rename_i d hd
      split at h
      · rename_i e2 h2
        cases h
        refine ⟨G, B, env, r, e1, E, h1, fun v H' S E1 R1 => ⟨G, B, e1, d, env', E1, ?_, h2, fun σ' S' E' _ _ => k σ' H' (S.trans S') E'⟩⟩
        obtain ⟨l, rfl⟩ := htup _ _ _ h2
        cases R1.rd0 E1 hd with
        | rp h => exact h
        | own h => cases h
      · cases h
    · cases h
  · cases h
theorem c_ex (he : PE X e (tEv (Ct.mk X.K fa) ga)) (hs : noLc e = true)
    (hf : ∀ env, fs env = match ga env with
      | some (_, e1) => some (.nx, e1)
      | none => none) : PS X (.Expr e pos) (tSv (Ct.mk X.K fa) fs) := by
  refine wkS (ps_expr he (sw_no hs _ _ _)) fun D σ H ⟨G, B, env, fl, env', E, h, k⟩ => ?_
  rw [hf] at h
  split at h
  · rename_i r e1 h1
    cases h
    exact ⟨G, B, env, r, env', E, h1, fun v H' S E1 _ => k σ H' S E1⟩
  · cases h
theorem c_ret (he : PE X e (tEv (Ct.mk X.K fa) ga))
    (hf : ∀ env, fs env = match ga env with
      | some (r, e1) => match outR r e1 with
        | some x => some (.rt x, e1)
        | none => none
      | none => none) : PS X (.Return (some e) pos) (tSv (Ct.mk X.K fa) fs) := by
  refine wkS (ps_ret he) fun D σ H ⟨G, B, env, fl, env', E, h, k⟩ => ?_
  rw [hf] at h
  split at h
  · rename_i r e1 h1
    split at h
    · rename_i x h2
      cases h
      exact ⟨G, B, env, r, env', E, h1, fun v H' S E1 R1 => k v H' (ret_ok E S E1 R1 h2)⟩
    · cases h
  · cases h
theorem c_retN (hf : ∀ env, fs env = some (.rt (.v .non), env)) : PS X (.Return none pos) (tSv (Ct.mk X.K fa) fs) := by
  refine wkS ps_retN fun D σ H ⟨G, B, env, fl, env', E, h, k⟩ => ?_
  rw [hf] at h
  cases h
  exact k .non H ⟨σ, env, .refl, fun _ _ z => z, .inl ⟨_, rfl, E, .non⟩⟩
theorem c_if {p q : List Stmt} {fp fq : En → Option (Fl × En)} (hc : PT X c (tTv (Ct.mk X.K fa) fun env => toB (gc env))) (hp : PSs X p (tSv (Ct.mk X.K fa) fp)) (hq : PSs X q (tSv (Ct.mk X.K fa) fq))
    (hf : ∀ env, fs env = match toB (gc env) with
      | some (true, e1) => fp e1
      | some (false, e1) => fq e1
      | none => none) : PS X (.If c p q pos) (tSv (Ct.mk X.K fa) fs) := by
  refine wkS (ps_if hc hp hq) fun D σ H ⟨G, B, env, fl, env', E, h, k⟩ => ?_
  rw [hf] at h
  split at h
  · rename_i e1 h1
    exact ⟨G, B, env, true, e1, E, h1, fun H' S E1 => iteT ⟨G, B, e1, fl, env', E1, h, k.later S⟩⟩
  · rename_i e1 h1
    exact ⟨G, B, env, false, e1, E, h1, fun H' S E1 => iteF ⟨G, B, e1, fl, env', E1, h, k.later S⟩⟩
  · cases h
theorem c_pas (hf : ∀ env, fs env = some (.nx, env)) : PS X (.Pass pos) (tSv (Ct.mk X.K fa) fs) := by
  refine wkS ps_pass fun D σ H ⟨G, B, env, fl, env', E, h, k⟩ => ?_
  rw [hf] at h
  cases h
  exact k σ H .refl E
theorem c_brk (hf : ∀ env, fs env = some (.bk, env)) : PS X (.Break pos) (tSv (Ct.mk X.K fa) fs) := by
  refine wkS ps_break fun D σ H ⟨G, B, env, fl, env', E, h, k⟩ => ?_
  rw [hf] at h
  cases h
  exact k σ H .refl E
theorem c_con (hf : ∀ env, fs env = some (.ct, env)) : PS X (.Continue pos) (tSv (Ct.mk X.K fa) fs) := by
  refine wkS ps_continue fun D σ H ⟨G, B, env, fl, env', E, h, k⟩ => ?_
  rw [hf] at h
  cases h
  exact k σ H .refl E
theorem c_none {st : Stmt} (hf : ∀ env, fs env = none) : PS X st (tSv (Ct.mk X.K fa) fs) := ⟨fun pins s σ H D I ⟨G, B, env, fl, env', E, h, k⟩ => by rw [hf] at h; cases h⟩
theorem c_snil {fl' : En → Option (Fl × En)} (hf : ∀ env, fl' env = some (.nx, env)) : PSs X [] (tSv (Ct.mk X.K fa) fl') := by
  refine wkSs pss_nil fun D σ H ⟨G, B, env, fl, env', E, h, k⟩ => ?_
  rw [hf] at h
  cases h
  exact k σ H .refl E
theorem c_scons {st : Stmt} {rest : List Stmt} {f1 f2 f3 : En → Option (Fl × En)} (h1 : PS X st (tSv (Ct.mk X.K fa) f1)) (h2 : PSs X rest (tSv (Ct.mk X.K fa) f2))
    (hf : ∀ env, f3 env = match f1 env with
      | some (.nx, e1) => f2 e1
      | some (fl, e1) => some (fl, e1)
      | none => none) : PSs X (st :: rest) (tSv (Ct.mk X.K fa) f3) := by
  refine wkSs (pss_cons h1 h2) fun D σ H ⟨G, B, env, fl, env', E, h, k⟩ => ?_
  rw [hf] at h
  split at h
  · rename_i e1 q1
    exact ⟨G, B, env, .nx, e1, E, q1, fun σ' H' S E' => ⟨G, B, e1, fl, env', E', h, k.later S⟩⟩
  · rename_i fl' e1 nq q1
    cases h
    refine ⟨G, B, env, fl, env', E, q1, ?_⟩
    cases fl with
    | nx => exact absurd rfl (by first | exact nq _ | exact nq)
    | bk => exact k
    | ct => exact k
    | rt r => exact k
  · cases h
theorem iteP {α : Prop} {b : Bool} (h : b = true) {x y : α} : (if b = true then α else α) → α := fun z => by rwa [ite_self] at z
theorem lsB_at {C : Ct} {G : Gh} {B : Addr → Prop} {H : Hp} {σ : L2.St} {env : En} {i : Nat} (E : EnvR C G B H σ env) (h : lsB env i = true) : ∃ a, σ[i]? = some (some (.ref a)) := by
  unfold lsB at h
  split at h
  · rename_i l hq
    obtain ⟨a, ea, _⟩ := E.own i _ hq
    exact ⟨a, ea⟩
  · rename_i l hq
    obtain ⟨a, ea, _⟩ := E.par i _ hq
    exact ⟨a, ea⟩
  · cases h
theorem stoD_is {i : Nat} {p d : PL.D} {e3 e4 : En} (h : stoD i p d e3 = some e4) : ∃ (l : List PL.D) (j : Int) (kk : Nat) (s : Sl), p = .int j ∧ ixN l.length j = some kk ∧
    ((e3[i]? = some (.o (.lst l)) ∧ s = .o (.lst (l.set kk d))) ∨ (e3[i]? = some (.p (.lst l)) ∧ s = .p (.lst (l.set kk d)))) ∧ e4 = e3.set i s := by
  unfold stoD at h
  split at h
  · rename_i l j q
    split at h
    · rename_i kk hk
      cases h
      exact ⟨l, j, kk, _, rfl, hk, .inl ⟨q, rfl⟩, rfl⟩
    · cases h
  · rename_i l j q
    split at h
    · rename_i kk hk
      cases h
      exact ⟨l, j, kk, _, rfl, hk, .inr ⟨q, rfl⟩, rfl⟩
    · cases h
  · cases h
/-- xs[i] = v -/
theorem c_sto {i : Nat} {x : Str} {p p2 : Pos} {ix : Expr} (hv : PE X (.Name x p) (tVar i)) (hi : PE X ix (tEv (Ct.mk X.K fa) gb)) (he : PE X e (tEv (Ct.mk X.K fa) ga)) (hpl : plB ix = true)
    (hf : ∀ env, fs env = match ga env with
      | some (x, e1) => match giv x e1 with
        | some (d, e2) => if lsB e2 i then match gb e2 with
          | some (y, e3) => match rd y e3 with
            | some p => match stoD i p d e3 with
              | some e4 => some (.nx, e4)
              | none => none
            | none => none
          | none => none
          else none
        | none => none
      | none => none) : PS X (.Assign [.Subscript (.Name x p) ix p2] e pos) (tSv (Ct.mk X.K fa) fs) := by
  have hg : PG X (.Subscript (.Name x p) ix p2) (gSub (tVar i) (tEv (Ct.mk X.K fa) gb) rSetL) := pg_sub hv hi set_list (by
    intro v
    cases ix <;> first | rfl | cases hpl)
  have hsw : swapsWithSole [.Subscript (.Name x p) ix p2] e pos.line X.env = pure false := by
    show swapsWith e (some (.Subscript (.Name x p) ix p2)) pos.line X.env = pure false
    cases e <;> rfl
  refine wkS (ps_asg he hg hsw rfl rfl) fun D σ H ⟨G, B, env, fl, env', E, h, k⟩ => ?_
  rw [hf] at h
  split at h
  · rename_i r e1 h1
    split at h
    · rename_i d e2 h2
      split at h
      · rename_i hls
        split at h
        · rename_i y e3 h3
          split at h
          · rename_i dp h4
            split at h
            · rename_i e4 h5
              cases h
              refine ⟨G, B, env, r, e1, E, h1, fun v H1 S1 E1 R1 => ?_⟩
              obtain ⟨rv, E2, S2⟩ := R1.giv .refl E1 h2
              obtain ⟨a, ha⟩ := lsB_at E2 hls
              refine ⟨.ref a, ha, G, B, e2, y, e3, E2, h3, fun w H3 S3 E3 R3 => ?_⟩
              obtain ⟨l, j, kk, s, rfl, hix, hs, he⟩ := stoD_is h5
              have ow : IsOw σ e3 i a (.lst l) := ⟨hs.elim (fun z => .inl z.1) fun z => .inr z.1, ha⟩
              have hA : AA B σ e3 a := .inr ⟨i, _, ow⟩
              have oa : OwnAt (Ct.mk X.K fa) (AA B σ e3) H3 a (.lst l) := by
                rcases hs with ⟨q, _⟩ | ⟨q, _⟩
                · obtain ⟨a', ea, oa, _⟩ := E3.own i _ q
                  rw [ha] at ea; cases ea
                  exact oa
                · obtain ⟨a', ea, oa, _⟩ := E3.par i _ q
                  rw [ha] at ea; cases ea
                  exact oa
              have hw := (R3.rd0 E3 h4).int
              cases oa with
              | lst e r =>
                rename_i vs
                have m := mv_own (H := H3) (o := .lst (vs.set kk v)) hA
                have oa' : OwnAt (Ct.mk X.K fa) (AA B σ e3) (upd H3 a (.lst (vs.set kk v))) a (.lst (l.set kk d)) := .lst upd_same (RpL.set ((rv.mv S3.mv).mv m) kk (r.mv m))
                have kp : ∀ b o, H3 b = some o → b ≠ a → upd H3 a (.lst (vs.set kk v)) b = some o := fun b o e n => by rw [upd_ne n]; exact e
                have dm : ∀ b, H3 b ≠ none → upd H3 a (.lst (vs.set kk v)) b ≠ none := fun b n => by
                  by_cases z : b = a
                  · rw [z, upd_same]; exact fun z => nomatch z
                  · rw [upd_ne z]; exact n
                obtain ⟨E4, S4⟩ := E3.chg ow hs kp dm oa'
                rw [← he] at E4 S4
                exact ⟨a, vs, j, kk, rfl, hw, e, by rw [r.length]; exact hix, k σ _ (((S1.trans S2).trans S3).trans S4) E4⟩
            · cases h
          · cases h
        · cases h
      · cases h
    · cases h
  · cases h
/-- while -/
theorem c_wh {body : List Stmt} {fc : En → Option (Bool × En)} {fb : En → Option (Fl × En)} {n : Nat} (hx : X.xe = fun _ _ => False) (hc : PT X c (tTv (Ct.mk X.K fa) fc)) (hb : PSs X body (tSv (Ct.mk X.K fa) fb))
    (hf : ∀ env, fs env = loopW fc fb n env) : PS X (.While c body [] pos) (tSv (Ct.mk X.K fa) fs) := by
  refine wkS (ps_while (by rw [hx]; exact PassesOwn.never) hc hb) fun D σ H ⟨G, B, env, fl, env', E, h, k⟩ => ?_
  rw [hf] at h
  refine ⟨fun m σ1 H1 => ∃ e1, EnvR (Ct.mk X.K fa) G B H1 σ1 e1 ∧ Stp H σ env H1 σ1 e1 ∧ loopW fc fb m e1 = some (fl, env'), ⟨n, env, E, .refl, h⟩, fun m σ1 H1 ⟨e1, E1, S1, h1⟩ => ?_⟩
  cases m with
  | zero => cases h1
  | succ m =>
    simp only [loopW] at h1
    split at h1
    · rename_i e2 h2
      refine ⟨G, B, e1, true, e2, E1, h2, fun H2 S2 E2 => iteT ⟨fun σ' H' => ∃ e', EnvR (Ct.mk X.K fa) G B H' σ' e' ∧ Stp H σ env H' σ' e' ∧ loopW fc fb m e' = some (fl, env'), fun σ' H' q => ⟨m, Nat.lt_succ_self m, q⟩, ?_⟩⟩
      split at h1
      · rename_i e3 h3
        exact ⟨G, B, e2, .nx, e3, E2, h3, fun σ3 H3 S3 E3 => ⟨e3, E3, (S1.trans S2).trans S3, h1⟩⟩
      · rename_i e3 h3
        exact ⟨G, B, e2, .ct, e3, E2, h3, fun σ3 H3 S3 E3 => ⟨e3, E3, (S1.trans S2).trans S3, h1⟩⟩
      · rename_i e3 h3
        cases h1
        exact ⟨G, B, e2, .bk, env', E2, h3, fun σ3 H3 S3 E3 => k σ3 H3 ((S1.trans S2).trans S3) E3⟩
      · rename_i x e3 h3
        cases h1
        exact ⟨G, B, e2, .rt x, env', E2, h3, fun v H3 q => k v H3 (q.back (S1.trans S2))⟩
      · cases h1
    · rename_i e2 h2
      cases h1
      exact ⟨G, B, e1, false, env', E1, h2, fun H2 S2 E2 => iteF (k σ1 H2 (S1.trans S2) E2)⟩
    · cases h1
/-- for -/
theorem c_for {tg iter : Expr} {body : List Stmt} {gi : En → Option (List PL.D × Gs × En)} {gt : PL.D → En → Option En} {sl : Nat → Prop} {fb : En → Option (Fl × En)} (hx : X.xe = fun _ _ => False) (hc : X.calm = true)
    (hi : PI X tg iter (tIv (Ct.mk X.K fa) gi)) (hg : PG X tg (tGv (Ct.mk X.K fa) gt sl)) (hb : PSs X body (tSv (Ct.mk X.K fa) fb)) (hp : plB iter = true)
    (hf : ∀ env, fs env = match gi env with
      | some (ds, gs, e1) => match loopF (fun d e2 => match gt d e2 with
          | some e3 => match fb e3 with
            | some (fl, e4) => if grdP gs e4 then some (fl, e4) else none
            | none => none
          | none => none) ds (lockE gs e1) with
        | some (fl, e5) => some (fl, unlE e1 gs e5)
        | none => none
      | none => none) : PS X (.For tg iter body [] pos) (tSv (Ct.mk X.K fa) fs) := by
  refine wkS (ps_for (by rw [hx]; exact PassesOwn.never) hc hi hg hb (plB_fold hp _)) fun D σ H ⟨G, B, env, fl, env', E, h, k⟩ => ?_
  rw [hf] at h
  split at h
  · rename_i ds gs e1 h1
    generalize htn : (fun (d : PL.D) (e2 : En) => (match gt d e2 with
          | some e3 => match fb e3 with
            | some (fl, e4) => if grdP gs e4 then some (fl, e4) else none
            | none => none
          | none => none : Option (Fl × En))) = tn at h
    split at h
    · rename_i fl' e5 h2
      cases h
      refine ⟨G, B, env, ds, gs, e1, E, h1, fun J H1 l S1 E1 W so hg0 => ?_⟩
      have L1 := E1.lock gs
      have SL : Stp H1 σ e1 H1 σ (lockE gs e1) := .opq opq_lock
      have src : ∀ {Hx : Hp} {σx : L2.St} {ex : En}, EnvR (Ct.mk X.K fa) (Gk G σ gs e1) B Hx σx ex → Stp H1 σ (lockE gs e1) Hx σx ex → grdP gs ex = true → SrcV (Ct.mk X.K fa) (AA B σx ex) Hx l := fun {Hx σx ex} Ex Sx gx s hs => by
        rcases so s hs with q | ⟨i, hm, e⟩
        · exact .rp ((q.mv SL.mv).mv Sx.mv)
        · have hq := grdP_at gx hm
          obtain ⟨a, ea, oa, e0, _⟩ := Ex.par i _ hq
          have e0 : σ[i]? = some (some (.ref a)) := e0
          rw [e] at e0
          have e0 := Option.some.inj (Option.some.inj e0)
          rw [e0]
          exact .own oa
      refine for_it W (fun i σx Hx => ∃ ex, EnvR (Ct.mk X.K fa) (Gk G σ gs e1) B Hx σx ex ∧ Stp H1 σ (lockE gs e1) Hx σx ex ∧ grdP gs ex = true ∧ loopF tn (ds.drop i) ex = some (fl, e5)) ?_ ?_ ?_ ?_
      · exact ⟨_, L1, .refl, grdP_lock hg0, h2⟩
      · rintro i σx Hx hi ⟨ex, Ex, Sx, gx, _⟩
        exact ⟨_, Ex.dm, src Ex Sx gx⟩
      · rintro i x σx Hx Hy hi ⟨ex, Ex, Sx, gx, hl⟩ hY
        obtain ⟨sm, d, hd, rx⟩ := hY _ Ex.dm (src Ex Sx gx)
        have hdr : ds.drop i = d :: ds.drop (i + 1) := by
          have hil : i < ds.length := hi
          rw [List.drop_eq_getElem_cons hil]
          rw [List.getElem?_eq_getElem hil] at hd
          cases hd
          rfl
        rw [hdr] at hl
        simp only [loopF] at hl
        have Ey := Ex.same0 sm
        have Sy : Stp H1 σ (lockE gs e1) Hy σx ex := Sx.trans (.same sm)
        -- one turn
        have turn : ∀ {fl4 : Fl} {e4 : En} {D' : Ends}, tn d ex = some (fl4, e4) → (grdP gs e4 = true → Post (Ct.mk X.K fa) (Gk G σ gs e1) B H1 σ (lockE gs e1) D' e4 fl4) → tGv (Ct.mk X.K fa) gt sl x σx Hy fun σ2 H2 => tSv (Ct.mk X.K fa) fb D' σ2 H2 := by
          intro fl4 e4 D' ht kk
          rw [← htn] at ht
          simp only at ht
          split at ht
          · rename_i e3 h3
            split at ht
            · rename_i fl6 e6 h6
              split at ht
              · rename_i hgr
                cases ht
                exact ⟨_, B, ex, d, e3, Ey, rx, h3, fun σ2 S2 E2 _ _ => ⟨_, B, e3, fl4, e4, E2, h6, (kk hgr).later (Sy.trans S2)⟩⟩
              · cases ht
            · cases ht
          · cases ht
        have done : ∀ {σ' : L2.St} {H' : Hp} {e' : En}, Stp H1 σ (lockE gs e1) H' σ' e' → EnvR (Ct.mk X.K fa) (Gk G σ gs e1) B H' σ' e' → Stp H σ env H' σ' (unlE e1 gs e') ∧ EnvR (Ct.mk X.K fa) G B H' σ' (unlE e1 gs e') := fun S' E' => ⟨((S1.trans SL).trans S').trans (.opq opq_unl), E1.unl E'⟩
        split at hl
        · rename_i e4 h4
          exact turn h4 fun hgr σ' H' S' E' => ⟨e4, E', S', hgr, hl⟩
        · rename_i e4 h4
          exact turn h4 fun hgr σ' H' S' E' => ⟨e4, E', S', hgr, hl⟩
        · rename_i e4 h4
          cases hl
          exact turn h4 fun hgr σ' H' S' E' => k σ' H' (done S' E').1 (done S' E').2
        · rename_i r e4 h4
          cases hl
          exact turn h4 fun hgr v H' q => k v H' ((RtOk.unl E1 q).back (S1.trans SL))
        · cases hl
      · rintro σx Hx ⟨ex, Ex, Sx, gx, hl⟩
        rw [List.drop_length] at hl
        cases hl
        exact k σx Hx (((S1.trans SL).trans Sx).trans (.opq opq_unl)) (E1.unl Ex)
    · cases h
  · cases h
end
end PL
set_option maxHeartbeats 4000000
namespace PL
open PySem PySem.Spec L2
/-! ### several names at once -/
/-- results that are held; at ps stand the fresh ones -/
inductive HL (C : Ct) (G : Gh) (B : Addr → Prop) (H : Hp) (σ : L2.St) (env : En) : List V → List R → List Addr → Prop
  | nil : HL C G B H σ env [] [] []
  | v {v : V} {d : D} {vs : List V} {rs : List R} {ps : List Addr} : Rp C (AA B σ env) H v d → HL C G B H σ env vs rs ps → HL C G B H σ env (v :: vs) (.v d :: rs) ps
  | o {v : V} {i : Nat} {vs : List V} {rs : List R} {ps : List Addr} : σ[i]? = some (some v) → HL C G B H σ env vs rs ps → HL C G B H σ env (v :: vs) (.o i :: rs) ps
  | f {p : Addr} {d : D} {vs : List V} {rs : List R} {ps : List Addr} : OwnAt C (AA B σ env) H p d → HL C G B H σ env vs rs ps → HL C G B H σ env (.ref p :: vs) (.f d :: rs) (p :: ps)
abbrev Pls (B : Addr → Prop) (ps : List Addr) : Addr → Prop := fun a => B a ∨ a ∈ ps
section
variable {C : Ct} {G : Gh} {B B' : Addr → Prop} {H H' : Hp} {σ σ' : L2.St} {env env' : En} {vs : List V} {rs : List R} {ps : List Addr}
theorem HL.mv (h : HL C G B H σ env vs rs ps) (m : Mv (AA B σ env) (AA B' σ env') H H') (k : ∀ p ∈ ps, ∀ o, H p = some o → H' p = some o) : HL C G B' H' σ env' vs rs ps := by
  induction h with
  | nil => exact .nil
  | v r _ ih => exact .v (r.mv m) (ih k)
  | o e _ ih => exact .o e (ih k)
  | f o _ ih => exact .f (o.mv m (k _ List.mem_cons_self)) (ih fun p hp => k p (List.mem_cons_of_mem _ hp))
theorem aa_eq (h : ∀ a, B' a → B a) : ∀ a, AA B' σ env a → AA B σ env a := fun a z => z.elim (fun q => .inl (h a q)) .inr
def tHv (C : Ct) (g : En → Option (List R × En)) : TA := fun σ H Q => ∃ (G : Gh) (B : Addr → Prop) (env : En) (rs : List R) (env' : En), EnvR C G B H σ env ∧ g env = some (rs, env') ∧
  ∀ vs H' ps, Stp H σ env H' σ env' → EnvR C G (Pls B ps) H' σ env' → HL C G (Pls B ps) H' σ env' vs rs ps → (∀ p ∈ ps, H p = none ∧ ¬ B p) → ps.Nodup → Q vs H'
end
section
variable {X : Cx} {fa : Nat → Option Addr} {es : List Expr} {a : Expr} {ga : En → Option (R × En)} {gs gs' : En → Option (List R × En)}
theorem h_nil (hf : ∀ env, gs env = some ([], env)) : PA X [] (tHv (Ct.mk X.K fa) gs) := by
  refine wkA pa_nil fun σ H Q ⟨G, B, env, r, env', E, h, k⟩ => ?_
  rw [hf] at h
  cases h
  exact k [] H [] .refl (E.less fun a z => z.elim id fun q => nomatch q) .nil (fun p z => nomatch z) .nil
theorem h_cons (hp : plB a = true) (ha : PE X a (tEv (Ct.mk X.K fa) ga)) (hs : PA X es (tHv (Ct.mk X.K fa) gs'))
    (hf : ∀ env, gs env = match ga env with
      | some (x, e1) => match gs' e1 with
        | some (xs, e2) => some (x :: xs, e2)
        | none => none
      | none => none) : PA X (a :: es) (tHv (Ct.mk X.K fa) gs) := by
  refine wkA (pa_cons ha hs (star_cons (plB_st hp) _ _)) fun σ H Q ⟨G, B, env, r, env', E, h, k⟩ => ?_
  rw [hf] at h
  split at h
  · rename_i x e1 h1
    split at h
    · rename_i xs e2 h2
      cases h
      refine ⟨G, B, env, x, e1, E, h1, fun v1 H1 S1 E1 R1 => ?_⟩
      have mv : ∀ {B1 : Addr → Prop} {H2 : Hp} {ps : List Addr}, Stp H1 σ e1 H2 σ env' → (∀ p ∈ ps, H1 p = none) → Mv (AA B1 σ e1) (AA (Pls B1 ps) σ env') H1 H2 := fun {B1 H2 ps} S2 hn =>
        ⟨fun b o e n => S2.fr b o e fun z => n (.inr z), fun b z => by
          rcases z with (z | z) | z
          · exact .inl (.inl z)
          · exact .inr (hn b z)
          · rcases S2.own b z with q | q
            · exact .inl (.inr q)
            · exact .inr q⟩
      cases R1 with
      | v r1 =>
        refine ⟨G, B, e1, xs, env', E1, h2, fun vs H2 ps S2 E2 L2 hn nd => k _ H2 ps (S1.trans S2) E2 (.v (r1.mv (mv S2 fun p hp => (hn p hp).1)) L2) (fun p hp => ⟨S1.none (hn p hp).1, (hn p hp).2⟩) nd⟩
      | o r1 =>
        refine ⟨G, B, e1, xs, env', E1, h2, fun vs H2 ps S2 E2 L2 hn nd => k _ H2 ps (S1.trans S2) E2 (.o r1 L2) (fun p hp => ⟨S1.none (hn p hp).1, (hn p hp).2⟩) nd⟩
      | f r1 r2 r3 r4 =>
        rename_i p d
        refine ⟨G, Plus B p, e1, xs, env', r4, h2, fun vs H2 ps S2 E2 L2 hn nd => ?_⟩
        have sub1 : ∀ a, Pls B (p :: ps) a → Pls (Plus B p) ps a := fun a z => by
          rcases z with z | z
          · exact .inl (.inl z)
          · rcases List.mem_cons.mp z with z | z
            · exact .inl (.inr z)
            · exact .inr z
        have keep : ∀ o, H1 p = some o → H2 p = some o := fun o e => S2.fr p o e (r4.bdis p (.inr rfl))
        have m1 : Mv (AA (Pls (Plus B p) ps) σ env') (AA (Pls B (p :: ps)) σ env') H2 H2 := .sub (aa_eq sub1)
        refine k _ H2 (p :: ps) (S1.trans S2) (E2.less sub1) (.f ((r3.mv (mv S2 fun p hp => (hn p hp).1) keep).mv m1 fun _ => id) (L2.mv m1 fun _ _ _ => id)) (fun q hq => ?_) (List.nodup_cons.mpr ⟨fun z => (hn p z).2 (.inr rfl), nd⟩)
        rcases List.mem_cons.mp hq with z | z
        · subst z; exact ⟨r1, r2⟩
        · exact ⟨S1.none (hn q z).1, fun y => (hn q z).2 (.inl y)⟩
    · cases h
  · cases h
end
section
variable {C : Ct} {G : Gh} {B : Addr → Prop} {H H0 : Hp} {σ σ0 : L2.St} {env env0 : En}
theorem giv_st {r : R} {env e1 : En} {d : D} (E : EnvR C G B H σ env) (h : giv r env = some (d, e1)) : EnvR C G B H σ e1 ∧ Stp H σ env H σ e1 := by
  cases r with
  | v x => cases h; exact ⟨E, .refl⟩
  | f x => cases h; exact ⟨E, .refl⟩
  | o i =>
    simp only [giv] at h
    split at h
    · rename_i x q
      cases h
      exact ⟨E.freeze q, .freeze⟩
    · cases h; exact ⟨E, .refl⟩
    · cases h
theorem nrmL_ok : ∀ {rs : List R} {vs : List V} {ps : List Addr} {env e2 : En} {rs' : List R}, HL C G B H σ env vs rs ps → EnvR C G B H σ env → nrmL rs env = some (rs', e2) →
    HL C G B H σ e2 vs rs' ps ∧ EnvR C G B H σ e2 ∧ Stp H σ env H σ e2 ∧ ∀ i, .o i ∉ rs'
  | [], _, _, env, e2, rs', h, E, q => by
    cases h
    cases q
    exact ⟨.nil, E, .refl, fun i z => nomatch z⟩
  | r :: rs, vs, ps, env, e2, rs', h, E, q => by
    simp only [nrmL] at q
    split at q
    · rename_i r' e1 h1
      split at q
      · rename_i xs e3 h2
        cases q
        cases h with
        | v hr hl =>
          cases h1
          obtain ⟨a1, a2, a3, a4⟩ := nrmL_ok hl E h2
          exact ⟨.v (hr.mv a3.mv) a1, a2, a3, fun i z => by
            rcases List.mem_cons.mp z with z | z
            · cases z
            · exact a4 i z⟩
        | f ho hl =>
          cases h1
          obtain ⟨a1, a2, a3, a4⟩ := nrmL_ok hl E h2
          exact ⟨.f (ho.mv a3.mv fun _ => id) a1, a2, a3, fun i z => by
            rcases List.mem_cons.mp z with z | z
            · cases z
            · exact a4 i z⟩
        | o he hl =>
          rename_i v i vs
          simp only [nrm] at h1
          split at h1
          · rename_i d e4 h4
            cases h1
            obtain ⟨rr, E4, S4⟩ := (ResR.o he : ResR C G B H σ env H v (.o i)).giv .refl E h4
            obtain ⟨a1, a2, a3, a4⟩ := nrmL_ok (hl.mv S4.mv fun _ _ _ => id) E4 h2
            exact ⟨.v (rr.mv a3.mv) a1, a2, S4.trans a3, fun i z => by
              rcases List.mem_cons.mp z with z | z
              · cases z
              · exact a4 i z⟩
          · cases h1
      · cases q
    · cases q
/-- stored one after another -/
def setL : List Nat → List V → L2.St → L2.St
  | i :: is, v :: vs, σ => setL is vs (σ.set i (some v))
  | _, _, σ => σ
theorem HL.slots {σ' : L2.St} {vs : List V} {rs : List R} {ps : List Addr} {env env' : En} {B' : Addr → Prop} (h : HL C G B H σ env vs rs ps) (n : ∀ i, .o i ∉ rs) (s : ∀ a, AA B' σ' env' a → AA B σ env a) : HL C G B' H σ' env' vs rs ps := by
  have m : Mv (AA B σ env) (AA B' σ' env') H H := .sub s
  induction h with
  | nil => exact .nil
  | v r _ ih => exact .v (r.mv m) (ih fun i z => n i (List.mem_cons_of_mem _ z))
  | o e _ ih => exact absurd List.mem_cons_self (n _)
  | f o _ ih => exact .f (o.mv m fun _ => id) (ih fun i z => n i (List.mem_cons_of_mem _ z))
theorem asgL_ok : ∀ {is : List Nat} {rs : List R} {vs : List V} {ps : List Addr} {σ : L2.St} {env e2 : En}, HL C G (Pls B ps) H σ env vs rs ps → (∀ i, .o i ∉ rs) → EnvR C G (Pls B ps) H σ env → ps.Nodup → (∀ p ∈ ps, ¬ B p ∧ G.H0 p = none) →
    asgL is rs env = some e2 → EnvR C G B H (setL is vs σ) e2 ∧ ∀ b, Own (setL is vs σ) e2 b → Own σ env b ∨ b ∈ ps
  | [], [], _, _, σ, env, e2, h, n, E, nd, hp, q => by
    cases h
    cases q
    exact ⟨E.less fun a z => .inl z, fun b z => .inl z⟩
  | [], _ :: _, _, _, _, _, _, _, _, _, _, _, q => by cases q
  | _ :: _, [], _, _, _, _, _, _, _, _, _, _, q => by cases q
  | i :: is, r :: rs, vs, ps, σ, env, e2, h, n, E, nd, hp, q => by
    simp only [asgL] at q
    split at q
    · rename_i e1 h1
      have n' : ∀ i, .o i ∉ rs := fun i z => n i (List.mem_cons_of_mem _ z)
      cases h with
      | v hr hl =>
        have h1' : putS env i (.v _) = some e1 := h1
        have E1 := E.put hr h1'
        obtain ⟨a1, a2⟩ := asgL_ok (hl.slots n' fun a z => z.elim .inl fun q => .inr (by
          obtain ⟨rfl, _, _⟩ := putS_is h1'
          exact own_putv a q)) n' E1 nd hp q
        refine ⟨a1, fun b z => (a2 b z).elim (fun q => .inl ?_) .inr⟩
        obtain ⟨rfl, _, _⟩ := putS_is h1'
        exact own_putv b q
      | o he hl => exact absurd List.mem_cons_self (n _)
      | f ho hl =>
        rename_i p d vs ps
        have h1' : putS env i (.o d) = some e1 := h1
        obtain ⟨nd1, nd2⟩ := List.nodup_cons.mp nd
        have sub1 : ∀ a, Plus (Pls B ps) p a → Pls B (p :: ps) a := fun a z => by
          rcases z with (z | z) | z
          · exact .inl z
          · exact .inr (List.mem_cons_of_mem _ z)
          · exact .inr (z ▸ List.mem_cons_self)
        have nB : ¬ Pls B ps p := fun z => z.elim (hp p List.mem_cons_self).1 nd1
        have E0 : EnvR C G (Plus (Pls B ps) p) H σ env := E.less sub1
        have E1 := E0.puto (ho.mv (.sub (aa_eq sub1)) fun _ => id) (hp p List.mem_cons_self).2 nB h1'
        have own1 : ∀ b, Own (σ.set i (some (.ref p))) e1 b → Own σ env b ∨ b = p := fun b z => by
          obtain ⟨rfl, _, _⟩ := putS_is h1'
          exact own_puto b z
        obtain ⟨a1, a2⟩ := asgL_ok (hl.slots n' fun a z => by
          rcases z with (z | z) | z
          · exact .inl (.inl z)
          · exact .inl (.inr (List.mem_cons_of_mem _ z))
          · rcases own1 a z with q | q
            · exact .inr q
            · exact .inl (.inr (q ▸ List.mem_cons_self))) n' E1 nd2 (fun q hq => hp q (List.mem_cons_of_mem _ hq)) q
        refine ⟨a1, fun b z => ?_⟩
        rcases a2 b z with q | q
        · rcases own1 b q with q | q
          · exact .inl q
          · exact .inr (q ▸ List.mem_cons_self)
        · exact .inr (List.mem_cons_of_mem _ q)
    · cases q
theorem par_ok {is : List Nat} {rs rs' : List R} {vs : List V} {ps : List Addr} {e1 e2 e3 : En} {env : En} {H' : Hp} (E0 : EnvR C G B H σ env) (S : Stp H σ env H' σ e1) (E : EnvR C G (Pls B ps) H' σ e1) (L : HL C G (Pls B ps) H' σ e1 vs rs ps)
    (hn : ∀ p ∈ ps, H p = none ∧ ¬ B p) (nd : ps.Nodup) (h1 : nrmL rs e1 = some (rs', e2)) (h2 : asgL is rs' e2 = some e3) : Stp H σ env H' (setL is vs σ) e3 ∧ EnvR C G B H' (setL is vs σ) e3 := by
  obtain ⟨a1, a2, a3, a4⟩ := nrmL_ok L E h1
  obtain ⟨b1, b2⟩ := asgL_ok a1 a4 a2 nd (fun p hp => ⟨(hn p hp).2, E0.g0 (hn p hp).1⟩) h2
  refine ⟨⟨S.fr, S.dom, fun b z => ?_⟩, b1⟩
  rcases b2 b z with q | q
  · exact (S.trans a3).own b q
  · exact .inr (hn b q).1
end
section
variable {X : Cx} {fa : Nat → Option Addr} {es : List Expr} {st : Stmt} {gs : En → Option (List R × En)} {fs : En → Option (Fl × En)} {is : List Nat}
theorem HL.len {C : Ct} {G : Gh} {B : Addr → Prop} {H : Hp} {σ : L2.St} {env : En} {vs : List V} {rs : List R} {ps : List Addr} (h : HL C G B H σ env vs rs ps) : vs.length = rs.length := by
  induction h with
  | nil => rfl
  | v _ _ ih => simp [ih]
  | o _ _ ih => simp [ih]
  | f _ _ ih => simp [ih]
theorem asgL_len : ∀ {is : List Nat} {rs : List R} {env e2 : En}, asgL is rs env = some e2 → is.length = rs.length
  | [], [], _, _, _ => rfl
  | [], _ :: _, _, _, q => by cases q
  | _ :: _, [], _, _, q => by cases q
  | i :: is, r :: rs, env, e2, q => by
    simp only [asgL] at q
    split at q
    · simp [asgL_len q]
    · cases q
theorem tHv_mono {C : Ct} {g : En → Option (List R × En)} {σ : L2.St} {H : Hp} {Q Q' : List V → Hp → Prop} (h : tHv C g σ H Q) (k : ∀ vs H', Q vs H' → Q' vs H') : tHv C g σ H Q' := by
  obtain ⟨G, B, env, rs, env', E, h1, q⟩ := h
  exact ⟨G, B, env, rs, env', E, h1, fun vs H' ps S E L hn nd => k vs H' (q vs H' ps S E L hn nd)⟩
theorem c_par {t : TS} (hs : PS X st t) (ht : ∀ D σ H, (tHv (Ct.mk X.K fa) gs σ H fun vs H1 => vs.length = is.length ∧ D.nx (setL is vs σ) H1) → t D σ H)
    (hf : ∀ env, fs env = match gs env with
      | some (rs, e1) => match nrmL rs e1 with
        | some (rs', e2) => match asgL is rs' e2 with
          | some e3 => some (.nx, e3)
          | none => none
        | none => none
      | none => none) : PS X st (tSv (Ct.mk X.K fa) fs) := by
  refine wkS hs fun D σ H ⟨G, B, env, fl, env', E, h, k⟩ => ht _ _ _ ?_
  rw [hf] at h
  split at h
  · rename_i rs e1 h1
    split at h
    · rename_i rs' e2 h2
      split at h
      · rename_i e3 h3
        cases h
        refine ⟨G, B, env, rs, e1, E, h1, fun vs H' ps S E1 L hn nd => ?_⟩
        obtain ⟨S', E'⟩ := par_ok E S E1 L hn nd h2 h3
        refine ⟨?_, k _ _ S' E'⟩
        rw [(nrmL_ok L E1 h2).1.len, asgL_len h3]
      · cases h
    · cases h
  · cases h
theorem t_par2 {i j : Nat} : ∀ D σ H, (tHv (Ct.mk X.K fa) gs σ H fun vs H1 => vs.length = [i, j].length ∧ D.nx (setL [i, j] vs σ) H1) → tPar i j (tHv (Ct.mk X.K fa) gs) D σ H := fun D σ H h =>
  tHv_mono h fun vs H' ⟨hl, q⟩ => by
    match vs, hl, q with
    | [v, w], _, q => exact ⟨v, w, rfl, q⟩
theorem t_par3 {i j l : Nat} : ∀ D σ H, (tHv (Ct.mk X.K fa) gs σ H fun vs H1 => vs.length = [i, j, l].length ∧ D.nx (setL [i, j, l] vs σ) H1) → tPar3 i j l (tHv (Ct.mk X.K fa) gs) D σ H := fun D σ H h =>
  tHv_mono h fun vs H' ⟨hl, q⟩ => by
    match vs, hl, q with
    | [u, v, w], _, q => exact ⟨u, v, w, rfl, q⟩
end
end PL
set_option maxHeartbeats 8000000
namespace PL
open PySem PySem.Spec L2
def isLocB (sc : Scope) (x : Str) : Bool := match sc.names.lookup x with
  | some .local => true
  | _ => false
theorem isLoc_of {sc : Scope} {x : Str} (h : isLocB sc x = true) : sc.names.lookup x = some .local := by
  unfold isLocB at h
  split at h
  · assumption
  · cases h
/-- a comprehension at a name that is not stored while it ends -/
def nsl (sc : Scope) (y : Str) (py : Pos) : Expr → Bool
  | .ListComp _ _ scope pos => !(isLocB sc y && (py.line == pos.line) && !(scope.names.any fun (n, k) => n == y && (k == .local || k == .cell)))
  | v => noLc v
theorem isLoc_eq {sc : Scope} {x : Str} : (sc.names.lookup x == some .local) = isLocB sc x := by
  unfold isLocB
  cases sc.names.lookup x with
  | none => rfl
  | some k => cases k <;> rfl
theorem nsl_of {env : Env} {y : Str} {py : Pos} {v : Expr} (hk : env.blockKind = .function) (h : nsl env.scope y py v = true) (line : Nat) : swapsWith v (some (.Name y py)) line env = pure false := by
  cases v with
  | ListComp elt gens scope pos =>
    have hpos : (Expr.ListComp elt gens scope pos).pos = pos := rfl
    have hq : (env.kindOf y == some .local) = isLocB env.scope y := isLoc_eq
    simp only [nsl, Bool.not_eq_true'] at h
    simp only [swapsWith, hk, hpos, hq]
    rw [show ((ScopeKind.function == ScopeKind.function) = true) from rfl, Bool.true_and, h]
  | _ => first | rfl | (simp [nsl, noLc] at h)
theorem sw_tp {v : Expr} {ts : List Expr} {k : Nat} {p : Pos} {line : Nat} {env : Env} : swapsWith v (some (.Tuple ts k p)) line env = pure false := by cases v <;> rfl
/-- a target that is not a plain name of the def -/
def notLoc (sc : Scope) : Expr → Bool
  | .Name x _ => !isLocB sc x
  | _ => true
def nsw (sc : Scope) (ts : List Expr) : Expr → Bool
  | .Tuple vs _ _ => !(ts.length == 2 || ts.length == 3) || ts.any (notLoc sc) || vs.all (foldedForSure 8)
  | _ => true
theorem fm_len {α β : Type} {f : α → Option β} : ∀ {l : List α}, (l.filterMap f).length ≤ l.length
  | [] => Nat.le_refl _
  | a :: r => by
    rw [List.filterMap_cons]
    split
    · exact Nat.le_succ_of_le fm_len
    · exact Nat.succ_le_succ fm_len
theorem fm_lt {α β : Type} {f : α → Option β} : ∀ {l : List α} {a : α}, a ∈ l → f a = none → (l.filterMap f).length < l.length
  | a :: r, b, h, e => by
    rw [List.filterMap_cons]
    rcases List.mem_cons.mp h with z | z
    · subst z
      rw [e]
      exact Nat.lt_succ_of_le fm_len
    · split
      · exact Nat.lt_succ_of_lt (fm_lt z e)
      · exact Nat.succ_lt_succ (fm_lt z e)
theorem nsw_of {ts : List Expr} {v : Expr} {env : Env} (hk : env.blockKind = .function) (h : nsw env.scope ts v = true) (k : Nat) (p : Pos) : swappedStores [.Tuple ts k p] v env = pure none := by
  cases v with
  | Tuple vs _ _ =>
    simp only [nsw, Bool.or_eq_true] at h
    unfold swappedStores
    simp only []
    split
    · rfl
    · split
      · rfl
      · rename_i h1 h2
        split
        · rfl
        · rename_i h3
          split
          · rfl
          · rename_i h4
            rcases h with (h | h) | h
            · simp only [Bool.or_eq_true, not_or] at h1
              simp only [Bool.not_eq_true'] at h
              simp [h] at h1
            · refine absurd ?_ h3
              rw [List.any_eq_true] at h
              obtain ⟨t, ht, hn⟩ := h
              rw [Bool.or_eq_true]
              refine .inl ?_
              rw [bne_iff_ne]
              refine Nat.ne_of_lt (fm_lt ht ?_)
              cases t with
              | Name x q =>
                have hq : (env.kindOf x == some .local) = isLocB env.scope x := isLoc_eq
                have : isLocB env.scope x = false := by simpa [notLoc] using hn
                simp [hq, this]
              | _ => rfl
            · exact absurd h h4
  | _ => rfl
theorem sw2 {env : Env} {x y : Str} {px py pt pt2 : Pos} {k k2 : Nat} {a b : Expr} (hk : env.blockKind = .function) (hx : env.scope.names.lookup x = some .local) (hy : env.scope.names.lookup y = some .local) (hl : (py.line == px.line) = true)
    (hd : ([x, y].eraseDups.length == 2) = true) (ha : noSt a = true) (hb : noSt b = true) (h1 : [a, b].all (foldedForSure 8) = false) (h2 : [a, b].all (constantsAlone 8) = false) :
    swappedStores [.Tuple [.Name x px, .Name y py] k pt] (.Tuple [a, b] k2 pt2) env = pure (some [x, y]) := by
  have hkx : env.kindOf x = some .local := hx
  have hky : env.kindOf y = some .local := hy
  have st1 : ∀ {e : Expr}, noSt e = true → (match e with | .Starred .. => true | _ => false) = false := by intro e h; cases e <;> first | rfl | cases h
  have hst : ([a, b].any fun | .Starred .. => true | _ => false) = false := by
    simp only [List.any_cons, List.any_nil, st1 ha, st1 hb, Bool.or_self]
  have hpx : (Expr.Name x px).pos = px := rfl
  unfold swappedStores
  simp only [hst, h1, h2, List.filterMap_cons, List.filterMap_nil, hkx, hky, hk, List.head?_cons, Option.map_some, Option.getD_some, hpx, hl]
  simp only [beq_self_eq_true, Bool.and_self, Bool.true_and, if_true, List.length_cons, List.length_nil]
  have hd' : [x, y].eraseDups.length = 2 := by simpa using hd
  rw [hd', if_neg (by decide)]
  refine (if_neg (fun z => Bool.false_ne_true (hst.symm.trans z))).trans ?_
  rw [if_neg (by decide), if_neg (by decide), if_neg (by decide)]
theorem sw3 {env : Env} {x y z : Str} {px py pz pt pt2 : Pos} {k k2 : Nat} {a b c : Expr} (hk : env.blockKind = .function) (hx : env.scope.names.lookup x = some .local) (hy : env.scope.names.lookup y = some .local) (hz : env.scope.names.lookup z = some .local)
    (hl : (py.line == px.line) = true) (hl' : (pz.line == px.line) = true)
    (hd : ([x, y, z].eraseDups.length == 3) = true) (ha : noSt a = true) (hb : noSt b = true) (hc : noSt c = true) (h1 : [a, b, c].all (foldedForSure 8) = false) (h2 : [a, b, c].all (constantsAlone 8) = false) :
    swappedStores [.Tuple [.Name x px, .Name y py, .Name z pz] k pt] (.Tuple [a, b, c] k2 pt2) env = pure (some [x, y, z]) := by
  have hkx : env.kindOf x = some .local := hx
  have hky : env.kindOf y = some .local := hy
  have hkz : env.kindOf z = some .local := hz
  have st1 : ∀ {e : Expr}, noSt e = true → (match e with | .Starred .. => true | _ => false) = false := by intro e h; cases e <;> first | rfl | cases h
  have hst : ([a, b, c].any fun | .Starred .. => true | _ => false) = false := by
    simp only [List.any_cons, List.any_nil, st1 ha, st1 hb, st1 hc, Bool.or_self]
  have hpx : (Expr.Name x px).pos = px := rfl
  unfold swappedStores
  simp only [hst, h1, h2, List.filterMap_cons, List.filterMap_nil, hkx, hky, hkz, hk, List.head?_cons, Option.map_some, Option.getD_some, hpx, hl, hl']
  simp only [beq_self_eq_true, Bool.and_self, Bool.true_and, if_true, List.length_cons, List.length_nil]
  have hd' : [x, y, z].eraseDups.length = 3 := by simpa using hd
  rw [hd', if_neg (by decide)]
  refine (if_neg (fun z => Bool.false_ne_true (hst.symm.trans z))).trans ?_
  rw [if_neg (by decide), if_neg (by decide), if_neg (by decide)]
section
variable (T : Tb) (N : List Str)
def chkP (sc : Scope) (is : List Nat) (es : List Ex) : List Expr → List Expr → Bool
  | [.Name x px, .Name y py], [a, b] => match is with
    | [i, j] => decide (N[i]? = some x) && decide (N[j]? = some y) && decide (i ≠ j) && isLocB sc x && isLocB sc y && (py.line == px.line) && ([x, y].eraseDups.length == 2) && !([a, b].all (foldedForSure 8)) && !([a, b].all (constantsAlone 8)) &&
      chkL T N sc es [a, b]
    | _ => false
  | [.Name x px, .Name y py, .Name z pz], [a, b, c] => match is with
    | [i, j, l] => decide (N[i]? = some x) && decide (N[j]? = some y) && decide (N[l]? = some z) && decide (i ≠ j) && decide (i ≠ l) && decide (j ≠ l) && isLocB sc x && isLocB sc y && isLocB sc z && (py.line == px.line) && (pz.line == px.line) &&
      ([x, y, z].eraseDups.length == 3) && !([a, b, c].all (foldedForSure 8)) && !([a, b, c].all (constantsAlone 8)) && chkL T N sc es [a, b, c]
    | _ => false
  | _, _ => false
def chkN (sc : Scope) (i : Nat) : Expr → Bool
  | .Name x _ => decide (N[i]? = some x) && visB sc x && nameB x
  | _ => false
mutual
def chkS (sc : Scope) : Sx → Stmt → Bool
  | .asg (.nm i) e, .Assign [.Name x py] v _ => decide (N[i]? = some x) && locB sc x && nsl sc x py v && chkE T N sc e v
  | .asg (.tp l) e, .Assign [.Tuple ts _ _] v _ => chkTs N sc none l ts && nsw sc ts v && chkE T N sc e v
  | .asc i (.lc e tg it cs own), .Assign [.Name y py] (.ListComp elt gens scope pos) _ => decide (N[i]? = some y) && isLocB sc y && (py.line == pos.line) && !(scope.names.any fun (n, k) => n == y && (k == .local || k == .cell)) &&
    chkE T N sc (.lc e tg it cs own) (.ListComp elt gens scope pos)
  | .par is es, .Assign [.Tuple ts _ _] (.Tuple vs _ _) _ => chkP T N sc is es ts vs
  | .sto i ix e, .Assign [.Subscript o y _] v _ => chkN N sc i o && plB y && chkE T N sc ix y && chkE T N sc e v
  | .ex e, .Expr v _ => noLc v && chkE T N sc e v
  | .ret e, .Return (some v) _ => chkE T N sc e v
  | .ret (.k .non), .Return none _ => true
  | .ife c a b, .If c' a' b' _ => chkE T N sc c c' && chkSs sc a a' && chkSs sc b b'
  | .wh c b, .While c' b' [] _ => chkE T N sc c c' && chkSs sc b b'
  | .fr tg it b, .For tg' it' b' [] _ => chkT N sc none tg tg' && chkI T N sc it it' (isTp tg) && chkSs sc b b'
  | .pas, .Pass _ => true
  | .brk, .Break _ => true
  | .con, .Continue _ => true
  | .rse, .Raise .. => true
  | _, _ => false
def chkSs (sc : Scope) : List Sx → List Stmt → Bool
  | [], [] => true
  | s :: l, t :: r => chkS sc s t && chkSs sc l r
  | _, _ => false
end
end
structure DOk (X : Cx) : Prop where
  xe : X.xe = fun _ _ => False
  fnT : ∀ x, X.fn x = true
  kind : X.env.blockKind = .function
theorem DOk.tg {X : Cx} (d : DOk X) : TgOk X X.env.scope := ⟨fun x h => by
  refine ⟨?_, .inl (d.fnT x)⟩
  unfold locB at h
  split at h
  · exact .inl ‹_›
  · exact .inr ‹_›
  · cases h⟩
theorem loc_of {sc : Scope} {x : Str} (h : locB sc x = true) : Loc sc x := by
  unfold locB at h
  split at h
  · exact .inl ‹_›
  · exact .inr ‹_›
  · cases h
section
variable {T : Tab} {F : FT} {k : Nat} (hF : ∀ n as r fin, F n as = some (r, fin) → as.length = T.np n)
include hF
theorem s_H : ∀ (l : List Ex) {X : Cx} {es : List Expr}, SOk T F k X → chkL T.toTb X.N X.env.scope l es = true → PA X es (tHv ⟨X.K, T.fa⟩ (evsF F T.gl l))
  | [], X, es, S, h => by
    cases es with
    | nil => exact h_nil fun env => rfl
    | cons _ _ => simp [chkL] at h
  | a :: l, X, es, S, h => by
    cases es with
    | nil => simp [chkL] at h
    | cons x es =>
      simp only [chkL, Bool.and_eq_true] at h
      exact h_cons h.1.2 (s_E hF a S h.1.1).1 (s_H l S h.2) fun env => rfl
theorem s_setLc {X : Cx} (S : SOk T F k X) (D : DOk X) {i : Nat} {y : Str} {py p pos : Pos} {e : Ex} {tg : Tg} {it : It'} {cs : List Ex} {own : List Nat} {elt : Expr} {gens : List Comprehension} {scope : Scope}
    (hy : X.N[i]? = some y) (hl : X.env.scope.names.lookup y = some .local) (hline : (py.line == pos.line) = true) (hn : (scope.names.any fun (n, k) => n == y && (k == .local || k == .cell)) = false)
    (h : chkE T.toTb X.N X.env.scope (.lc e tg it cs own) (.ListComp elt gens scope pos) = true) : PS X (.Assign [.Name y py] (.ListComp elt gens scope pos) p) (tSv ⟨X.K, T.fa⟩ (exS F T.gl (.asc i (.lc e tg it cs own)))) := by
  obtain ⟨elt', tg', iter, ifs, scope', p', hx, h1, h2, h3, h4, h5, h6⟩ := chk_lc h
  cases hx
  have ok := blkOk_by h1
  have ho : (own.map fun i => (X.N.getD i "", i)).map (·.2) = own := by
    rw [List.map_map]
    exact List.map_id' own
  have hp : plB iter = true := chkI_pl h3
  have hi := s_I hF it S (tg := tg') (fun z => by
    cases tg with
    | nm i => cases z
    | tp l => cases tg' <;> first | exact ⟨_, _, _, rfl⟩ | simp [chkT] at h2) h3
  have hg : ∀ (s : Shared) (H : Hp) (C : Addr) (cl : List (Str × Addr)) (fp : List Addr), PG (X.blk s H scope (compEnvC scope cl C X.env) fp) tg' (tGv ⟨X.K, T.fa⟩ (asgT tg) (· ∈ own)) :=
    fun s H C cl fp => s_T (X := X.blk s H scope (compEnvC scope cl C X.env) fp) (fa := T.fa) S.calm S.nd (TgOk.blk s H scope C cl fp) h2
  have ht : ∀ (s : Shared) (H : Hp) (C : Addr) (cl : List (Str × Addr)) (fp : List Addr), PTs (X.blk s H scope (compEnvC scope cl C X.env) fp) ifs (tTv ⟨X.K, T.fa⟩ (tsts F T.gl cs)) :=
    fun s H C cl fp => s_Ts' hF cs (X := X.blk s H scope (compEnvC scope cl C X.env) fp) (S.blk ..) h4 h5
  have he : ∀ (s : Shared) (H : Hp) (C : Addr) (cl : List (Str × Addr)) (fp : List Addr), PE (X.blk s H scope (compEnvC scope cl C X.env) fp) elt (tEv ⟨X.K, T.fa⟩ (ev F T.gl e)) :=
    fun s H C cl fp => (s_E hF e (X := X.blk s H scope (compEnvC scope cl C X.env) fp) (S.blk ..) h6).1
  have hsw : swapsWith (.ListComp elt [⟨tg', iter, ifs, 0⟩] scope pos) (some (.Name y py)) p.line X.env = pure true := by
    have hk : X.env.kindOf y = some .local := hl
    have hpos : (Expr.ListComp elt [⟨tg', iter, ifs, 0⟩] scope pos).pos = pos := rfl
    simp only [swapsWith, D.kind, hk, hpos, hline, hn]
    rfl
  have base := ps_setLc (py := py) (spos := p) (pos := pos) S.calm S.nd hy hl hsw hi ok hg ht he (plB_fold hp _)
  rw [ho] at base
  exact c_setg base (c_lc (ownN := own.map fun i => (X.N.getD i "", i)) S.calm S.nd hi ok ho hg ht he hp (f := ev F T.gl (.lc e tg it cs own)) fun env => by simp only [ev] <;> rfl) fun env => by simp only [exS] <;> rfl
theorem s_par {X : Cx} (S : SOk T F k X) (D : DOk X) {is : List Nat} {es : List Ex} {ts vs : List Expr} {kt k2 : Nat} {pt pt2 p : Pos} (h : chkP T.toTb X.N X.env.scope is es ts vs = true) :
    PS X (.Assign [.Tuple ts kt pt] (.Tuple vs k2 pt2) p) (tSv ⟨X.K, T.fa⟩ (exS F T.gl (.par is es))) := by
  unfold chkP at h
  split at h
  · split at h
    · simp only [Bool.and_eq_true, decide_eq_true_eq, Bool.not_eq_true'] at h
      obtain ⟨⟨⟨⟨⟨⟨⟨⟨⟨h1, h2⟩, h3⟩, h4⟩, h5⟩, h6⟩, h7⟩, h8⟩, h9⟩, h10⟩ := h
      have pl := all_st (chkL_pl h10).1
      simp only [List.all_cons, List.all_nil, Bool.and_eq_true] at pl
      exact c_par (ps_par S.calm S.nd h1 h2 h3 (isLoc_of h4) (isLoc_of h5) (s_H hF es S h10) (sw2 D.kind (isLoc_of h4) (isLoc_of h5) h6 h7 pl.1 pl.2.1 h8 h9) rfl) t_par2 fun env => by simp only [exS] <;> rfl
    · cases h
  · split at h
    · simp only [Bool.and_eq_true, decide_eq_true_eq, Bool.not_eq_true'] at h
      obtain ⟨⟨⟨⟨⟨⟨⟨⟨⟨⟨⟨⟨⟨⟨h1, h2⟩, h3⟩, h4⟩, h5⟩, h6⟩, h7⟩, h8⟩, h9⟩, h10⟩, h11⟩, h12⟩, h13⟩, h14⟩, h15⟩ := h
      have pl := all_st (chkL_pl h15).1
      simp only [List.all_cons, List.all_nil, Bool.and_eq_true] at pl
      exact c_par (ps_par3 S.calm S.nd h1 h2 h3 h4 h5 h6 (isLoc_of h7) (isLoc_of h8) (isLoc_of h9) (s_H hF es S h15) (sw3 D.kind (isLoc_of h7) (isLoc_of h8) (isLoc_of h9) h10 h11 h12 pl.1 pl.2.1 pl.2.2.1 h13 h14) rfl) t_par3 fun env => by simp only [exS] <;> rfl
    · cases h
  · cases h
mutual
theorem s_S : ∀ (s : Sx) {X : Cx} {st : Stmt}, SOk T F k X → DOk X → chkS T.toTb X.N X.env.scope s st = true → PS X st (tSv ⟨X.K, T.fa⟩ (exS F T.gl s))
  | .asg (.nm i) e, X, st, S, D, h => by
    cases st with
    | Assign tgs v p =>
      cases tgs with
      | nil => simp [chkS] at h
      | cons tg tgs =>
        cases tgs with
        | cons _ _ => cases tg <;> simp [chkS] at h
        | nil =>
          cases tg with
          | Name x p1 =>
            simp only [chkS, Bool.and_eq_true, decide_eq_true_eq] at h
            obtain ⟨⟨⟨h1, h2⟩, h3⟩, h4⟩ := h
            exact c_setg (ps_set S.nd h1 (loc_of h2) (s_E hF e S h4).1 (nsl_of D.kind h3 _) (.inl (D.fnT x))) (fun _ _ _ z => z) fun env => by simp only [exS, asg] <;> rfl
          | _ => simp [chkS] at h
    | _ => simp [chkS] at h
  | .asg (.tp l) e, X, st, S, D, h => by
    cases st with
    | Assign tgs v p =>
      cases tgs with
      | nil => simp [chkS] at h
      | cons tg tgs =>
        cases tgs with
        | cons _ _ => cases tg <;> simp [chkS] at h
        | nil =>
          cases tg with
          | Tuple ts k1 p1 =>
            simp only [chkS, Bool.and_eq_true, decide_eq_true_eq] at h
            obtain ⟨⟨h1, h3⟩, h4⟩ := h
            have hg := s_T (X := X) (fa := T.fa) S.calm S.nd D.tg (ow := none) (t := .tp l) (e := .Tuple ts k1 p1) (by simpa only [chkT] using h1)
            refine c_asgT (s_E hF e S h4).1 hg (show swapsWith v (some (.Tuple ts k1 p1)) p.line X.env = _ from sw_tp) (nsw_of D.kind h3 _ _) rfl (fun d env env' z => ?_) fun env => ?_
            · cases d <;> simp [asgT] at z
              exact ⟨_, rfl⟩
            · simp only [exS, asg]
              cases ev F T.gl e env with
              | none => rfl
              | some q =>
                obtain ⟨r, e1⟩ := q
                simp only []
                cases rd r e1 with
                | none => rfl
                | some d => rfl
          | _ => simp [chkS] at h
    | _ => simp [chkS] at h
  | .asc i ex, X, st, S, D, h => by
    cases ex with
    | lc e tg it cs own =>
      cases st with
      | Assign tgs v p =>
        cases tgs with
        | nil => simp [chkS] at h
        | cons t tgs =>
          cases tgs with
          | cons _ _ => cases t <;> simp [chkS] at h
          | nil =>
            cases t with
            | Name x p1 =>
              cases v with
              | ListComp elt gens scope pos =>
                simp only [chkS, Bool.and_eq_true, decide_eq_true_eq, Bool.not_eq_true'] at h
                obtain ⟨⟨⟨⟨h1, h2⟩, h3⟩, h4⟩, h5⟩ := h
                exact s_setLc hF S D h1 (isLoc_of h2) h3 h4 h5
              | _ => simp [chkS] at h
            | _ => simp [chkS] at h
      | _ => simp [chkS] at h
    | _ => simp [chkS] at h
  | .par is es, X, st, S, D, h => by
    cases st with
    | Assign tgs v p =>
      cases tgs with
      | nil => simp [chkS] at h
      | cons t tgs =>
        cases tgs with
        | cons _ _ => cases t <;> simp [chkS] at h
        | nil =>
          cases t with
          | Tuple ts kt pt =>
            cases v with
            | Tuple vs k2 pt2 =>
              simp only [chkS] at h
              exact s_par hF S D h
            | _ => simp [chkS] at h
          | _ => simp [chkS] at h
    | _ => simp [chkS] at h
  | .sto i ix e, X, st, S, D, h => by
    cases st with
    | Assign tgs v p =>
      cases tgs with
      | nil => simp [chkS] at h
      | cons t tgs =>
        cases tgs with
        | cons _ _ => cases t <;> simp [chkS] at h
        | nil =>
          cases t with
          | Subscript o y p2 =>
            simp only [chkS, Bool.and_eq_true] at h
            obtain ⟨⟨⟨h1, h4⟩, h6⟩, h7⟩ := h
            cases o with
            | Name x p1 =>
              simp only [chkN, Bool.and_eq_true, decide_eq_true_eq] at h1
              obtain ⟨⟨h1, h2⟩, h3⟩ := h1
              obtain ⟨n1, n2, n3⟩ := nameB_of h3
              exact c_sto (pe_var h1 (vis_of h2) n1 n2) (s_E hF ix S h6).1 (s_E hF e S h7).1 h4 fun env => by simp only [exS] <;> rfl
            | _ => cases h1
          | _ => simp [chkS] at h
    | _ => simp [chkS] at h
  | .ex e, X, st, S, D, h => by
    cases st with
    | Expr v p =>
      simp only [chkS, Bool.and_eq_true] at h
      exact c_ex (s_E hF e S h.2).1 h.1 fun env => by simp only [exS] <;> rfl
    | _ => simp [chkS] at h
  | .ret e, X, st, S, D, h => by
    cases st with
    | Return v p =>
      cases v with
      | some v =>
        simp only [chkS] at h
        exact c_ret (s_E hF e S h).1 fun env => by simp only [exS] <;> rfl
      | none =>
        have he : e = .k .non := by
          cases e with
          | k d => cases d <;> first | rfl | simp [chkS] at h
          | _ => simp [chkS] at h
        subst he
        exact c_retN fun env => by simp only [exS, ev, outR]
    | _ => cases e <;> simp [chkS] at h
  | .ife c a b, X, st, S, D, h => by
    cases st with
    | If c' a' b' p =>
      simp only [chkS, Bool.and_eq_true] at h
      exact c_if (s_E hF c S h.1.1).2 (s_Ss a S D h.1.2) (s_Ss b S D h.2) fun env => by simp only [exS] <;> rfl
    | _ => simp [chkS] at h
  | .wh c b, X, st, S, D, h => by
    cases st with
    | While c' b' o p =>
      cases o with
      | nil =>
        simp only [chkS, Bool.and_eq_true] at h
        exact c_wh D.xe (s_E hF c S h.1).2 (s_Ss b S D h.2) fun env => by simp only [exS] <;> rfl
      | cons _ _ => simp [chkS] at h
    | _ => simp [chkS] at h
  | .fr tg it b, X, st, S, D, h => by
    cases st with
    | For tg' it' b' o p =>
      cases o with
      | nil =>
        simp only [chkS, Bool.and_eq_true] at h
        obtain ⟨⟨h1, h2⟩, h3⟩ := h
        have hi := s_I hF it S (tg := tg') (fun z => by
          cases tg with
          | nm i => cases z
          | tp l => cases tg' <;> first | exact ⟨_, _, _, rfl⟩ | simp [chkT] at h1) h2
        exact c_for D.xe S.calm hi (s_T S.calm S.nd D.tg h1) (s_Ss b S D h3) (chkI_pl h2) fun env => by simp only [exS] <;> rfl
      | cons _ _ => simp [chkS] at h
    | _ => simp [chkS] at h
  | .pas, X, st, S, D, h => by
    cases st with
    | Pass p => exact c_pas fun env => by simp only [exS]
    | _ => simp [chkS] at h
  | .brk, X, st, S, D, h => by
    cases st with
    | Break p => exact c_brk fun env => by simp only [exS]
    | _ => simp [chkS] at h
  | .con, X, st, S, D, h => by
    cases st with
    | Continue p => exact c_con fun env => by simp only [exS]
    | _ => simp [chkS] at h
  | .rse, X, st, S, D, h => c_none fun env => by simp only [exS]
theorem s_Ss : ∀ (l : List Sx) {X : Cx} {st : List Stmt}, SOk T F k X → DOk X → chkSs T.toTb X.N X.env.scope l st = true → PSs X st (tSv ⟨X.K, T.fa⟩ (exL F T.gl l))
  | [], X, st, S, D, h => by
    cases st with
    | nil => exact c_snil fun env => by simp only [exL]
    | cons _ _ => simp [chkSs] at h
  | s :: l, X, st, S, D, h => by
    cases st with
    | nil => simp [chkSs] at h
    | cons t r =>
      simp only [chkSs, Bool.and_eq_true] at h
      exact c_scons (s_S s S D h.1) (s_Ss l S D h.2) fun env => by simp only [exL] <;> rfl
end
end
end PL
set_option maxHeartbeats 8000000
namespace PL
open PySem PySem.Spec PyProof.Rows L2
/-! ### defs -/
section
variable {P : Program} {w : World} {K : PySem.W.Frag} {mg : Str → Option Value} {base : Heap}
theorem fnG_ok {x qual : Str} {st : Stmt} {f : Addr} {fd : FuncData} {N ps : List Str} {k : Nat} {sp : Sp} (F : Fun K x qual st f fd) (S : FnScope N ps (defScope st)) (len : ∀ vs H Q E, sp vs H Q E → vs.length = ps.length)
    (body : ∀ (cdv : Value) (A : Around) (out : List Env) (s : Shared) (H : Hp) (vs : List V) (Q : VK) (E : XK), Room k (A.deeper (envOfC qual (defScope st) s.heap.objs.size f cdv)) → A.guards = some [] → sp vs H Q E →
      ∃ t, PSs (cxOf CX0 P w K mg base N qual (defScope st) f cdv A out s H E).nox (defBody st) t ∧ t { nx := fun _ H' => Q .non H', rt := Q } (L2.start N vs) H) : FnG P w K mg base (k + 1) f fd ps sp := by
  obtain ⟨oc, od, kV, doc, pm, an, cdv, ct, osl, rfl, lk, hcd⟩ := F.ex
  refine ⟨len, fun A out s H as us vs Q E hr hg e0 hb r hsp => ?_⟩
  have hl := len _ _ _ _ hsp
  have kin : K.In s.heap := e0.mod.kin.keeps fun b o e => (e0.bs b o e).1
  have lim : s.heap.NoLimit := e0.mod.nolimit.keeps fun b o e => (e0.bs b o e).1
  have kinds : ∀ y ∈ ps.zip us, (defScope st).names.lookup y.1 = some .local ∨ ((defScope st).names.lookup y.1 = some .cell ∧ ((cellsFrom (s.heap.objs.size + 1) (defScope st).names []).lookup y.1).isSome = true) := fun ⟨n, v⟩ hy =>
    (S.par n (List.of_mem_zip hy).1).elim .inl fun q => .inr ⟨q, PySem.W.cellsFrom_some _ _ _ (.inl q)⟩
  refine codeAny_call_function hr.depth (kin _ _ lk) rfl S.co S.gen rfl (PySem.W.codeRec_of kin hcd) (hb _ _ _ _ (wpAny_newFunctionEnv_cells S.kind kinds fun env he s1 x => ?_))
  subst he
  obtain ⟨t, ht, hq⟩ := body cdv A out s H vs Q E (hr.deeper _) hg hsp
  refine ⟨lim.keeps x.toInCall.keep, codeAny_func (wpAny_mono (ht.nox.run [] s1 (L2.start N vs) H _ (inv_start S hr.hd e0 hl r x) hq) (fun fl s' hs => ?_) fun e s' hs => hs)⟩
  cases fl with
  | ret u =>
    obtain ⟨v, σ', H', J, rv, q⟩ := hs
    exact ⟨v, H', J.os, J.bare, J.base, J.hok, rv, q⟩
  | next =>
    obtain ⟨σ', H', J, q⟩ := hs
    exact ⟨V.non, H', J.os, J.bare, J.base, J.hok, rfl, q⟩
  | brk =>
    obtain ⟨_, _, _, q⟩ := hs
    exact False.elim q
  | cont =>
    obtain ⟨_, _, _, q⟩ := hs
    exact False.elim q
end
/-! ### from the slots at a call to those of the body, and back -/
theorem parB_at : ∀ {as fin : List Sl}, parB as fin = true → ∀ (i : Nat) (d : D), as[i]? = some (.p d) → ∃ d', fin[i]? = some (.p d')
  | [], _, _, i, d, h => by simp at h
  | s :: as, fin, h, i, d, e => by
    have tl : parB as fin.tail = true := by
      cases s with
      | p x => cases fin with
        | nil => simp [parB] at h
        | cons y fin => cases y <;> simp [parB] at h; exact h
      | n => cases fin <;> exact h
      | v x => cases fin <;> exact h
      | o x => cases fin <;> exact h
    cases i with
    | zero =>
      simp only [List.getElem?_cons_zero, Option.some.injEq] at e
      subst e
      cases fin with
      | nil => simp [parB] at h
      | cons y fin =>
        cases y <;> simp [parB] at h
        exact ⟨_, rfl⟩
    | succ i =>
      obtain ⟨d', q⟩ := parB_at tl i d (by simpa using e)
      refine ⟨d', ?_⟩
      cases fin with
      | nil => simp at q
      | cons y fin => simpa using q
section
variable {C : Ct} {B : Addr → Prop} {H H' : Hp} {vs : List V} {as : List Sl} {env' : En} {v : V} {r : R} {N : List Str} {m : Nat}
theorem st_get {i : Nat} {w : V} (h : (L2.start N vs)[i]? = some (some w)) : (vs.map some)[i]? = some (some w) := by
  unfold L2.start at h
  by_cases hi : i < (vs.map some).length
  · rwa [List.getElem?_append_left hi] at h
  · rw [List.getElem?_append_right (by omega), List.getElem?_replicate] at h
    split at h <;> cases h
theorem st_get' {i : Nat} {w : Option V} (h : (vs.map some)[i]? = some w) : (L2.start N vs)[i]? = some w := by
  unfold L2.start
  rw [List.getElem?_append_left (List.getElem?_eq_some_iff.mp h).1]
  exact h
theorem ex_get {i : Nat} {s : Sl} (h : (as ++ List.replicate m Sl.n)[i]? = some s) : s = .n ∨ as[i]? = some s := by
  by_cases hi : i < as.length
  · rw [List.getElem?_append_left hi] at h
    exact .inr h
  · rw [List.getElem?_append_right (by omega), List.getElem?_replicate] at h
    split at h
    · cases h; exact .inl rfl
    · cases h
theorem ex_get' {i : Nat} {s : Sl} (h : as[i]? = some s) : (as ++ List.replicate m Sl.n)[i]? = some s := by
  rw [List.getElem?_append_left (List.getElem?_eq_some_iff.mp h).1]
  exact h
theorem own_ex : ∀ a, Own (L2.start N vs) (as ++ List.replicate m Sl.n) a ↔ Own (vs.map some) as a := fun a => by
  constructor
  · rintro ⟨i, d, h, e⟩
    refine ⟨i, d, ?_, st_get e⟩
    rcases h with h | h
    · rcases ex_get h with z | z
      · cases z
      · exact .inl z
    · rcases ex_get h with z | z
      · cases z
      · exact .inr z
  · rintro ⟨i, d, h, e⟩
    exact ⟨i, d, h.imp ex_get' ex_get', st_get' e⟩
theorem EnvR.enter (E : EnvR C (Gc H vs as) B H (vs.map some) as) (hm : (L2.start N vs).length = (as ++ List.replicate m Sl.n).length) : EnvR C (Gc H vs as) B H (L2.start N vs) (as ++ List.replicate m Sl.n) := by
  have sub : ∀ b, AA B (L2.start N vs) (as ++ List.replicate m Sl.n) b → AA B (vs.map some) as b := fun b z => z.elim .inl fun z => .inr ((own_ex b).mp z)
  have mv : Mv (AA B (vs.map some) as) (AA B (L2.start N vs) (as ++ List.replicate m Sl.n)) H H := .sub sub
  refine ⟨hm, fun i d h => ?_, fun i d h => ?_, fun i d h => ?_, fun i j a d e p q => ?_, E.bdom, fun a z y => E.bdis a z ((own_ex a).mp y), E.ent⟩
  · rcases ex_get h with z | z
    · cases z
    · obtain ⟨w, e, rr⟩ := E.val i d z
      exact ⟨w, st_get' e, rr.mv mv⟩
  · rcases ex_get h with z | z
    · cases z
    · obtain ⟨w, e, rr, g⟩ := E.own i d z
      exact ⟨w, st_get' e, rr.mv mv fun _ => id, g⟩
  · rcases ex_get h with z | z
    · cases z
    · obtain ⟨w, e, rr, g⟩ := E.par i d z
      exact ⟨w, st_get' e, rr.mv mv fun _ => id, g⟩
  · have dn : ∀ {i : Nat} {b : Addr} {x : D}, IsOw (L2.start N vs) (as ++ List.replicate m Sl.n) i b x → IsOw (vs.map some) as i b x := fun {i b x} h => by
      refine ⟨?_, st_get h.2⟩
      rcases h.1 with h | h
      · rcases ex_get h with z | z
        · cases z
        · exact .inl z
      · rcases ex_get h with z | z
        · cases z
        · exact .inr z
    exact E.inj i j a d e (dn p) (dn q)
theorem ret_of {σ : L2.St} (E : EnvR C (Gc H vs as) B H (vs.map some) as) (hσ : σ = L2.start N vs) (hp : parB as env' = true) {np : Nat} (hl : as.length = np) (h : RtOk C (Gc H vs as) B H σ (as ++ List.replicate m Sl.n) env' H' v r) :
    Ret C B H (vs.map some) as (env'.take np) r H' v := by
  subst hσ
  obtain ⟨σ', e2, S, keep, q⟩ := h
  -- the lists of the caller
  have par : ∀ {B2 : Addr → Prop} (E2 : EnvR C (Gc H vs as) B2 H' σ' e2) (i : Nat) (d : D), as[i]? = some (.p d) → ∃ a d', (vs.map some)[i]? = some (some (.ref a)) ∧ (env'.take np)[i]? = some (.p d') ∧ IsOw σ' e2 i a d' ∧ OwnAt C (AA B2 σ' e2) H' a d' := fun {B2} E2 i d e => by
    obtain ⟨d', e1⟩ := parB_at hp i d e
    obtain ⟨a, q1, q2, q3, _⟩ := E2.par i d' (keep i d' e1)
    refine ⟨a, d', q3, ?_, ⟨.inr (keep i d' e1), q1⟩, q2⟩
    rw [List.getElem?_take_of_lt (by rw [← hl]; exact (List.getElem?_eq_some_iff.mp e).1)]
    exact e1
  have own : ∀ {B2 : Addr → Prop} (E2 : EnvR C (Gc H vs as) B2 H' σ' e2) (b : Addr), Own (vs.map some) as b → Own σ' e2 b := fun {B2} E2 b ⟨i, d, h, e⟩ => by
    rcases h with h | h
    · obtain ⟨a, e', o, g⟩ := E.own i d h
      exact absurd g o.dom
    · obtain ⟨a, d', q1, _, q2, _⟩ := par E2 i d h
      rw [e] at q1
      cases q1
      exact ⟨i, d', q2⟩
  have mv : ∀ {B2 : Addr → Prop} (E2 : EnvR C (Gc H vs as) B2 H' σ' e2), (∀ b, B b → B2 b) → Mv (AA B2 σ' e2) (AA B (vs.map some) as) H' H' := fun E2 hb => .sub fun b z => z.elim (fun q => .inl (hb b q)) fun q => .inr (own E2 b q)
  refine ⟨fun b o e n => S.fr b o e fun z => n ((own_ex b).mp z), S.dom, ?_⟩
  rcases q with ⟨d, rfl, E2, rr⟩ | ⟨p, d, rfl, rfl, g, nb, E2, o⟩
  · refine ⟨_, .v (rr.mv (mv E2 fun _ => id)), fun i d e => ?_⟩
    obtain ⟨a, d', q1, q2, q3, q4⟩ := par E2 i d e
    exact ⟨a, d', q1, q2, q4.mv (mv E2 fun _ => id) fun _ => id⟩
  · have mp : Mv (AA (Plus B p) σ' e2) (Plus (AA B (vs.map some) as) p) H' H' := .sub fun b z => by
      rcases z with (z | z) | z
      · exact .inl (.inl z)
      · exact .inr (own E2 b z)
      · exact .inl (.inr z)
    refine ⟨_, .f g (o.mv mp fun _ => id), fun i d e => ?_⟩
    obtain ⟨a, d', q1, q2, q3, q4⟩ := par E2 i d e
    exact ⟨a, d', q1, q2, q4.mv mp fun _ => id⟩
end
end PL
set_option maxHeartbeats 8000000
namespace PL
open PySem PySem.Spec PyProof.Rows L2
/-! ### all defs of a text -/
structure Dfs (T : Tab) (P : List Df) (K : PySem.W.Frag) (mg : Str → Option Value) : Prop where
  gl : ∀ x d, T.gl x = some d → ∃ u v, mg x = some u ∧ RelV v u ∧ ∀ A H, Rp ⟨K, T.fa⟩ A H v d
  bl : ∀ x, x ∈ T.bl → mg x = none
  np : ∀ (n : Nat) (df : Df), P[n]? = some df → T.np n = df.np
  fn : ∀ n x, T.fn n = some x → ∃ (f : Addr) (fd : FuncData) (st : Stmt) (N ps : List Str) (df : Df), T.fa n = some f ∧ mg x = some (.ref f) ∧ Binds K fd ps [] ∧ Fun K x x st f fd ∧ FnScope N ps (defScope st) ∧
    P[n]? = some df ∧ df.np = ps.length ∧ df.nn = N.length ∧ chkSs T.toTb N (defScope st) df.body (defBody st) = true
section
variable {T : Tab} {P : List Df} {K : PySem.W.Frag} {mg : Str → Option Value} {Pg : Program} {w : World} {base : Heap}
theorem callF_np (D : Dfs T P K mg) : ∀ k n as r fin, callF P T.gl k n as = some (r, fin) → as.length = T.np n
  | 0, _, _, _, _, h => by simp only [callF] at h; cases h
  | k + 1, n, as, r, fin, h => by
    simp only [callF] at h
    split at h
    · rename_i df q
      split at h
      · rename_i hl
        rw [hl, D.np n df q]
      · cases h
    · cases h
theorem fns (D : Dfs T P K mg) : ∀ k n x, T.fn n = some x → ∃ (f : Addr) (fd : FuncData) (ps : List Str), T.fa n = some f ∧ mg x = some (.ref f) ∧ PySem.W.keepIn K (.ref f) = true ∧ Binds K fd ps [] ∧
    FnG Pg w K mg base k f fd ps (spF ⟨K, T.fa⟩ (callF P T.gl k) n (T.np n))
  | 0, n, x, h => by
    obtain ⟨f, fd, st, N, ps, df, h1, h2, h3, h4, _⟩ := D.fn n x h
    refine ⟨f, fd, ps, h1, h2, h4.kp, h3, ⟨fun vs H Q E ⟨B, as, fin, r, _, _, z, _⟩ => ?_, fun A out s H as us vs Q E _ _ _ _ _ ⟨B, as', fin, r, _, _, z, _⟩ => ?_⟩⟩
    · simp only [callF] at z; cases z
    · simp only [callF] at z; cases z
  | k + 1, n, x, h => by
    obtain ⟨f, fd, st, N, ps, df, h1, h2, h3, h4, h5, h6, h7, h8, h9⟩ := D.fn n x h
    refine ⟨f, fd, ps, h1, h2, h4.kp, h3, fnG_ok h4 h5 (fun vs H Q E ⟨B, as, fin, r, E0, hl, z, _⟩ => ?_) (fun cdv A out s H vs Q E hr hg ⟨B, as, fin, r, E0, hl, z, q⟩ => ?_)⟩
    · have := E0.len
      rw [List.length_map] at this
      rw [this, hl, D.np n df h6, h7]
    · have hl' : as.length = df.np := hl.trans (D.np n df h6)
      have hvl : vs.length = as.length := by
        have := E0.len
        rwa [List.length_map] at this
      have S : SOk T (callF P T.gl k) k (cxOf CX0 Pg w K mg base N x (defScope st) f cdv A out s H E).nox := ⟨rfl, h5.nd, hg, hr, D.gl, D.bl, fun n x h => fns D k n x h⟩
      have hk : Env.blockKind (cxOf CX0 Pg w K mg base N x (defScope st) f cdv A out s H E).nox.env = .function := by
        show (if (defScope st).kind.isAnnotationScope then ScopeKind.function else (defScope st).kind) = _
        rw [h5.kind]
        rfl
      have run := s_Ss (callF_np D k) df.body S ⟨rfl, fun _ => rfl, hk⟩ h9
      refine ⟨_, run, Gc H vs as, B, as ++ List.replicate (df.nn - df.np) Sl.n, ?_⟩
      have hm : (L2.start N vs).length = (as ++ List.replicate (df.nn - df.np) Sl.n).length := by
        unfold L2.start
        rw [List.length_append, List.length_append, List.length_map, List.length_replicate, List.length_replicate, hvl, h8, hl']
      have E1 := E0.enter (N := N) hm
      simp only [callF, h6] at z
      rw [if_pos hl'] at z
      split at z
      · rename_i r' env' hx
        split at z
        · rename_i hp
          cases z
          exact ⟨_, _, E1, hx, fun v H' hv => q v H' (by
            have := ret_of (N := N) E0 rfl hp hl' hv
            exact this)⟩
        · cases z
      · rename_i env' hx
        split at z
        · rename_i hp
          cases z
          exact ⟨_, _, E1, hx, fun σ' H' S' E' => q .non H' (by
            have := ret_of (N := N) (v := .non) (r := .v .non) E0 rfl hp hl' ⟨σ', env', S', fun _ _ z => z, .inl ⟨_, rfl, E', .non⟩⟩
            exact this)⟩
        · cases z
      · cases z
/-- the law's def at the script -/
theorem law_spF {F : FT} {L : Nat} {a : Addr} {ns : List Int} {H : Hp} {fin : List Sl} (hO : Only H) (hS : SqL K H a (ns.map V.int)) (hF : F L [.v (.rol (ns.map D.int))] = some (.v (.bl true), fin)) :
    spF ⟨K, T.fa⟩ F L 1 [.ref a] H (fun v _ => v = .bl true) fun _ _ _ => False := by
  have hr : ∀ {A : Addr → Prop} {H : Hp} (l : List Int), RpL ⟨K, T.fa⟩ A H (l.map V.int) (l.map D.int) := fun {A H} l => by
    induction l with
    | nil => exact .nil
    | cons x r ih => exact .cons (.int x) ih
  have rp : ∀ {A : Addr → Prop}, ¬ A a → Rp ⟨K, T.fa⟩ A H (.ref a) (.rol (ns.map D.int)) := fun {A} n => by
    rcases hS with (z | ⟨o, z⟩) | z
    · rcases hO a with y | ⟨o, xs, y⟩
      · rw [z] at y; cases y
      · rw [z] at y; cases y
    · exact .rol z n (hr ns)
    · exact .rolK z (hr ns)
  have no : ∀ b, ¬ AA (fun _ => False) (List.map some [V.ref a]) [Sl.v (.rol (ns.map D.int))] b := fun b z => by
    rcases z with z | ⟨i, d, z, _⟩
    · exact z
    · cases i with
      | zero => simp at z
      | succ i => simp at z
  refine ⟨fun _ => False, [.v (.rol (ns.map D.int))], fin, .v (.bl true), ⟨rfl, fun i d h => ?_, fun i d h => ?_, fun i d h => ?_, fun i j b d e p _ => ?_, fun b z => z.elim, fun b z => z.elim, fun b z => z⟩, rfl, hF, fun v H' R => ?_⟩
  · cases i with
    | zero =>
      simp only [List.getElem?_cons_zero, Option.some.injEq, Sl.v.injEq] at h
      subst h
      exact ⟨.ref a, rfl, rp (no a)⟩
    | succ i => simp at h
  · cases i <;> simp at h
  · cases i <;> simp at h
  · exact absurd ⟨i, d, p⟩ fun z => no b (.inr z)
  · obtain ⟨A', q, _⟩ := R.ret
    cases q with
    | v q => cases q; rfl
end
end PL
set_option maxHeartbeats 8000000
namespace PL
open PySem PySem.Spec PyProof.Rows L2
/-! ### the law -/
abbrev Told (s t : Shared) (r : Except Value Flow) : Prop := r = .ok (.ret (.bool true)) ∧ OldK s.heap t.heap ∧ t.os = s.os ∧ AllBare t.gens
theorem law_at {Pg : Program} {w : World} {K : PySem.W.Frag} {mg mb : Str → Option Value} {k : Nat} {f a : Addr} {sp : Sp} {s : Shared} {us : List Value} {ns : List Int}
    (kin : K.In s.heap) (ng : s.heap.Ns mainGlobals mg) (nb : s.heap.Ns builtinsNs mb) (boot : ∀ x : Str, x ≠ "__name__" → mb x = bootBuiltins x) (lim : s.heap.NoLimit) (g0 : s.gens = #[])
    (at_a : s.heap.get? a = some { cls := .type "list", data := .seq us.toArray }) (iv : IntsAre us ns) (short : ns.length ≤ sizeLine) (room : Room k callerA)
    (fn : ∀ base : Heap, ∃ (fd : FuncData) (ps : List Str), Binds K fd ps [] ∧ FnG Pg w K mg base k f fd ps sp)
    (goal : ∀ H : Hp, Only H → SqL K H a (ns.map V.int) → sp [.ref a] H (fun v _ => v = .bl true) fun _ _ _ => False) :
    codeAny (model Pg w) callerA (.call (.ref f) ⟨[.ref a], []⟩) (fun r t => Told s t r) s := by
  have vals := vals_ints iv
  -- the same, over any heap that tracks at most the script
  have over : ∀ H : Hp, Only H → SqL K H a (ns.map V.int) → HOk Pg w H s.heap → (∀ b, H b ≠ none → b = a) → (H a ≠ none → K.lookup a = none) → codeAny (model Pg w) callerA (.call (.ref f) ⟨[.ref a], []⟩) (fun r t => Told s t r) s := by
    intro H only seq ok dom free
    have seen : ∀ {b : Addr} {o : Obj}, s.heap.get? b = some o → (H b ≠ none → False) → (hidT s.heap H).get? b = some o := fun {b o} e n => hidT_get e (by
      cases q : H b with
      | none => rfl
      | some u => exact (n (by rw [q]; exact fun z => nomatch z)).elim)
    have dict : ∀ {b : Addr} {m : Str → Option Value}, s.heap.Ns b m → (hidT s.heap H).Ns b m := fun {b m} ⟨o, es, ep, e, d, r⟩ => by
      have h0 : H b ≠ none → False := fun n => by
        cases dom b n
        rw [at_a] at e
        cases e
        have d' : Data.seq us.toArray _ = Data.dict es ep := d
        cases d'
      exact ⟨o, es, ep, seen e h0, d, r⟩
    have kb : K.In (hidT s.heap H) := fun b o e => seen (kin b o e) fun n => by
      cases dom b n
      rw [free n] at e
      cases e
    have md : Mod K mg (hidT s.heap H) := ⟨kb, dict ng, ⟨mb, dict nb, boot⟩, lim.imp fun mc z => ⟨dict z.1, z.2⟩⟩
    have no : ∀ b : Addr, b ∉ ([] : List Addr) := fun b z => nomatch z
    have e0 : Env0 Pg w K mg (hidT s.heap H) callerA [] s H := ⟨rfl, md, fun b o e => of_hidT e, Nat.le_of_eq (hidT_size _ _), trivial, fun b z => absurd z (no b), ok, .of_eq g0⟩
    obtain ⟨fd, ps, bnd, F⟩ := fn (hidT s.heap H)
    have one : 1 = ps.length := F.len _ _ _ _ (goal H only seq)
    have bd := bnd s [.ref a] kin (by rw [← one]; rfl)
    refine codeAny_mono (F.go callerA [] s H ⟨[.ref a], []⟩ [.ref a] [.ref a] _ _ room rfl e0 (by simpa using bd) (.cons rfl .nil) (goal H only seq)) fun r t h => ?_
    match r, h with
    | .ok (.ret u), h =>
      obtain ⟨v, H', os, bare, un, ok', rv, q⟩ := h
      have q' : v = .bl true := q
      subst q'
      obtain rfl : u = Value.bool true := rv
      refine ⟨rfl, OldK.of_keep fun b o e => ?_, os, bare⟩
      rcases only b with z | ⟨o1, xs, z⟩
      · exact un.keep b o e z (no b) (by simp)
      · have before := (ok b _ z).1
        have after := (ok' b _ (un.frzs b o1 _ z)).1
        rw [e] at before
        cases before
        exact after
  cases kept : K.lookup a with
  | some o =>
    have same := kin a o kept
    rw [at_a] at same
    cases same
    exact over (fun _ => none) (fun _ => .inl rfl) (.inr ⟨_, us.toArray, _, kept, rfl, rfl, rfl, by rw [List.size_toArray, iv.length]; exact short, by simpa using vals⟩) (fun b u z => nomatch (show (none : Option HO) = some u from z)) (fun b z => absurd rfl z) fun z => absurd rfl z
  | none =>
    have hit : ∀ {b : Addr}, (fun b => if b = a then some (HO.frz { cls := .type "list", data := .seq us.toArray } (.lst (ns.map V.int))) else none) b ≠ none → b = a := fun {b} z => by
      by_cases hb : b = a
      · exact hb
      · exact absurd (if_neg hb) z
    refine over (fun b => if b = a then some (.frz { cls := .type "list", data := .seq us.toArray } (.lst (ns.map V.int))) else none) (fun b => ?_) (.inl (.inr ⟨_, if_pos rfl⟩)) (fun b u z => ?_) (fun b z => hit z) fun _ => kept
    · by_cases hb : b = a
      · exact .inr ⟨_, _, if_pos hb⟩
      · exact .inl (if_neg hb)
    · have hb := hit (b := b) (by rw [show _ = some u from z]; exact fun y => nomatch y)
      subst hb
      cases (if_pos rfl).symm.trans z
      exact ⟨at_a, by rw [List.length_map]; exact short, us, _, vals, at_a⟩
/-- THE END: from the defs and the plain fact -/
theorem law_walk {l : PySem.W.OpenLaw} {n k L : Nat} {q : Program} {loose : List Str} {XP : (Str → Option Value) → Heap → Prop} {YP : World → Heap → Prop} {d : DefRec} {K : Params → PySem.W.Frag} {B : Tb} {P : List Df}
    (most : l.most = some n) (small : n ≤ sizeLine) (dflt : d.params.defaults = []) (room : Room k callerA)
    (kin : ∀ (w : World) (h : Heap), YP w h → (K w.params).In h) (hL : B.fn L = some d.name) (h1 : B.np L = 1)
    (defs : ∀ (w : World) (mg : Str → Option Value) (h : Heap), (K w.params).In h → h.Ns mainGlobals mg → XP mg h → ∃ fa, Dfs ⟨B, fa⟩ P (K w.params) mg)
    (plain : ∀ ns : List Int, ns.length ≤ n → ∃ fin, callF P B.gl k L [.v (.rol (ns.map D.int))] = some (.v (.bl true), fin)) :
    PySem.W.WalkO q loose XP YP l.row.toRowW d [] (fun f vs => PySem.call f vs) := by
  refine Att.attach_call most dflt fun w s0 s mg mb fa o pm cd doc a us ns G Y ho hd hcd hmg at_a iv len g0 => ?_
  have hk := kin w _ Y
  obtain ⟨ad, D⟩ := defs w mg _ hk G.T.g G.X
  refine law_at (sp := spF ⟨K w.params, ad⟩ (callF P B.gl k) L 1) hk G.T.g G.T.b G.T.builtins G.T.nolimit g0 at_a iv (Nat.le_trans len small) room (fun base => ?_) fun H only seq => ?_
  · obtain ⟨f, fd, ps, q1, q2, q3, q4, q5⟩ := fns (Pg := l.prog) (w := w) (base := base) D k L d.name hL
    have q2' := hmg.symm.trans q2
    cases q2'
    have q5' : FnG l.prog w (K w.params) mg base k fa fd ps (spF ⟨K w.params, ad⟩ (callF P B.gl k) L (B.np L)) := q5
    rw [h1] at q5'
    exact ⟨fd, ps, q4, q5'⟩
  · obtain ⟨fin, h⟩ := plain ns len
    exact law_spF (T := ⟨B, ad⟩) only seq h
end PL
set_option maxHeartbeats 8000000
namespace PL
open PySem PySem.Spec PyProof.Rows L2
/-! ### a text's table, piece by piece -/
def GlAt (K : PySem.W.Frag) (fa : Nat → Option Addr) (mg : Str → Option Value) (x : Str) (d : D) : Prop := ∃ u v, mg x = some u ∧ RelV v u ∧ ∀ A H, Rp ⟨K, fa⟩ A H v d
structure GlAll (K : PySem.W.Frag) (fa : Nat → Option Addr) (mg : Str → Option Value) (l : List (Str × D)) : Prop where
  at_ : ∀ p ∈ l, GlAt K fa mg p.1 p.2
theorem lookup_mem : ∀ {l : List (Str × D)} {x : Str} {d : D}, l.lookup x = some d → (x, d) ∈ l
  | [], _, _, h => by cases h
  | (y, e) :: r, x, d, h => by
    rw [List.lookup_cons] at h
    split at h
    · rename_i q
      cases h
      rw [eq_of_beq q]
      exact List.mem_cons_self
    · exact List.mem_cons_of_mem _ (lookup_mem h)
section
variable {K : PySem.W.Frag} {fa : Nat → Option Addr} {mg : Str → Option Value} {h : Heap} {x : Str} {d : D} {l : List (Str × D)}
theorem GlAll.nil : GlAll K fa mg [] := ⟨fun _ z => nomatch z⟩
theorem GlAll.cons (a : GlAt K fa mg x d) (r : GlAll K fa mg l) : GlAll K fa mg ((x, d) :: l) := ⟨fun p hp => by
  rcases List.mem_cons.mp hp with z | z
  · rw [z]; exact a
  · exact r.at_ p z⟩
theorem gl_str {z : Str} {t : Tok} (kin : K.In h) (ns : h.Ns mainGlobals mg) (a : PySem.W.nsIn K mainGlobals x = some (some (.str z t))) : GlAt K fa mg x (.str z) := ⟨_, .str z, PySem.W.mg_of kin ns a, ⟨_, rfl⟩, fun _ _ => .str z⟩
theorem gl_int {z : Int} {t : Tok} (kin : K.In h) (ns : h.Ns mainGlobals mg) (a : PySem.W.nsIn K mainGlobals x = some (some (.int z t))) : GlAt K fa mg x (.int z) := ⟨_, .int z, PySem.W.mg_of kin ns a, ⟨_, rfl⟩, fun _ _ => .int z⟩
theorem gl_bool {z : Bool} (kin : K.In h) (ns : h.Ns mainGlobals mg) (a : PySem.W.nsIn K mainGlobals x = some (some (.bool z))) : GlAt K fa mg x (.bl z) := ⟨_, .bl z, PySem.W.mg_of kin ns a, rfl, fun _ _ => .bl z⟩
theorem gl_none (kin : K.In h) (ns : h.Ns mainGlobals mg) (a : PySem.W.nsIn K mainGlobals x = some (some .none)) : GlAt K fa mg x .non := ⟨_, .non, PySem.W.mg_of kin ns a, rfl, fun _ _ => .non⟩
theorem gl_loose {z : Int} {lv : List (Str × PySem.W.WData)} {q : Program} (X : PySem.W.XL q lv mg h) (m : (x, PySem.W.WData.int z) ∈ lv) : GlAt K fa mg x (.int z) := by
  obtain ⟨v, a, r⟩ := X.2.val _ m
  cases r
  exact ⟨_, .int z, a, ⟨_, rfl⟩, fun _ _ => .int z⟩
end
structure AllL (p : Nat → Str → Prop) (n : Nat) (l : List Str) : Prop where
  at_ : ∀ i x, l[i]? = some x → p (n + i) x
theorem AllL.nil {p : Nat → Str → Prop} {n : Nat} : AllL p n [] := ⟨fun i x h => by simp at h⟩
theorem AllL.cons {p : Nat → Str → Prop} {n : Nat} {x : Str} {l : List Str} (a : p n x) (r : AllL p (n + 1) l) : AllL p n (x :: l) := ⟨fun i y h => by
  cases i with
  | zero =>
    simp only [List.getElem?_cons_zero, Option.some.injEq] at h
    subst h
    exact a
  | succ i =>
    have := r.at_ i y (by simpa using h)
    rwa [show n + 1 + i = n + (i + 1) by omega] at this⟩
abbrev OneFn (B : Tb) (fa : Nat → Option Addr) (P : List Df) (K : PySem.W.Frag) (mg : Str → Option Value) (n : Nat) (x : Str) : Prop :=
  ∃ (f : Addr) (fd : FuncData) (st : Stmt) (N ps : List Str) (df : Df), fa n = some f ∧ mg x = some (.ref f) ∧ Binds K fd ps [] ∧ Fun K x x st f fd ∧ FnScope N ps (defScope st) ∧
    P[n]? = some df ∧ df.np = ps.length ∧ df.nn = N.length ∧ chkSs B N (defScope st) df.body (defBody st) = true
theorem one_fn {B : Tb} {fa : Nat → Option Addr} {P : List Df} {K : PySem.W.Frag} {mg : Str → Option Value} {h : Heap} {n : Nat} {x : Str} {st : Stmt} {N ps : List Str} {df : Df} {f : Addr} {oc : Value} {od an : Option Addr} {osl : Array (Option Value)} {kV doc pm cdv ct : Value}
    (kin : K.In h) (ns : h.Ns mainGlobals mg) (S : FnScope N ps (defScope st)) (hP : P[n]? = some df) (hnp : df.np = ps.length) (hnn : df.nn = N.length) (chk : chkSs B N (defScope st) df.body (defBody st) = true)
    (bind : ∀ (kV doc pm : Value) (an : Option Addr) (cdv ct : Value) (us : List Value), us.length = ps.length → bindArgs (PySem.W.fnOf x x (defArgs st) (defBody st) (defScope st) .none kV doc pm an cdv ct) ⟨us, []⟩ = pure (ps.zip us))
    (hf : fa n = some f) (a : PySem.W.nsIn K mainGlobals x = some (some (.ref f)))
    (lk : K.lookup f = some ⟨oc, od, .func (PySem.W.fnOf x x (defArgs st) (defBody st) (defScope st) .none kV doc pm an cdv ct), osl⟩) (c : PySem.W.codeIn K cdv x = true) (kp : PySem.W.keepIn K (.ref f) = true) : OneFn B fa P K mg n x := by
  have F := fun_mk (st := st) lk c kp
  exact ⟨f, _, st, N, ps, df, hf, PySem.W.mg_of kin ns a, F.binds bind, F, S, hP, hnp, hnn, chk⟩
theorem dfs_mk {gl : List (Str × D)} {names bl : List Str} {P : List Df} {K : PySem.W.Frag} {fa : Nat → Option Addr} {mg : Str → Option Value} (g : GlAll K fa mg gl) (b : ∀ x ∈ bl, mg x = none)
    (f : AllL (OneFn ⟨fun n => names[n]?, fun n => ((P[n]?).map Df.np).getD 0, fun x => gl.lookup x, bl⟩ fa P K mg) 0 names) : Dfs ⟨⟨fun n => names[n]?, fun n => ((P[n]?).map Df.np).getD 0, fun x => gl.lookup x, bl⟩, fa⟩ P K mg := by
  refine ⟨fun x d hx => g.at_ _ (lookup_mem hx), b, fun n df hn => ?_, fun n x hx => ?_⟩
  · show ((P[n]?).map Df.np).getD 0 = _
    rw [hn]
    rfl
  · have := f.at_ n x hx
    rwa [Nat.zero_add] at this
theorem bl_all {K : PySem.W.Frag} {mg : Str → Option Value} {h : Heap} (kin : K.In h) (ns : h.Ns mainGlobals mg) {bl : List Str} (a : ∀ x ∈ bl, PySem.W.nsIn K mainGlobals x = some none) : ∀ x ∈ bl, mg x = none := fun x hx => PySem.W.mg_none_of kin ns (a x hx)
end PL
set_option maxHeartbeats 8000000
namespace PL
open PySem PySem.Spec
/-! ### plain runs -/
theorem callF_at {P : List Df} {gl : Str → Option D} {k n : Nat} {as : List Sl} {df : Df} (h : P[n]? = some df) (hl : as.length = df.np) :
    callF P gl (k + 1) n as = match exL (callF P gl k) gl df.body (as ++ List.replicate (df.nn - df.np) .n) with
        | some (.rt r, env) => if parB as env then some (r, env.take df.np) else none
        | some (.nx, env) => if parB as env then some (.v .non, env.take df.np) else none
        | _ => none := by
  simp only [callF, h]
  rw [if_pos hl] <;> rfl
theorem callF_rt {P : List Df} {gl : Str → Option D} {k n : Nat} {as fin : List Sl} {df : Df} {r : R} {env : En} (h : P[n]? = some df) (hl : as.length = df.np)
    (hb : exL (callF P gl k) gl df.body (as ++ List.replicate (df.nn - df.np) .n) = some (.rt r, env)) (hp : parB as env = true) (hf : env.take df.np = fin) : callF P gl (k + 1) n as = some (r, fin) := by
  rw [callF_at h hl, hb]
  simp only [hp, if_true, hf]
theorem callF_nx {P : List Df} {gl : Str → Option D} {k n : Nat} {as fin : List Sl} {df : Df} {env : En} (h : P[n]? = some df) (hl : as.length = df.np)
    (hb : exL (callF P gl k) gl df.body (as ++ List.replicate (df.nn - df.np) .n) = some (.nx, env)) (hp : parB as env = true) (hf : env.take df.np = fin) : callF P gl (k + 1) n as = some (.v .non, fin) := by
  rw [callF_at h hl, hb]
  simp only [hp, if_true, hf]
end PL
set_option maxHeartbeats 8000000
namespace PL
open PySem PySem.Spec L2
theorem log2_lt {a : Int} (h1 : -(2 ^ 200) < a) (h2 : a < 2 ^ 200) : a.natAbs.log2 < 200 := by
  by_cases h : a.natAbs = 0
  · rw [h]; decide
  · exact (Nat.log2_lt h).mpr (by omega)
theorem mul_ok {a b : Int} (h1 : -(2 ^ 200) < a) (h2 : a < 2 ^ 200) (h3 : -(2 ^ 200) < b) (h4 : b < 2 ^ 200) : binD .mul (.int a) (.int b) = some (.v (.int (a * b))) := by
  have := log2_lt h1 h2
  have := log2_lt h3 h4
  simp only [binD]
  rw [if_pos (by omega)]
theorem div_ok {a b : Int} (h3 : 0 < b) (h4 : b < 2 ^ 200) : binD .div (.int a) (.int b) = some (.v (.int (a / b))) := by
  have := log2_lt (a := b) (by omega) h4
  simp only [binD]
  rw [if_pos ⟨h3, by omega⟩]
theorem mod_ok {a b : Int} (h3 : 0 < b) : binD .mod (.int a) (.int b) = some (.v (.int (a % b))) := by
  simp only [binD]
  rw [if_pos h3]
theorem pow_ok {a b : Int} (h1 : 0 ≤ b) (h2 : b ≤ 1000) (h3 : -1000 ≤ a) (h4 : a ≤ 1000) : binD .pow (.int a) (.int b) = some (.v (.int (a ^ b.toNat))) := by
  simp only [binD]
  rw [if_pos ⟨h1, by omega, by omega⟩]
theorem add_ok {a b : Int} : binD .add (.int a) (.int b) = some (.v (.int (a + b))) := by simp only [binD]
theorem sub_ok {a b : Int} : binD .sub (.int a) (.int b) = some (.v (.int (a - b))) := by simp only [binD]
theorem lt_ok {a b : Int} : cmpD .lt (.int a) (.int b) = some (decide (a < b)) := by simp only [cmpD]
theorem le_ok {a b : Int} : cmpD .le (.int a) (.int b) = some (decide (a ≤ b)) := by simp only [cmpD]
theorem gt_ok {a b : Int} : cmpD .gt (.int a) (.int b) = some (decide (b < a)) := by simp only [cmpD]
theorem ge_ok {a b : Int} : cmpD .ge (.int a) (.int b) = some (decide (b ≤ a)) := by simp only [cmpD]
theorem eq_int {a b : Int} : cmpD .eq (.int a) (.int b) = some (decide (a = b)) := by
  have h : eqv (.int a) (.int b) = decide (a = b) := by
    simp only [eqv]
    by_cases z : a = b
    · simp [z]
    · simp [z]
  simp [cmpD, eqD, okE, LV, h]
theorem ne_int {a b : Int} : cmpD .ne (.int a) (.int b) = some (!decide (a = b)) := by
  have h : eqv (.int a) (.int b) = decide (a = b) := by
    simp only [eqv]
    by_cases z : a = b
    · simp [z]
    · simp [z]
  simp [cmpD, eqD, okE, LV, h]
theorem atI_nat' {l : List D} {i : Int} {x : D} (h0 : 0 ≤ i) (h : l[i.toNat]? = some x) : atI l i = some x := by
  have := atI_nat (xs := l) (j := i.toNat) h
  rwa [Int.toNat_of_nonneg h0] at this
/-! ### the hand -/
def hd (cells : List Int) (a b c e : Int) : D := .lst [.lst (cells.map .int), .int a, .int b, .int c, .int e]
def Hok (N : Nat) (d : D) : Prop := ∃ (cells : List Int) (a b c e : Int), d = hd cells a b c e ∧ 0 ≤ a ∧ 0 ≤ c ∧ c < 2147483648 ∧ 0 ≤ e ∧ e ≤ N
theorem Hok.mono {N M : Nat} {d : D} (h : Hok N d) (l : N ≤ M) : Hok M d := by
  obtain ⟨cells, a, b, c, e, h1, h2, h3, h4, h5, h6⟩ := h
  exact ⟨cells, a, b, c, e, h1, h2, h3, h4, h5, by omega⟩
def x1 (z : Bool) : List Sx := [.asg (.nm 2) (.idx (.idx (.v 0) (.k (.int 0))) (.idx (.v 0) (.k (.int 1)))), .sto 0 (.k (.int 1)) (.bin .add (.idx (.v 0) (.k (.int 1))) (.k (.int 1))),
  .sto 0 (.k (.int 3)) (.bin .mod (.bi .int [.bin .add (.bin .add (.bin .mul (.idx (.v 0) (.k (.int 3))) (.k (.int 48271))) (.bin .mul (.bin .mod (if z then .bi .int [.v 2] else .v 2) (.k (.int 2147483629))) (.k (.int 69621)))) (.k (.int 17))]) (.k (.int 2147483629))),
  .ife (.cmp .ge (.v 2) (.bin .pow (.k (.int 10)) (.k (.int 15)))) [.sto 0 (.k (.int 2)) (.v 2)] []]
def c1 : Ex := .and [.cmp .eq (.idx (.v 0) (.k (.int 2))) (.k (.int 0)), .cmp .lt (.idx (.v 0) (.k (.int 1))) (.bi .len [.idx (.v 0) (.k (.int 0))])]
def x2 : List Sx := [.ife (.cmp .gt (.idx (.v 0) (.k (.int 2))) (.k (.int 0))) [.asg (.nm 3) (.bin .mod (.bi .int [.idx (.v 0) (.k (.int 2))]) (.v 1)), .sto 0 (.k (.int 2)) (.bin .div (.bi .int [.idx (.v 0) (.k (.int 2))]) (.v 1)), .ret (.v 3)] [],
  .sto 0 (.k (.int 4)) (.bin .add (.idx (.v 0) (.k (.int 4))) (.k (.int 1))),
  .asg (.nm 4) (.bin .mod (.bi .int [.bin .mul (.bi .int [.bin .add (.idx (.v 0) (.k (.int 3))) (.bin .mul (.k (.int 7919)) (.idx (.v 0) (.k (.int 4))))]) (.k (.int 40692))]) (.k (.int 2147483399))),
  .asg (.nm 4) (.bin .mod (.bi .int [.bin .mul (.v 4) (.bin .add (.bin .div (.v 4) (.k (.int 1009))) (.k (.int 30011)))]) (.k (.int 2147483647))),
  .ret (.bin .mod (.bi .int [.bin .div (.v 4) (.k (.int 32))]) (.v 1))]
def drawB (z : Bool) : List Sx := .ife c1 (x1 z) [] :: x2
section
variable (F : FT) (gl : Str → Option D)
theorem int_ok {a : Int} : biD .int [.int a] = some (.v (.int a)) := by simp only [biD]
theorem ev_k (d : D) (env : En) : ev F gl (.k d) env = some (.v d, env) := by simp only [ev]
theorem run_c1 {cells : List Int} {a b c e m : Int} {s2 s3 s4 : Sl} : toB (ev F gl c1 [.p (hd cells a b c e), .v (.int m), s2, s3, s4]) = some (decide (b = 0) && decide (a < cells.length), [.p (hd cells a b c e), .v (.int m), s2, s3, s4]) := by
  simp [c1, ev, evAnd, evs, rd, lk, hd, idxD, atI, ixN, eq_int, unf, rds, biD, lt_ok]
  by_cases h : b = 0 <;> simp [h, toB, rd]
theorem md1 {a : Int} : binD .mod (.int a) (.int 2147483629) = some (.v (.int (a % 2147483629))) := mod_ok (by decide)
theorem md2 {a : Int} : binD .mod (.int a) (.int 2147483399) = some (.v (.int (a % 2147483399))) := mod_ok (by decide)
theorem md3 {a : Int} : binD .mod (.int a) (.int 2147483647) = some (.v (.int (a % 2147483647))) := mod_ok (by decide)
theorem dv1 {a : Int} : binD .div (.int a) (.int 1009) = some (.v (.int (a / 1009))) := div_ok (by decide) (by decide)
theorem dv2 {a : Int} : binD .div (.int a) (.int 32) = some (.v (.int (a / 32))) := div_ok (by decide) (by decide)
theorem pw1 : binD .pow (.int 10) (.int 15) = some (.v (.int 1000000000000000)) := by rw [pow_ok (by decide) (by decide) (by decide) (by decide)]; rfl
theorem hd0 {cells : List Int} {a b c e : Int} : idxD (hd cells a b c e) (.int 0) = some (.lst (cells.map .int)) := rfl
theorem hd1 {cells : List Int} {a b c e : Int} : idxD (hd cells a b c e) (.int 1) = some (.int a) := rfl
theorem hd2 {cells : List Int} {a b c e : Int} : idxD (hd cells a b c e) (.int 2) = some (.int b) := rfl
theorem hd3 {cells : List Int} {a b c e : Int} : idxD (hd cells a b c e) (.int 3) = some (.int c) := rfl
theorem hd4 {cells : List Int} {a b c e : Int} : idxD (hd cells a b c e) (.int 4) = some (.int e) := rfl
theorem st1 {cells : List Int} {a b c e x : Int} {r : En} : stoD 0 (.int 1) (.int x) (.p (hd cells a b c e) :: r) = some (.p (hd cells x b c e) :: r) := rfl
theorem st2 {cells : List Int} {a b c e x : Int} {r : En} : stoD 0 (.int 2) (.int x) (.p (hd cells a b c e) :: r) = some (.p (hd cells a x c e) :: r) := rfl
theorem st3 {cells : List Int} {a b c e x : Int} {r : En} : stoD 0 (.int 3) (.int x) (.p (hd cells a b c e) :: r) = some (.p (hd cells a b x e) :: r) := rfl
theorem st4 {cells : List Int} {a b c e x : Int} {r : En} : stoD 0 (.int 4) (.int x) (.p (hd cells a b c e) :: r) = some (.p (hd cells a b c x) :: r) := rfl
theorem lsBp {cells : List Int} {a b c e : Int} {r : En} : lsB (.p (hd cells a b c e) :: r) 0 = true := rfl
theorem run_x1 {z : Bool} {cells : List Int} {a b c e m : Int} (ha : 0 ≤ a) (hl : a < cells.length) (hc : 0 ≤ c) (hc2 : c < 2147483648) :
    ∃ b' c' s2', 0 ≤ c' ∧ c' < 2147483648 ∧ exL F gl (x1 z) [.p (hd cells a b c e), .v (.int m), .n, .n, .n] = some (.nx, [.p (hd cells (a + 1) b' c' e), .v (.int m), .v s2', .n, .n]) := by
  obtain ⟨x, hx⟩ : ∃ x, cells[a.toNat]? = some x := ⟨_, List.getElem?_eq_getElem (by omega)⟩
  have hx' : idxD (.lst (cells.map D.int)) (.int a) = some (.int x) := atI_nat' ha (by rw [List.getElem?_map, hx]; rfl)
  have e15 : (10 : Int) ^ (15 : Int).toNat = 1000000000000000 := by decide
  let c' := (c * 48271 + x % 2147483629 * 69621 + 17) % 2147483629
  have hc' : 0 ≤ c' ∧ c' < 2147483629 := ⟨Int.emod_nonneg _ (by decide), Int.emod_lt_of_pos _ (by decide)⟩
  by_cases hbig : 1000000000000000 ≤ x
  · refine ⟨x, c', .int x, hc'.1, by omega, ?_⟩
    have o1 := mul_ok (a := c) (b := 48271) (by omega) (by omega) (by decide) (by decide)
    have o2 := mul_ok (a := x % 2147483629) (b := 69621) (by omega) (by omega) (by decide) (by decide)
    cases z <;> simp [x1, exL, exS, ev, evs, rd, lk, hd0, hd1, hd2, hd3, hx', unf, rds, int_ok, asg, asgR, putS, giv, lsBp, st1, st2, st3, add_ok, o1, o2, md1, pw1, ge_ok, toB, e15, hbig, c']
  · refine ⟨b, c', .int x, hc'.1, by omega, ?_⟩
    have o1 := mul_ok (a := c) (b := 48271) (by omega) (by omega) (by decide) (by decide)
    have o2 := mul_ok (a := x % 2147483629) (b := 69621) (by omega) (by omega) (by decide) (by decide)
    cases z <;> simp [x1, exL, exS, ev, evs, rd, lk, hd0, hd1, hd2, hd3, hx', unf, rds, int_ok, asg, asgR, putS, giv, lsBp, st1, st2, st3, add_ok, o1, o2, md1, pw1, ge_ok, toB, e15, hbig, c']
theorem run_x2 {cells : List Int} {a b c e m : Int} {N : Nat} {s2 : Sl} (ha : 0 ≤ a) (hc : 0 ≤ c) (hc2 : c < 2147483648) (he : 0 ≤ e) (he2 : e ≤ N) (hN : N < 2 ^ 60) (hm : 0 < m) (hm2 : m < 2 ^ 60) :
    ∃ n h' s2' s3' s4', 0 ≤ n ∧ n < m ∧ Hok (N + 1) h' ∧ exL F gl x2 [.p (hd cells a b c e), .v (.int m), s2, .n, .n] = some (.rt (.v (.int n)), [.p h', .v (.int m), s2', s3', s4']) := by
  by_cases hb : 0 < b
  · refine ⟨b % m, hd cells a (b / m) c e, s2, .v (.int (b % m)), .n, Int.emod_nonneg _ (by omega), Int.emod_lt_of_pos _ hm, ⟨_, _, _, _, _, rfl, ha, hc, hc2, he, by omega⟩, ?_⟩
    have o1 := mod_ok (a := b) hm
    have o2 := div_ok (a := b) hm (by omega)
    simp [x2, exL, exS, ev, evs, rd, lk, hd0, hd1, hd2, hd3, unf, rds, int_ok, asg, asgR, putS, giv, lsBp, st1, st2, st3, add_ok, o1, o2, gt_ok, toB, hb, outR]
  · let y := (c + 7919 * (e + 1)) * 40692 % 2147483399
    have hy : 0 ≤ y ∧ y < 2147483399 := ⟨Int.emod_nonneg _ (by decide), Int.emod_lt_of_pos _ (by decide)⟩
    let w := y * (y / 1009 + 30011) % 2147483647
    refine ⟨w / 32 % m, hd cells a b c (e + 1), s2, .n, .v (.int w), Int.emod_nonneg _ (by omega), Int.emod_lt_of_pos _ hm, ⟨_, _, _, _, _, rfl, ha, hc, hc2, by omega, by omega⟩, ?_⟩
    have o1 := mul_ok (a := 7919) (b := e + 1) (by decide) (by decide) (by omega) (by omega)
    have o2 := mul_ok (a := c + 7919 * (e + 1)) (b := 40692) (by omega) (by omega) (by decide) (by decide)
    have o3 := mul_ok (a := y) (b := y / 1009 + 30011) (by omega) (by omega) (by omega) (by omega)
    have o4 := mod_ok (a := w / 32) hm
    have ey : (c + 7919 * (e + 1)) * 40692 % 2147483399 = y := rfl
    have ew : y * (y / 1009 + 30011) % 2147483647 = w := rfl
    clear_value y w
    simp [x2, exL, exS, ev, evs, rd, lk, hd0, hd1, hd2, hd3, hd4, unf, rds, int_ok, asg, asgR, putS, giv, lsBp, st1, st2, st3, st4, add_ok, md2, md3, dv1, dv2, o1, o2, o3, o4, ey, ew, gt_ok, toB, hb, outR]
theorem run_draw {z : Bool} {h : D} {N : Nat} {m : Int} (H : Hok N h) (hN : N < 2 ^ 60) (hm : 0 < m) (hm2 : m < 2 ^ 60) :
    ∃ n h' s2' s3' s4', 0 ≤ n ∧ n < m ∧ Hok (N + 1) h' ∧ exL F gl (drawB z) [.p h, .v (.int m), .n, .n, .n] = some (.rt (.v (.int n)), [.p h', .v (.int m), s2', s3', s4']) := by
  obtain ⟨cells, a, b, c, e, rfl, ha, hc, hc2, he, he2⟩ := H
  have q := run_c1 F gl (cells := cells) (a := a) (b := b) (c := c) (e := e) (m := m) (s2 := .n) (s3 := .n) (s4 := .n)
  by_cases hq : (decide (b = 0) && decide (a < cells.length)) = true
  · rw [hq] at q
    simp only [Bool.and_eq_true, decide_eq_true_eq] at hq
    obtain ⟨b', c', s2', g1, g2, g3⟩ := run_x1 F gl (z := z) (b := b) (e := e) (m := m) ha hq.2 hc hc2
    obtain ⟨n, h', t2, t3, t4, k1, k2, k3, k4⟩ := run_x2 F gl (cells := cells) (a := a + 1) (b := b') (c := c') (e := e) (s2 := .v s2') (by omega) g1 g2 he he2 hN hm hm2
    refine ⟨n, h', t2, t3, t4, k1, k2, k3, ?_⟩
    simp only [drawB, exL, exS, q, g3, k4]
  · rw [Bool.not_eq_true] at hq
    rw [hq] at q
    obtain ⟨n, h', t2, t3, t4, k1, k2, k3, k4⟩ := run_x2 F gl (cells := cells) (a := a) (b := b) (c := c) (e := e) (s2 := .n) ha hc hc2 he he2 hN hm hm2
    refine ⟨n, h', t2, t3, t4, k1, k2, k3, ?_⟩
    simp only [drawB, exL, exS, q, k4]
end
end PL
set_option maxHeartbeats 8000000
namespace PL
open PySem PySem.Spec L2
/-! ### loops -/
theorem loopC_map {t : D → En → Option (Option D × En)} {f : D → D} {env : En} : ∀ {ds : List D}, (∀ d ∈ ds, t d env = some (some (f d), env)) → loopC t ds env = some (ds.map f, env)
  | [], _ => rfl
  | d :: r, h => by
    simp only [loopC, h d List.mem_cons_self, loopC_map fun x hx => h x (List.mem_cons_of_mem _ hx), List.map_cons]
theorem loopC_inv {t : D → En → Option (Option D × En)} (I : Nat → En → Prop) (Q : D → Prop) : ∀ {ds : List D} {i : Nat} {env : En}, (∀ i d e, d ∈ ds → I i e → ∃ x e', t d e = some (some x, e') ∧ Q x ∧ I (i + 1) e') → I i env →
    ∃ l e', loopC t ds env = some (l, e') ∧ l.length = ds.length ∧ (∀ x ∈ l, Q x) ∧ I (i + ds.length) e'
  | [], i, env, _, h => ⟨[], env, rfl, rfl, (fun _ z => nomatch z), h⟩
  | d :: r, i, env, st, h => by
    obtain ⟨x, e1, h1, h2, h3⟩ := st i d env List.mem_cons_self h
    obtain ⟨l, e2, g1, g2, g3, g4⟩ := loopC_inv I Q (ds := r) (fun i d e hd => st i d e (List.mem_cons_of_mem _ hd)) h3
    refine ⟨x :: l, e2, by simp only [loopC, h1, g1], by simp [g2], fun y hy => ?_, ?_⟩
    · rcases List.mem_cons.mp hy with z | z
      · rw [z]; exact h2
      · exact g3 y z
    · rw [List.length_cons, show i + (r.length + 1) = i + 1 + r.length by omega]
      exact g4
theorem loopF_inv {t : D → En → Option (Fl × En)} (I : Nat → En → Prop) : ∀ {ds : List D} {i : Nat} {env : En}, (∀ j d e, ds[j]? = some d → I (i + j) e → ∃ e', (t d e = some (.nx, e') ∨ t d e = some (.ct, e')) ∧ I (i + j + 1) e') → I i env →
    ∃ e', loopF t ds env = some (.nx, e') ∧ I (i + ds.length) e'
  | [], i, env, _, h => ⟨env, rfl, h⟩
  | d :: r, i, env, st, h => by
    obtain ⟨e1, h1, h2⟩ := st 0 d env rfl h
    obtain ⟨e2, g1, g2⟩ := loopF_inv I (ds := r) (i := i + 1) (fun j d e hd hI => by
      have := st (j + 1) d e (by simpa using hd) (by rwa [show i + (j + 1) = i + 1 + j by omega])
      rwa [show i + (j + 1) + 1 = i + 1 + j + 1 by omega] at this) h2
    refine ⟨e2, ?_, ?_⟩
    · rcases h1 with h1 | h1
      · simp only [loopF, h1, g1]
      · simp only [loopF, h1, g1]
    · rw [List.length_cons, show i + (r.length + 1) = i + 1 + r.length by omega]
      exact g2
theorem loopW_inv {c : En → Option (Bool × En)} {b : En → Option (Fl × En)} (I : Nat → En → Prop) (Q : En → Prop)
    (st : ∀ m e, I m e → (∃ e1, c e = some (false, e1) ∧ Q e1) ∨ ∃ e1 e2 m', c e = some (true, e1) ∧ b e1 = some (.nx, e2) ∧ m' < m ∧ I m' e2) : ∀ {f m : Nat} {env : En}, m < f → I m env → ∃ e', loopW c b f env = some (.nx, e') ∧ Q e'
  | 0, _, _, h, _ => absurd h (Nat.not_lt_zero _)
  | f + 1, m, env, h, hI => by
    rcases st m env hI with ⟨e1, h1, h2⟩ | ⟨e1, e2, m', h1, h2, h3, h4⟩
    · exact ⟨e1, by simp only [loopW, h1], h2⟩
    · obtain ⟨e', g1, g2⟩ := loopW_inv I Q st (f := f) (m := m') (by omega) h4
      exact ⟨e', by simp only [loopW, h1, h2, g1], g2⟩
section
variable (F : FT) (gl : Str → Option D)
def lcT (e : Ex) (tg : Tg) (cs : List Ex) (own : List Nat) (gs : Gs) (d : D) (e2 : En) : Option (Option D × En) := match asgT tg d (wipeE e2 own) with
  | some e3 => match tsts F gl cs e3 with
    | some (true, e4) => match ev F gl e e4 with
      | some (r, e5) => match giv r e5 with
        | some (x, e6) => if grd gs (restE e6 e2 own) then some (some x, restE e6 e2 own) else none
        | none => none
      | none => none
    | some (false, e4) => if grd gs (restE e4 e2 own) then some (none, restE e4 e2 own) else none
    | none => none
  | none => none
def frT (tg : Tg) (b : List Sx) (gs : Gs) (d : D) (e2 : En) : Option (Fl × En) := match asgT tg d e2 with
  | some e3 => match exL F gl b e3 with
    | some (fl, e4) => if grdP gs e4 then some (fl, e4) else none
    | none => none
  | none => none
variable {F gl}
theorem ev_lc {e : Ex} {tg : Tg} {it : It'} {cs : List Ex} {own : List Nat} {env e1 e2 : En} {ds l : List D} {gs : Gs} (h : evI F gl it env = some (ds, gs, e1)) (hl : loopC (lcT F gl e tg cs own gs) ds e1 = some (l, e2)) (hz : l.length ≤ SZ) :
    ev F gl (.lc e tg it cs own) env = some (.f (.lst l), e2) := by
  simp only [ev, h]
  show (match loopC (lcT F gl e tg cs own gs) ds e1 with
    | some (l, e2) => if l.length ≤ SZ then some (R.f (.lst l), e2) else none
    | none => none) = _
  rw [hl]
  simp [hz]
theorem ex_fr {tg : Tg} {it : It'} {b : List Sx} {env e1 e5 : En} {ds : List D} {gs : Gs} {fl : Fl} (h : evI F gl it env = some (ds, gs, e1)) (hl : loopF (frT F gl tg b gs) ds (lockE gs e1) = some (fl, e5)) :
    exS F gl (.fr tg it b) env = some (fl, unlE e1 gs e5) := by
  simp only [exS, h]
  show (match loopF (frT F gl tg b gs) ds (lockE gs e1) with
    | some (fl, e5) => some (fl, unlE e1 gs e5)
    | none => none) = _
  rw [hl]
theorem ex_cons {s : Sx} {l : List Sx} {env e1 : En} {r : Option (Fl × En)} (h : exS F gl s env = some (.nx, e1)) (h2 : exL F gl l e1 = r) : exL F gl (s :: l) env = r := by
  simp only [exL, h, h2]
theorem ex_ret {s : Sx} {l : List Sx} {env e1 : En} {r : R} (h : exS F gl s env = some (.rt r, e1)) : exL F gl (s :: l) env = some (.rt r, e1) := by
  simp only [exL, h]
theorem ex_nil {env : En} : exL F gl [] env = some (.nx, env) := by simp only [exL]
end
/-! ### the hand -/
def DrawOk (F : FT) (i : Nat) : Prop := ∀ (N : Nat) (h : D) (m : Int), Hok N h → N < 2 ^ 60 → 0 < m → m < 2 ^ 60 → ∃ n h', 0 ≤ n ∧ n < m ∧ Hok (N + 1) h' ∧ F i [.p h, .v (.int m)] = some (.v (.int n), [.p h', .v (.int m)])
def SomeOk (F : FT) (i : Nat) : Prop := ∀ (N : Nat) (h : D) (l : List D), Hok N h → N < 2 ^ 60 → 0 < l.length → l.length < 2 ^ 60 → ∃ x h', x ∈ l ∧ Hok (N + 1) h' ∧ F i [.p h, .v (.lst l)] = some (.v x, [.p h', .v (.lst l)])
theorem draw_ok {P : List Df} {gl : Str → Option D} {k i : Nat} {z : Bool} (h : P[i]? = some ⟨2, 5, drawB z⟩) : DrawOk (callF P gl (k + 1)) i := fun N d m H hN hm hm2 => by
  obtain ⟨n, h', s2, s3, s4, h1, h2, h3, h4⟩ := run_draw (callF P gl k) gl (z := z) H hN hm hm2
  exact ⟨n, h', h1, h2, h3, callF_rt h rfl h4 rfl rfl⟩
def someB (i : Nat) : List Sx := [.ret (.idx (.v 1) (.call i [.v 0, .bi .len [.v 1]]))]
theorem some_ok {P : List Df} {gl : Str → Option D} {k i j : Nat} (h : P[j]? = some ⟨2, 2, someB i⟩) (hd : DrawOk (callF P gl k) i) : SomeOk (callF P gl (k + 1)) j := fun N d l H hN hl hl2 => by
  obtain ⟨n, h', h1, h2, h3, h4⟩ := hd N d l.length H hN (by omega) (by omega)
  obtain ⟨x, hx⟩ : ∃ x, l[n.toNat]? = some x := ⟨_, List.getElem?_eq_getElem (by omega)⟩
  have hx' : idxD (.lst l) (.int n) = some x := atI_nat' h1 hx
  refine ⟨x, h', List.mem_of_getElem? hx, h3, callF_rt (env := [.p h', .v (.lst l)]) h rfl ?_ rfl rfl⟩
  simp [someB, exL, exS, ev, evs, rd, lk, unf, rds, biD, callR, ows, nodupB, argS, h4, bak, hx', outR]
/-- the cells -/
def cellE (z : Bool) : Ex := .bin .mod (if z then .bi .int [.bi .abs [.bi .int [.v 2]]] else .bi .abs [.bi .int [.v 2]]) (.bin .pow (.k (.int 10)) (.k (.int 36)))
def handB (z : Bool) (s : Int) : List Sx := [.asc 1 (.lc (cellE z) (.nm 2) (.e (.slc (.v 0) none (some (.k (.int 60))))) [] [2]), .ret (.lst [.v 1, .k (.int 0), .k (.int 0), .bin .add (.k (.int s)) (.bin .mul (.k (.int 31)) (.bi .len [.v 1])), .k (.int 0)])]
theorem pw2 : binD .pow (.int 10) (.int 36) = some (.v (.int 1000000000000000000000000000000000000)) := by rw [pow_ok (by decide) (by decide) (by decide) (by decide)]; rfl
theorem cut_map {α : Type} {f : α → D} {xs : List α} {lo hi : Option Int} : ∃ ys : List α, ys.length ≤ xs.length ∧ cutD (xs.map f) lo hi = ys.map f := by
  refine ⟨(xs.drop (HT.sIx (xs.map f).length 0 lo)).take (HT.sIx (xs.map f).length (xs.map f).length hi - HT.sIx (xs.map f).length 0 lo), ?_, ?_⟩
  · rw [List.length_take, List.length_drop]
    omega
  · unfold cutD
    rw [List.map_take, List.map_drop]
theorem run_hand {F : FT} {gl : Str → Option D} {z : Bool} {s : Int} {ns : List Int} (hs : 0 ≤ s) (hs2 : s < 1000000) (hn : ns.length ≤ 1000) :
    ∃ h s2 s3, Hok 0 h ∧ exL F gl (handB z s) [.v (.rol (ns.map D.int)), .n, .n] = some (.rt (.f h), [.v (.rol (ns.map D.int)), s2, s3]) := by
  obtain ⟨ys, hy, hc⟩ := cut_map (f := D.int) (xs := ns) (lo := none) (hi := some 60)
  let g : D → D := fun d => match d with | .int x => .int ((if x < 0 then -x else x) % 1000000000000000000000000000000000000) | d => d
  let zs : List Int := ys.map fun x => (if x < 0 then -x else x) % 1000000000000000000000000000000000000
  have hg : (ys.map D.int).map g = zs.map D.int := by simp [zs, g]
  have m36 : ∀ a : Int, binD .mod (.int a) (.int 1000000000000000000000000000000000000) = some (.v (.int (a % 1000000000000000000000000000000000000))) := fun a => mod_ok (by decide)
  have loop := loopC_map (f := g) (env := [.v (.rol (ns.map D.int)), .n, .n]) (ds := ys.map D.int) (t := lcT F gl (cellE z) (.nm 2) [] [2] []) (fun d hd => by
    obtain ⟨x, _, rfl⟩ := List.mem_map.mp hd
    cases z <;> simp [lcT, asgT, wipeE, putS, tsts, cellE, ev, evs, rds, rd, unf, biD, pw2, m36, giv, restE, grd, g])
  rw [hg] at loop
  have hl : zs.length ≤ 1000 := by simp only [zs, List.length_map]; omega
  have o1 := mul_ok (a := 31) (b := zs.length) (by decide) (by decide) (by omega) (by omega)
  refine ⟨hd zs 0 0 (s + 31 * zs.length) 0, .v (.lst (zs.map D.int)), .n, ⟨zs, 0, 0, _, 0, rfl, by omega, by omega, by omega, by omega, by omega⟩, ?_⟩
  have hz : (zs.map D.int).length ≤ SZ := by rw [List.length_map]; unfold SZ; omega
  have lc := ev_lc (it := .e (.slc (.v 0) none (some (.k (.int 60))))) (env := [.v (.rol (ns.map D.int)), .n, .n]) (ds := ys.map D.int) (gs := []) (by simp [evI, ev, evO, rd, slcD, hc, walkD, gOf]) loop hz
  refine ex_cons (e1 := [.v (.rol (ns.map D.int)), .o (.lst (zs.map D.int)), .n]) (by simp [exS, lc, asgR, putS]) (ex_ret ?_)
  simp [exS, ev, evs, rds, rd, lk, unf, biD, givs, giv, o1, add_ok, mkL, SZ, outR, hd]
end PL
set_option maxHeartbeats 8000000
namespace PL
open PySem PySem.Spec L2
/-! ### checks that many laws share -/
section
variable {P : List Df} {gl : Str → Option D} {k : Nat} {F : FT}
def FInt (F : FT) (i : Nat) : Prop := ∀ x : Int, F i [.v (.int x)] = some (.v (.bl true), [.v (.int x)])
def intB : List Sx := [.ret (.and [.isi (.v 0) .int, .not (.isi (.v 0) .bool)])]
theorem int_fn {i : Nat} (h : P[i]? = some ⟨1, 1, intB⟩) : FInt (callF P gl (k + 1)) i := fun x => callF_rt (env := [.v (.int x)]) h rfl (by simp [intB, exL, exS, ev, evAnd, evOr, evs, evO, evI, tsts, rd, lk, unf, rds, giv, givs, toB, outR, callR, ows, nodupB, argS, bak, asg, asgR, asgT, asgTs, putS, evsF, nrm, nrmL, asgL, isTy]) rfl rfl
def FWith (F : FT) (i : Nat) : Prop := ∀ x a b : Int, F i [.v (.int x), .v (.int a), .v (.int b)] = some (.v (.bl (decide (a ≤ x) && decide (x ≤ b))), [.v (.int x), .v (.int a), .v (.int b)])
def withB (i : Nat) : List Sx := [.ret (.and [.call i [.v 0], .cmp2 .le .le (.v 1) (.v 0) (.v 2)])]
theorem with_fn {i j : Nat} (h : P[j]? = some ⟨3, 3, withB i⟩) (h0 : FInt (callF P gl k) i) : FWith (callF P gl (k + 1)) j := fun x a b => callF_rt (env := [.v (.int x), .v (.int a), .v (.int b)]) h rfl (by
  simp [withB, exL, exS, ev, evAnd, evOr, evs, evO, evI, tsts, rd, lk, unf, rds, giv, givs, toB, outR, callR, ows, nodupB, argS, bak, asg, asgR, asgT, asgTs, putS, evsF, nrm, nrmL, asgL, h0 x, le_ok]
  by_cases q : a ≤ x <;> simp [q]) rfl rfl
def FHour (F : FT) (i : Nat) : Prop := ∀ x : Int, F i [.v (.int x)] = some (.v (.bl (decide (0 ≤ x) && decide (x ≤ 1000000000000))), [.v (.int x)])
def hourB (i : Nat) : List Sx := [.ret (.call i [.v 0, .k (.int 0), .g "MOST_HOUR"])]
theorem hour_fn {i j : Nat} (h : P[j]? = some ⟨1, 1, hourB i⟩) (hg : gl "MOST_HOUR" = some (.int 1000000000000)) (h0 : FWith (callF P gl k) i) : FHour (callF P gl (k + 1)) j := fun x => callF_rt (env := [.v (.int x)]) h rfl (by
  simp [hourB, exL, exS, ev, evAnd, evOr, evs, evO, evI, tsts, rd, lk, unf, rds, giv, givs, toB, outR, callR, ows, nodupB, argS, bak, asg, asgR, asgT, asgTs, putS, evsF, nrm, nrmL, asgL, h0 x, hg]) rfl rfl
def FChk (F : FT) (i : Nat) : Prop := ∀ x a b : Int, a ≤ x → x ≤ b → F i [.v (.int x), .v (.int a), .v (.int b)] = some (.v .non, [.v (.int x), .v (.int a), .v (.int b)])
def chkB (i : Nat) : List Sx := [.ife (.not (.call i [.v 0, .v 1, .v 2])) [.rse] []]
theorem chk_fn {i j : Nat} (h : P[j]? = some ⟨3, 3, chkB i⟩) (h0 : FWith (callF P gl k) i) : FChk (callF P gl (k + 1)) j := fun x a b h1 h2 => callF_nx (env := [.v (.int x), .v (.int a), .v (.int b)]) h rfl (by
  simp [chkB, exL, exS, ev, evAnd, evOr, evs, evO, evI, tsts, rd, lk, unf, rds, giv, givs, toB, outR, callR, ows, nodupB, argS, bak, asg, asgR, asgT, asgTs, putS, evsF, nrm, nrmL, asgL, h0 x, h1, h2]) rfl rfl
def FTup (F : FT) (i : Nat) : Prop := ∀ (l : List D) (a b : Int), F i [.v (.tup l), .v (.int a), .v (.int b)] = some (.v (.bl (decide (a ≤ l.length) && decide ((l.length : Int) ≤ b))), [.v (.tup l), .v (.int a), .v (.int b)])
def tupB : List Sx := [.ret (.and [.isi (.v 0) .tuple, .cmp2 .le .le (.v 1) (.bi .len [.v 0]) (.v 2)])]
theorem tup_fn {i : Nat} (h : P[i]? = some ⟨3, 3, tupB⟩) : FTup (callF P gl (k + 1)) i := fun l a b => callF_rt (env := [.v (.tup l), .v (.int a), .v (.int b)]) h rfl (by
  simp [tupB, exL, exS, ev, evAnd, evOr, evs, evO, evI, tsts, rd, lk, unf, rds, giv, givs, toB, outR, callR, ows, nodupB, argS, bak, asg, asgR, asgT, asgTs, putS, evsF, nrm, nrmL, asgL, isTy, biD, le_ok]
  by_cases q : a ≤ l.length <;> simp [q]) rfl rfl
/-! ### years -/
abbrev pr (p : Int × Int) : D := .tup [.int p.1, .int p.2]
abbrev yD (ys : List (Int × Int)) : D := .tup (ys.map pr)
structure Yr (ys : List (Int × Int)) : Prop where
  ok : ∀ p ∈ ys, 0 ≤ p.1 ∧ p.1 ≤ p.2 ∧ p.2 ≤ 1000000000000
  up : ys.Pairwise fun p q => p.2 + 1 < q.1
theorem ix0 {a : D} {l : List D} : idxD (.tup (a :: l)) (.int 0) = some a := by
  simp [idxD, atI, ixN]
theorem ix1 {a b : D} {l : List D} : idxD (.tup (a :: b :: l)) (.int 1) = some b := by
  simp [idxD, atI, ixN]
  rw [if_pos (by omega)]
  rfl
def FStr (F : FT) (i : Nat) : Prop := ∀ p : Int × Int, 0 ≤ p.1 → p.1 ≤ p.2 → p.2 ≤ 1000000000000 → F i [.v (pr p)] = some (.v (.bl true), [.v (pr p)])
def strB (i j : Nat) : List Sx := [.ret (.and [.call i [.v 0, .k (.int 2), .k (.int 2)], .call j [.idx (.v 0) (.k (.int 0))], .call j [.idx (.v 0) (.k (.int 1))], .cmp .le (.idx (.v 0) (.k (.int 0))) (.idx (.v 0) (.k (.int 1)))])]
theorem str_fn {i j m : Nat} (h : P[m]? = some ⟨1, 1, strB i j⟩) (h0 : FTup (callF P gl k) i) (h1 : FHour (callF P gl k) j) : FStr (callF P gl (k + 1)) m := fun p a b c => callF_rt (env := [.v (pr p)]) h rfl (by
  have q1 := h0 [.int p.1, .int p.2] 2 2
  have q2 := h1 p.1
  have q3 := h1 p.2
  have e1 : p.1 ≤ 1000000000000 := by omega
  have e2 : 0 ≤ p.2 := by omega
  simp at q1
  simp [strB, exL, exS, ev, evAnd, evOr, evs, evO, evI, tsts, rd, lk, unf, rds, giv, givs, toB, outR, callR, ows, nodupB, argS, bak, asg, asgR, asgT, asgTs, putS, evsF, nrm, nrmL, asgL, pr, q1, q2, q3, ix0, ix1, le_ok, a, b, c, e1, e2]) rfl rfl
theorem all_true {l : List D} (h : ∀ x ∈ l, x = .bl true) : biD .all [.lst l] = some (.v (.bl true)) := by
  have e : isBlL l = some (l.map fun _ => true) := by
    induction l with
    | nil => rfl
    | cons a r ih =>
      rw [h a List.mem_cons_self]
      simp [isBlL, ih fun x hx => h x (List.mem_cons_of_mem _ hx)]
  simp [biD, e]
theorem cut_drop {l : List D} : cutD l (some 1) none = l.drop 1 := by
  unfold cutD
  rw [show HT.sIx l.length 0 (some 1) = min 1 l.length from HT.sIx_nat l.length 0 1, HT.sIx_none]
  cases l with
  | nil => rfl
  | cons a r =>
    rw [show min 1 (a :: r).length = 1 by simp]
    simp
theorem zip_pr : ∀ {ys : List (Int × Int)} {d : D}, d ∈ zipD (ys.map pr) ((ys.map pr).drop 1) → ∃ (i : Nat) (p q : Int × Int), ys[i]? = some p ∧ ys[i + 1]? = some q ∧ d = .tup [pr p, pr q]
  | [], d, h => by simp [zipD] at h
  | [p], d, h => by simp [zipD] at h
  | p :: q :: r, d, h => by
    simp only [List.map_cons, List.drop_succ_cons, List.drop_zero, zipD, List.mem_cons] at h
    rcases h with h | h
    · exact ⟨0, p, q, rfl, rfl, h⟩
    · have := zip_pr (ys := q :: r) (d := d) (by simpa using h)
      obtain ⟨i, p', q', h1, h2, h3⟩ := this
      exact ⟨i + 1, p', q', by simpa using h1, by simpa using h2, h3⟩
theorem up_at {ys : List (Int × Int)} (h : Yr ys) {i : Nat} {p q : Int × Int} (h1 : ys[i]? = some p) (h2 : ys[i + 1]? = some q) : p.2 + 1 < q.1 := by
  have := List.pairwise_iff_getElem.mp h.up i (i + 1) (List.getElem?_eq_some_iff.mp h1).1 (List.getElem?_eq_some_iff.mp h2).1 (by omega)
  rw [(List.getElem?_eq_some_iff.mp h1).2, (List.getElem?_eq_some_iff.mp h2).2] at this
  exact this
def FYear (F : FT) (i : Nat) : Prop := ∀ ys : List (Int × Int), Yr ys → ys.length ≤ 400 → F i [.v (yD ys)] = some (.v (.bl true), [.v (yD ys)])
def yearB (i j : Nat) : List Sx := [.ife (.or [.not (.call i [.v 0, .k (.int 0), .g "MOST_STRETCHES"]), .not (.bi .all [.lc (.call j [.v 1]) (.nm 1) (.e (.v 0)) [] [1]])]) [.ret (.k (.bl false))] [],
  .ret (.bi .all [.lc (.cmp .gt (.idx (.v 2) (.k (.int 0))) (.bin .add (.idx (.v 1) (.k (.int 1))) (.k (.int 1)))) (.tp [.nm 1, .nm 2]) (.zip (.v 0) (.slc (.v 0) (some (.k (.int 1))) none)) [] [1, 2]])]
theorem year_fn {i j m : Nat} (h : P[m]? = some ⟨1, 3, yearB i j⟩) (hg : gl "MOST_STRETCHES" = some (.int 400)) (h0 : FTup (callF P gl k) i) (h1 : FStr (callF P gl k) j) : FYear (callF P gl (k + 1)) m := fun ys Y hl => by
  let E : En := [.v (yD ys), .n, .n]
  have q0 := h0 (ys.map pr) 0 400
  have l0 : (0 : Int) ≤ ((ys.map pr).length : Int) := by omega
  have l1 : ((ys.map pr).length : Int) ≤ 400 := by rw [List.length_map]; omega
  rw [decide_eq_true l0, decide_eq_true l1] at q0
  obtain ⟨la, ea, a1, a2, a3, a4⟩ := loopC_inv (t := lcT (callF P gl k) gl (.call j [.v 1]) (.nm 1) [] [1] []) (fun _ e => e = E) (fun x => x = .bl true) (ds := ys.map pr) (i := 0) (env := E) (fun _ d e hd he => by
    obtain ⟨p, hp, rfl⟩ := List.mem_map.mp hd
    obtain ⟨o1, o2, o3⟩ := Y.ok p hp
    have := h1 p o1 o2 o3
    subst he
    refine ⟨.bl true, E, ?_, rfl, rfl⟩
    simp [lcT, wipeE, restE, grd, E, exL, exS, ev, evAnd, evOr, evs, evO, evI, tsts, rd, lk, unf, rds, giv, givs, toB, outR, callR, ows, nodupB, argS, bak, asg, asgR, asgT, asgTs, putS, evsF, nrm, nrmL, asgL, this]) rfl
  subst a4
  obtain ⟨lb, eb, b1, b2, b3, b4⟩ := loopC_inv (t := lcT (callF P gl k) gl (.cmp .gt (.idx (.v 2) (.k (.int 0))) (.bin .add (.idx (.v 1) (.k (.int 1))) (.k (.int 1)))) (.tp [.nm 1, .nm 2]) [] [1, 2] []) (fun _ e => e = E) (fun x => x = .bl true)
    (ds := zipD (ys.map pr) ((ys.map pr).drop 1)) (i := 0) (env := E) (fun _ d e hd he => by
    obtain ⟨i', p, q, g1, g2, rfl⟩ := zip_pr hd
    have := up_at Y g1 g2
    subst he
    refine ⟨.bl true, E, ?_, rfl, rfl⟩
    simp [lcT, wipeE, restE, grd, E, exL, exS, ev, evAnd, evOr, evs, evO, evI, tsts, rd, lk, unf, rds, giv, givs, toB, outR, callR, ows, nodupB, argS, bak, asg, asgR, asgT, asgTs, putS, evsF, nrm, nrmL, asgL, ix0, ix1, add_ok, gt_ok, this]) rfl
  subst b4
  have za : la.length ≤ SZ := by rw [a2, List.length_map]; unfold SZ; omega
  have zb : lb.length ≤ SZ := by rw [b2, zipD_len, List.length_map]; unfold SZ; omega
  have e1 := ev_lc (F := callF P gl k) (gl := gl) (it := .e (.v 0)) (env := E) (ds := ys.map pr) (gs := []) (by simp [E, exL, exS, ev, evAnd, evOr, evs, evO, evI, tsts, rd, lk, unf, rds, giv, givs, toB, outR, callR, ows, nodupB, argS, bak, asg, asgR, asgT, asgTs, putS, evsF, nrm, nrmL, asgL, walkD, gOf]) a1 za
  have e2 := ev_lc (F := callF P gl k) (gl := gl) (it := .zip (.v 0) (.slc (.v 0) (some (.k (.int 1))) none)) (env := E) (ds := zipD (ys.map pr) ((ys.map pr).drop 1)) (gs := []) (by simp [E, exL, exS, ev, evAnd, evOr, evs, evO, evI, tsts, rd, lk, unf, rds, giv, givs, toB, outR, callR, ows, nodupB, argS, bak, asg, asgR, asgT, asgTs, putS, evsF, nrm, nrmL, asgL, slcD, cut_drop, gOf]) b1 zb
  refine callF_rt (env := E) h rfl ?_ rfl rfl
  refine ex_cons (e1 := E) ?_ (ex_ret ?_)
  · generalize Ex.lc (.call j [.v 1]) (.nm 1) (.e (.v 0)) [] [1] = L at e1 ⊢
    simp only [E] at e1
    simp [E, exL, exS, ev, evAnd, evOr, evs, evO, evI, tsts, rd, lk, unf, rds, giv, givs, toB, outR, callR, ows, nodupB, argS, bak, asg, asgR, asgT, asgTs, putS, evsF, nrm, nrmL, asgL, hg, q0, e1, all_true a3]
  · generalize Ex.lc (.cmp .gt (.idx (.v 2) (.k (.int 0))) (.bin .add (.idx (.v 1) (.k (.int 1))) (.k (.int 1)))) (.tp [.nm 1, .nm 2]) (.zip (.v 0) (.slc (.v 0) (some (.k (.int 1))) none)) [] [1, 2] = L at e2 ⊢
    simp only [E] at e2
    simp [E, exL, exS, ev, evAnd, evOr, evs, evO, evI, tsts, rd, lk, unf, rds, giv, givs, toB, outR, callR, ows, nodupB, argS, bak, asg, asgR, asgT, asgTs, putS, evsF, nrm, nrmL, asgL, e2, all_true b3]
def FChkY (F : FT) (i : Nat) : Prop := ∀ ys : List (Int × Int), Yr ys → ys.length ≤ 400 → F i [.v (yD ys)] = some (.v .non, [.v (yD ys)])
def chkYB (i : Nat) : List Sx := [.ife (.not (.call i [.v 0])) [.rse] []]
theorem chkY_fn {i j : Nat} (h : P[j]? = some ⟨1, 1, chkYB i⟩) (h0 : FYear (callF P gl k) i) : FChkY (callF P gl (k + 1)) j := fun ys Y hl => callF_nx (env := [.v (yD ys)]) h rfl (by
  simp [chkYB, exL, exS, ev, evAnd, evOr, evs, evO, evI, tsts, rd, lk, unf, rds, giv, givs, toB, outR, callR, ows, nodupB, argS, bak, asg, asgR, asgT, asgTs, putS, evsF, nrm, nrmL, asgL, h0 ys Y hl]) rfl rfl
/-- the same by repr -/
def keptB : List Sx := [.ret (.cmp .eq (.bi .repr [.v 0]) (.bi .repr [.v 1]))]
def FKept (F : FT) (i : Nat) : Prop := ∀ (d : D), okR LV d = true → szR LV d ≤ SZ → F i [.v d, .v d] = some (.v (.bl true), [.v d, .v d])
theorem kept_fn {i : Nat} (h : P[i]? = some ⟨2, 2, keptB⟩) : FKept (callF P gl (k + 1)) i := fun d h1 h2 => callF_rt (env := [.v d, .v d]) h rfl (by
  have e : reprD d = some (PyData.shown (py d)) := by
    unfold reprD
    rw [if_pos (by rw [h1, decide_eq_true h2]; rfl)]
  have c : ∀ x : Str, cmpD .eq (.str x) (.str x) = some true := fun x => by simp [cmpD]
  simp [keptB, exL, exS, ev, evAnd, evOr, evs, evO, evI, tsts, rd, lk, unf, rds, giv, givs, toB, outR, callR, ows, nodupB, argS, bak, asg, asgR, asgT, asgTs, putS, evsF, nrm, nrmL, asgL, biD, e, c]) rfl rfl
end
end PL
set_option maxHeartbeats 8000000
namespace PL
open PySem PySem.Spec L2
section
variable {P : List Df} {gl : Str → Option D} {k : Nat} {F : FT} {i j i' : Nat}
/-! ### drawn years -/
theorem pw7 : binD .pow (.int 10) (.int 7) = some (.v (.int 10000000)) := by rw [pow_ok (by decide) (by decide) (by decide) (by decide)]; rfl
theorem pw9 : binD .pow (.int 10) (.int 9) = some (.v (.int 1000000000)) := by rw [pow_ok (by decide) (by decide) (by decide) (by decide)]; rfl
theorem pw10 : binD .pow (.int 10) (.int 10) = some (.v (.int 10000000000)) := by rw [pow_ok (by decide) (by decide) (by decide) (by decide)]; rfl
theorem pw12 : binD .pow (.int 10) (.int 12) = some (.v (.int 1000000000000)) := by rw [pow_ok (by decide) (by decide) (by decide) (by decide)]; rfl
def NP (s : Sl) : Prop := s = .n ∨ ∃ d, s = .v d
def FFar (F : FT) (i : Nat) : Prop := ∀ (N : Nat) (h : D) (m : Int), Hok N h → N < 2 ^ 50 → 0 ≤ m → m < 2 ^ 60 → ∃ x h', 0 ≤ x ∧ x ≤ m ∧ Hok (N + 2) h' ∧ F i [.p h, .v (.int m)] = some (.v (.int x), [.p h', .v (.int m)])
def farB (i : Nat) : List Sx := [.ret (.bin .mod (.bi .int [.bin .add (.bin .mul (.call i [.v 0, .bin .pow (.k (.int 10)) (.k (.int 7))]) (.bin .pow (.k (.int 10)) (.k (.int 7)))) (.call i [.v 0, .bin .pow (.k (.int 10)) (.k (.int 7))])]) (.bin .add (.v 1) (.k (.int 1))))]
theorem far_fn (h : P[j]? = some ⟨2, 2, farB i⟩) (hd : DrawOk (callF P gl k) i) : FFar (callF P gl (k + 1)) j := fun N d m H hN hm hm2 => by
  obtain ⟨a, d1, a1, a2, a3, a4⟩ := hd N d 10000000 H (by omega) (by decide) (by decide)
  obtain ⟨b, d2, b1, b2, b3, b4⟩ := hd (N + 1) d1 10000000 a3 (by omega) (by decide) (by decide)
  have o1 := mul_ok (a := a) (b := 10000000) (by omega) (by omega) (by decide) (by decide)
  have o2 := mod_ok (a := a * 10000000 + b) (b := m + 1) (by omega)
  refine ⟨(a * 10000000 + b) % (m + 1), d2, Int.emod_nonneg _ (by omega), ?_, b3, callF_rt (env := [.p d2, .v (.int m)]) h rfl ?_ rfl rfl⟩
  · have := Int.emod_lt_of_pos (a * 10000000 + b) (b := m + 1) (by omega)
    omega
  · simp [farB, exL, exS, ev, evAnd, evOr, evs, evO, evI, tsts, rd, lk, unf, rds, giv, givs, toB, outR, callR, ows, nodupB, argS, bak, asg, asgR, asgT, asgTs, putS, evsF, nrm, nrmL, asgL, pw7, a4, b4, o1, o2, add_ok, int_ok]
/-- a small step -/
def stE (i j : Nat) : Ex := .call j [.v 0, .lst [.k (.int 0), .k (.int 0), .k (.int 1), .call i [.v 0, .bin .add (.k (.int 1)) (.bin .div (.v 1) (.k (.int 6)))]]]
theorem run_st (hd : DrawOk F i) (hs : SomeOk F j) {N : Nat} {h : D} {m : Int} {r : En} (H : Hok N h) (hN : N < 2 ^ 50) (hm : 0 ≤ m) (hm2 : m < 2 ^ 59) :
    ∃ x h', 0 ≤ x ∧ Hok (N + 2) h' ∧ ev F gl (stE i j) (.p h :: .v (.int m) :: r) = some (.v (.int x), .p h' :: .v (.int m) :: r) := by
  obtain ⟨a, d1, a1, a2, a3, a4⟩ := hd N h (1 + m / 6) H (by omega) (by omega) (by omega)
  obtain ⟨y, d2, b1, b2, b3⟩ := hs (N + 1) d1 [.int 0, .int 0, .int 1, .int a] a3 (by omega) (by simp) (by simp)
  have o1 := div_ok (a := m) (b := 6) (by decide) (by decide)
  have hy : ∃ x : Int, y = .int x ∧ 0 ≤ x := by
    simp at b1
    rcases b1 with q | q | q <;> exact ⟨_, q, by omega⟩
  obtain ⟨x, rfl, hx⟩ := hy
  refine ⟨x, d2, hx, b2, ?_⟩
  simp [stE, exL, exS, ev, evAnd, evOr, evs, evO, evI, tsts, rd, lk, unf, rds, giv, givs, toB, outR, callR, ows, nodupB, argS, bak, asg, asgR, asgT, asgTs, putS, evsF, nrm, nrmL, asgL, o1, add_ok, a4, mkL, SZ, b3]
def FWide (F : FT) (i : Nat) : Prop := ∀ (N : Nat) (h : D) (m : Int), Hok N h → N < 2 ^ 49 → 0 ≤ m → m ≤ 1000000000000 → ∃ ys h', Yr ys ∧ ys.length ≤ 9 ∧ Hok (N + 100) h' ∧ F i [.p h, .v (.int m)] = some (.v (yD ys), [.p h', .v (.int m)])
def wideT (i j : Nat) : List Sx := [.asg (.nm 5) (.bin .add (.v 3) (stE i j)), .ife (.cmp .le (.v 5) (.v 1)) [.ex (.ml .append 2 [.tup [.v 3, .v 5]])] [], .asg (.nm 3) (.bin .add (.bin .add (.v 5) (.k (.int 2))) (stE i j))]
def wideB (i j : Nat) : List Sx := [.par [2, 3] [.lst [], .call j [.v 0, .lst [.k (.int 0), .k (.int 1), .call i [.v 0, .bin .add (.k (.int 1)) (.bin .div (.v 1) (.k (.int 4)))]]]],
  .fr (.nm 4) (.rg1 (.call j [.v 0, .lst [.k (.int 0), .k (.int 1), .k (.int 3), .k (.int 6), .call i [.v 0, .k (.int 9)]]])) (wideT i j), .ret (.bi .tuple [.v 2])]
theorem Yr.nil : Yr [] := ⟨(fun p z => nomatch z), .nil⟩
theorem Yr.snoc {ys : List (Int × Int)} {a b : Int} (Y : Yr ys) (h1 : 0 ≤ a) (h2 : a ≤ b) (h3 : b ≤ 1000000000000) (h4 : ∀ p ∈ ys, p.2 + 1 < a) : Yr (ys ++ [(a, b)]) := by
  refine ⟨fun p hp => ?_, ?_⟩
  · rcases List.mem_append.mp hp with z | z
    · exact Y.ok p z
    · have : p = (a, b) := by simpa using z
      subst this
      exact ⟨h1, h2, h3⟩
  · refine List.pairwise_append.mpr ⟨Y.up, List.pairwise_singleton _ _, fun p hp q hq => ?_⟩
    have : q = (a, b) := by simpa using hq
    subst this
    exact h4 p hp
/-- the state of a year that grows -/
def Gr (N : Nat) (m : Int) (t : Nat) (e : En) : Prop := ∃ (h : D) (ys : List (Int × Int)) (here : Int) (s4 s5 : Sl), e = [.p h, .v (.int m), .o (.lst (ys.map pr)), .v (.int here), s4, s5] ∧ NP s4 ∧ NP s5 ∧
  Hok N h ∧ Yr ys ∧ 0 ≤ here ∧ (∀ p ∈ ys, p.2 + 1 < here) ∧ ys.length ≤ t
theorem pr_append {ys : List (Int × Int)} {a b : Int} : ys.map pr ++ [.tup [.int a, .int b]] = (ys ++ [(a, b)]).map pr := by simp
theorem wide_turn (hd : DrawOk F i) (hs : SomeOk F j) {N : Nat} {m : Int} {t : Nat} {e : En} {d : D} (G : Gr N m t e) (hN : N + 4 < 2 ^ 50) (hm : 0 ≤ m) (hm2 : m ≤ 1000000000000) (ht : t < 1000) :
    ∃ e', frT F gl (.nm 4) (wideT i j) [] d e = some (.nx, e') ∧ Gr (N + 4) m (t + 1) e' := by
  obtain ⟨h, ys, here, s4, s5, rfl, n4, n5, H, Y, h0, hy, hl⟩ := G
  obtain ⟨x, h1, x0, H1, e1⟩ := run_st (gl := gl) hd hs (r := [.o (.lst (ys.map pr)), .v (.int here), .v d, s5]) H (by omega) hm (by omega)
  by_cases hc : here + x ≤ m
  · obtain ⟨y, h2, y0, H2, e2⟩ := run_st (gl := gl) hd hs (r := [.o (.lst (ys.map pr ++ [.tup [.int here, .int (here + x)]])), .v (.int here), .v d, .v (.int (here + x))]) H1 (by omega) hm (by omega)
    have hz : (ys.map pr).length < SZ := by rw [List.length_map]; unfold SZ; omega
    rw [List.length_map] at hz
    refine ⟨[.p h2, .v (.int m), .o (.lst ((ys ++ [(here, here + x)]).map pr)), .v (.int (here + x + 2 + y)), .v d, .v (.int (here + x))], ?_, h2, _, _, _, _, rfl, .inr ⟨_, rfl⟩, .inr ⟨_, rfl⟩, H2, Y.snoc h0 (by omega) (by omega) hy, by omega, fun p hp => ?_, by simp; omega⟩
    · rw [← pr_append]
      rcases n4 with rfl | ⟨d4, rfl⟩ <;> rcases n5 with rfl | ⟨d5, rfl⟩ <;> simp [frT, wideT, exL, exS, ev, evAnd, evOr, evs, evO, evI, tsts, rd, lk, unf, rds, giv, givs, toB, outR, callR, ows, nodupB, argS, bak, asg, asgR, asgT, asgTs, putS, evsF, nrm, nrmL, asgL, e1, e2, add_ok, le_ok, hc, lsB, mkT, SZ, isMl, mlD, hz, grdP]
    · rcases List.mem_append.mp hp with z | z
      · have := hy p z; omega
      · have : p = (here, here + x) := by simpa using z
        subst this
        show here + x + 1 < _
        omega
  · obtain ⟨y, h2, y0, H2, e2⟩ := run_st (gl := gl) hd hs (r := [.o (.lst (ys.map pr)), .v (.int here), .v d, .v (.int (here + x))]) H1 (by omega) hm (by omega)
    refine ⟨[.p h2, .v (.int m), .o (.lst (ys.map pr)), .v (.int (here + x + 2 + y)), .v d, .v (.int (here + x))], ?_, h2, _, _, _, _, rfl, .inr ⟨_, rfl⟩, .inr ⟨_, rfl⟩, H2, Y, by omega, fun p hp => ?_, by omega⟩
    · rcases n4 with rfl | ⟨d4, rfl⟩ <;> rcases n5 with rfl | ⟨d5, rfl⟩ <;> simp [frT, wideT, exL, exS, ev, evAnd, evOr, evs, evO, evI, tsts, rd, lk, unf, rds, giv, givs, toB, outR, callR, ows, nodupB, argS, bak, asg, asgR, asgT, asgTs, putS, evsF, nrm, nrmL, asgL, e1, e2, add_ok, le_ok, hc, grdP]
    · have := hy p hp; omega
theorem rgD_len {n : Int} : (rgD 0 n).length = n.toNat := by unfold rgD; rw [List.length_map, List.length_range]; simp
theorem inR_ok {n : Int} (h1 : -1000000000000000000 ≤ n) (h2 : n ≤ 1000000000000000000) : inR n = true := by
  unfold inR
  rw [decide_eq_true (by omega), decide_eq_true (by omega)]
  rfl
theorem wide_fn (h : P[i']? = some ⟨2, 6, wideB i j⟩) (hd : DrawOk (callF P gl k) i) (hs : SomeOk (callF P gl k) j) : FWide (callF P gl (k + 1)) i' := fun N hh m H hN hm hm2 => by
  obtain ⟨a, h1, a1, a2, a3, a4⟩ := hd N hh (1 + m / 4) H (by omega) (by omega) (by omega)
  obtain ⟨b, h2, b1, b2, b3⟩ := hs (N + 1) h1 [.int 0, .int 1, .int a] a3 (by omega) (by simp) (by simp)
  have o1 := div_ok (a := m) (b := 4) (by decide) (by decide)
  have hb : ∃ x : Int, b = .int x ∧ 0 ≤ x := by
    simp at b1
    rcases b1 with q | q | q <;> exact ⟨_, q, by omega⟩
  obtain ⟨here, rfl, hx⟩ := hb
  obtain ⟨c, h3, c1, c2, c3, c4⟩ := hd (N + 2) h2 9 b2 (by omega) (by decide) (by decide)
  obtain ⟨n', h4, d1, d2, d3⟩ := hs (N + 3) h3 [.int 0, .int 1, .int 3, .int 6, .int c] c3 (by omega) (by simp) (by simp)
  have hn : ∃ x : Int, n' = .int x ∧ 0 ≤ x ∧ x ≤ 9 := by
    simp at d1
    rcases d1 with q | q | q | q | q <;> exact ⟨_, q, by omega, by omega⟩
  obtain ⟨n, rfl, n0, n9⟩ := hn
  have hR := inR_ok (n := n) (by omega) (by omega)
  have lp := loopF_inv (t := frT (callF P gl k) gl (.nm 4) (wideT i j) []) (fun t e => t ≤ 9 → Gr (N + 4 + 4 * t) m t e) (ds := rgD 0 n) (i := 0) (env := [.p h4, .v (.int m), .o (.lst []), .v (.int here), .n, .n])
    (fun t d e hd' hI => by
      by_cases ht : t + 1 ≤ 9
      · obtain ⟨e', q1, q2⟩ := wide_turn (gl := gl) hd hs (d := d) (hI (by omega)) (by omega) hm hm2 (by omega)
        exact ⟨e', .inl q1, fun _ => by
          have e : N + 4 + 4 * (0 + t + 1) = N + 4 + 4 * (0 + t) + 4 := by omega
          rw [e]; exact q2⟩
      · have := (List.getElem?_eq_some_iff.mp hd').1
        rw [rgD_len] at this
        omega)
    (fun _ => ⟨h4, [], here, .n, .n, rfl, .inl rfl, .inl rfl, d2.mono (by omega), .nil, hx, (fun p z => nomatch z), Nat.zero_le _⟩)
  obtain ⟨e', q1, q2⟩ := lp
  obtain ⟨h5, ys, here', s4, s5, rfl, n4, n5, H5, Y, _, _, hl⟩ := q2 (by rw [rgD_len]; omega)
  rw [rgD_len] at hl H5
  refine ⟨ys, h5, Y, by omega, H5.mono (by omega), callF_rt (env := [.p h5, .v (.int m), .o (.lst (ys.map pr)), .v (.int here'), s4, s5]) h rfl ?_ rfl rfl⟩
  refine ex_cons (e1 := [.p h2, .v (.int m), .o (.lst []), .v (.int here), .n, .n]) ?_ (ex_cons (e1 := [.p h5, .v (.int m), .o (.lst (ys.map pr)), .v (.int here'), s4, s5]) ?_ (ex_ret ?_))
  · simp [exL, exS, ev, evAnd, evOr, evs, evO, evI, tsts, rd, lk, unf, rds, giv, givs, toB, outR, callR, ows, nodupB, argS, bak, asg, asgR, asgT, asgTs, putS, evsF, nrm, nrmL, asgL, o1, add_ok, a4, mkL, SZ, b3]
  · have := ex_fr (F := callF P gl k) (gl := gl) (tg := .nm 4) (b := wideT i j) (it := .rg1 (.call j [.v 0, .lst [.k (.int 0), .k (.int 1), .k (.int 3), .k (.int 6), .call i [.v 0, .k (.int 9)]]])) (env := [.p h2, .v (.int m), .o (.lst []), .v (.int here), .n, .n]) (ds := rgD 0 n) (gs := [])
      (e1 := [.p h4, .v (.int m), .o (.lst []), .v (.int here), .n, .n]) (by simp [exL, exS, ev, evAnd, evOr, evs, evO, evI, tsts, rd, lk, unf, rds, giv, givs, toB, outR, callR, ows, nodupB, argS, bak, asg, asgR, asgT, asgTs, putS, evsF, nrm, nrmL, asgL, c4, mkL, SZ, d3, hR]) q1
    exact this
  · simp [exL, exS, ev, evAnd, evOr, evs, evO, evI, tsts, rd, lk, unf, rds, giv, givs, toB, outR, callR, ows, nodupB, argS, bak, asg, asgR, asgT, asgTs, putS, evsF, nrm, nrmL, asgL, biD]
/-- far years -/
def fxE (j f : Nat) : Ex := .call j [.v 0, .lst [.k (.int 0), .k (.int 1), .call f [.v 0, .bin .pow (.k (.int 10)) (.k (.int 9))], .call f [.v 0, .v 1]]]
def fyE (j f : Nat) : Ex := .call j [.v 0, .lst [.k (.int 0), .k (.int 1), .call f [.v 0, .bin .pow (.k (.int 10)) (.k (.int 10))]]]
theorem run_fx {f : Nat} (hf : FFar F f) (hs : SomeOk F j) {N : Nat} {h : D} {r : En} (H : Hok N h) (hN : N + 8 < 2 ^ 50) :
    ∃ x h', 0 ≤ x ∧ Hok (N + 5) h' ∧ ev F gl (fxE j f) (.p h :: .v (.int 1000000000000) :: r) = some (.v (.int x), .p h' :: .v (.int 1000000000000) :: r) := by
  obtain ⟨a, d1, a1, a2, a3, a4⟩ := hf N h 1000000000 H (by omega) (by decide) (by decide)
  obtain ⟨b, d2, b1, b2, b3, b4⟩ := hf (N + 2) d1 1000000000000 a3 (by omega) (by decide) (by decide)
  obtain ⟨y, d3, c1, c2, c3⟩ := hs (N + 4) d2 [.int 0, .int 1, .int a, .int b] b3 (by omega) (by simp) (by simp)
  have hy : ∃ x : Int, y = .int x ∧ 0 ≤ x := by
    simp at c1
    rcases c1 with q | q | q | q <;> exact ⟨_, q, by omega⟩
  obtain ⟨x, rfl, hx⟩ := hy
  refine ⟨x, d3, hx, c2, ?_⟩
  simp [fxE, exL, exS, ev, evAnd, evOr, evs, evO, evI, tsts, rd, lk, unf, rds, giv, givs, toB, outR, callR, ows, nodupB, argS, bak, asg, asgR, asgT, asgTs, putS, evsF, nrm, nrmL, asgL, pw9, a4, b4, mkL, SZ, c3]
theorem run_fy {f : Nat} (hf : FFar F f) (hs : SomeOk F j) {N : Nat} {h : D} {r : En} (H : Hok N h) (hN : N + 8 < 2 ^ 50) :
    ∃ x h', 0 ≤ x ∧ Hok (N + 3) h' ∧ ev F gl (fyE j f) (.p h :: r) = some (.v (.int x), .p h' :: r) := by
  obtain ⟨a, d1, a1, a2, a3, a4⟩ := hf N h 10000000000 H (by omega) (by decide) (by decide)
  obtain ⟨y, d3, c1, c2, c3⟩ := hs (N + 2) d1 [.int 0, .int 1, .int a] a3 (by omega) (by simp) (by simp)
  have hy : ∃ x : Int, y = .int x ∧ 0 ≤ x := by
    simp at c1
    rcases c1 with q | q | q <;> exact ⟨_, q, by omega⟩
  obtain ⟨x, rfl, hx⟩ := hy
  refine ⟨x, d3, hx, c2, ?_⟩
  simp [fyE, exL, exS, ev, evAnd, evOr, evs, evO, evI, tsts, rd, lk, unf, rds, giv, givs, toB, outR, callR, ows, nodupB, argS, bak, asg, asgR, asgT, asgTs, putS, evsF, nrm, nrmL, asgL, pw10, a4, mkL, SZ, c3]
def farT (j f : Nat) : List Sx := [.asg (.nm 5) (.bi .min [.v 1, .bin .add (.v 3) (fxE j f)]), .ife (.cmp .le (.v 3) (.v 1)) [.ex (.ml .append 2 [.tup [.v 3, .v 5]])] [], .asg (.nm 3) (.bin .add (.bin .add (.v 5) (.k (.int 2))) (fyE j f))]
def farYB (i j f : Nat) : List Sx := [.asg (.nm 1) (.bin .pow (.k (.int 10)) (.k (.int 12))), .par [2, 3] [.lst [], .call f [.v 0, .v 1]], .fr (.nm 4) (.rg1 (.call i [.v 0, .k (.int 5)])) (farT j f), .ret (.bi .tuple [.v 2])]
theorem min_ok {a b : Int} : biD .min [.int a, .int b] = some (.v (.int (if b < a then b else a))) := by simp only [biD]
theorem max_ok {a b : Int} : biD .max [.int a, .int b] = some (.v (.int (if b > a then b else a))) := by simp only [biD]
theorem far_turn {f : Nat} (hf : FFar F f) (hs : SomeOk F j) {N : Nat} {t : Nat} {e : En} {d : D} (G : Gr N 1000000000000 t e) (hN : N + 20 < 2 ^ 50) (ht : t < 1000) :
    ∃ e', frT F gl (.nm 4) (farT j f) [] d e = some (.nx, e') ∧ Gr (N + 8) 1000000000000 (t + 1) e' := by
  obtain ⟨h, ys, here, s4, s5, rfl, n4, n5, H, Y, h0, hy, hl⟩ := G
  obtain ⟨x, h1, x0, H1, e1⟩ := run_fx (gl := gl) hf hs (r := [.o (.lst (ys.map pr)), .v (.int here), .v d, s5]) H (by omega)
  let w : Int := if here + x < 1000000000000 then here + x else 1000000000000
  have hw : (if here + x < 1000000000000 then here + x else 1000000000000) = w := rfl
  have w1 : w ≤ 1000000000000 := by simp only [w]; split <;> omega
  have w2 : here ≤ 1000000000000 → here ≤ w := by simp only [w]; split <;> omega
  have w3 : ¬ here ≤ 1000000000000 → w = 1000000000000 := by simp only [w]; split <;> omega
  clear_value w
  by_cases hc : here ≤ 1000000000000
  · obtain ⟨y, h2, y0, H2, e2⟩ := run_fy (gl := gl) hf hs (r := [.v (.int 1000000000000), .o (.lst (ys.map pr ++ [.tup [.int here, .int w]])), .v (.int here), .v d, .v (.int w)]) H1 (by omega)
    have hz : (ys.map pr).length < SZ := by rw [List.length_map]; unfold SZ; omega
    rw [List.length_map] at hz
    refine ⟨[.p h2, .v (.int 1000000000000), .o (.lst ((ys ++ [(here, w)]).map pr)), .v (.int (w + 2 + y)), .v d, .v (.int w)], ?_, h2, _, _, _, _, rfl, .inr ⟨_, rfl⟩, .inr ⟨_, rfl⟩, H2, Y.snoc h0 (w2 hc) w1 hy, by have := w2 hc; omega, fun p hp => ?_, by simp; omega⟩
    · rw [← pr_append]
      rcases n4 with rfl | ⟨d4, rfl⟩ <;> rcases n5 with rfl | ⟨d5, rfl⟩ <;> simp [frT, farT, exL, exS, ev, evAnd, evOr, evs, evO, evI, tsts, rd, lk, unf, rds, giv, givs, toB, outR, callR, ows, nodupB, argS, bak, asg, asgR, asgT, asgTs, putS, evsF, nrm, nrmL, asgL, e1, e2, add_ok, le_ok, min_ok, hw, hc, lsB, mkT, SZ, isMl, mlD, hz, grdP]
    · rcases List.mem_append.mp hp with z | z
      · have := hy p z; have := w2 hc; omega
      · have : p = (here, w) := by simpa using z
        subst this
        show w + 1 < _
        omega
  · obtain ⟨y, h2, y0, H2, e2⟩ := run_fy (gl := gl) hf hs (r := [.v (.int 1000000000000), .o (.lst (ys.map pr)), .v (.int here), .v d, .v (.int w)]) H1 (by omega)
    refine ⟨[.p h2, .v (.int 1000000000000), .o (.lst (ys.map pr)), .v (.int (w + 2 + y)), .v d, .v (.int w)], ?_, h2, _, _, _, _, rfl, .inr ⟨_, rfl⟩, .inr ⟨_, rfl⟩, H2, Y, by have := w3 hc; omega, fun p hp => ?_, by omega⟩
    · rcases n4 with rfl | ⟨d4, rfl⟩ <;> rcases n5 with rfl | ⟨d5, rfl⟩ <;> simp [frT, farT, exL, exS, ev, evAnd, evOr, evs, evO, evI, tsts, rd, lk, unf, rds, giv, givs, toB, outR, callR, ows, nodupB, argS, bak, asg, asgR, asgT, asgTs, putS, evsF, nrm, nrmL, asgL, e1, e2, add_ok, le_ok, min_ok, hw, hc, grdP]
    · have := (Y.ok p hp).2.2; have := w3 hc; omega
def FFarY (F : FT) (i : Nat) : Prop := ∀ (N : Nat) (h : D), Hok N h → N < 2 ^ 49 → ∃ ys h', Yr ys ∧ ys.length ≤ 9 ∧ Hok (N + 100) h' ∧ F i [.p h] = some (.v (yD ys), [.p h'])
theorem farY_fn {f : Nat} (h : P[i']? = some ⟨1, 6, farYB i j f⟩) (hd : DrawOk (callF P gl k) i) (hs : SomeOk (callF P gl k) j) (hf : FFar (callF P gl k) f) : FFarY (callF P gl (k + 1)) i' := fun N hh H hN => by
  obtain ⟨here, h2, a1, a2, a3, a4⟩ := hf N hh 1000000000000 H (by omega) (by decide) (by decide)
  obtain ⟨n, h4, c1, c2, c3, c4⟩ := hd (N + 2) h2 5 a3 (by omega) (by decide) (by decide)
  have hR := inR_ok (n := n) (by omega) (by omega)
  have lp := loopF_inv (t := frT (callF P gl k) gl (.nm 4) (farT j f) []) (fun t e => t ≤ 9 → Gr (N + 4 + 8 * t) 1000000000000 t e) (ds := rgD 0 n) (i := 0) (env := [.p h4, .v (.int 1000000000000), .o (.lst []), .v (.int here), .n, .n])
    (fun t d e hd' hI => by
      by_cases ht : t + 1 ≤ 9
      · obtain ⟨e', q1, q2⟩ := far_turn (gl := gl) hf hs (d := d) (hI (by omega)) (by omega) (by omega)
        exact ⟨e', .inl q1, fun _ => by
          have e : N + 4 + 8 * (0 + t + 1) = N + 4 + 8 * (0 + t) + 8 := by omega
          rw [e]; exact q2⟩
      · have := (List.getElem?_eq_some_iff.mp hd').1
        rw [rgD_len] at this
        omega)
    (fun _ => ⟨h4, [], here, .n, .n, rfl, .inl rfl, .inl rfl, c3.mono (by omega), .nil, a1, (fun p z => nomatch z), Nat.zero_le _⟩)
  obtain ⟨e', q1, q2⟩ := lp
  obtain ⟨h5, ys, here', s4, s5, rfl, n4, n5, H5, Y, _, _, hl⟩ := q2 (by rw [rgD_len]; omega)
  rw [rgD_len] at hl H5
  refine ⟨ys, h5, Y, by omega, H5.mono (by omega), callF_rt (env := [.p h5, .v (.int 1000000000000), .o (.lst (ys.map pr)), .v (.int here'), s4, s5]) h rfl ?_ rfl rfl⟩
  refine ex_cons (e1 := [.p hh, .v (.int 1000000000000), .n, .n, .n, .n]) ?_ (ex_cons (e1 := [.p h2, .v (.int 1000000000000), .o (.lst []), .v (.int here), .n, .n]) ?_ (ex_cons (e1 := [.p h5, .v (.int 1000000000000), .o (.lst (ys.map pr)), .v (.int here'), s4, s5]) ?_ (ex_ret ?_)))
  · simp [exL, exS, ev, evAnd, evOr, evs, evO, evI, tsts, rd, lk, unf, rds, giv, givs, toB, outR, callR, ows, nodupB, argS, bak, asg, asgR, asgT, asgTs, putS, evsF, nrm, nrmL, asgL, pw12]
  · simp [exL, exS, ev, evAnd, evOr, evs, evO, evI, tsts, rd, lk, unf, rds, giv, givs, toB, outR, callR, ows, nodupB, argS, bak, asg, asgR, asgT, asgTs, putS, evsF, nrm, nrmL, asgL, a4, mkL, SZ]
  · have := ex_fr (F := callF P gl k) (gl := gl) (tg := .nm 4) (b := farT j f) (it := .rg1 (.call i [.v 0, .k (.int 5)])) (env := [.p h2, .v (.int 1000000000000), .o (.lst []), .v (.int here), .n, .n]) (ds := rgD 0 n) (gs := [])
      (e1 := [.p h4, .v (.int 1000000000000), .o (.lst []), .v (.int here), .n, .n]) (by simp [exL, exS, ev, evAnd, evOr, evs, evO, evI, tsts, rd, lk, unf, rds, giv, givs, toB, outR, callR, ows, nodupB, argS, bak, asg, asgR, asgT, asgTs, putS, evsF, nrm, nrmL, asgL, c4, hR]) q1
    exact this
  · simp [exL, exS, ev, evAnd, evOr, evs, evO, evI, tsts, rd, lk, unf, rds, giv, givs, toB, outR, callR, ows, nodupB, argS, bak, asg, asgR, asgT, asgTs, putS, evsF, nrm, nrmL, asgL, biD]
end
end PL
set_option maxHeartbeats 8000000
namespace PL
open PySem PySem.Spec L2
section
variable {P : List Df} {gl : Str → Option D} {k : Nat} {F : FT} {i j : Nat}
/-! ### the place of an hour in a year -/
def pl (ys : List (Int × Int)) (x : Int) : Nat := (ys.takeWhile fun p => decide (p.2 < x)).length
theorem pl_le {ys : List (Int × Int)} {x : Int} : pl ys x ≤ ys.length := List.takeWhile_prefix _ |>.length_le
theorem pl_cons {p : Int × Int} {r : List (Int × Int)} {x : Int} : pl (p :: r) x = if p.2 < x then pl r x + 1 else 0 := by
  unfold pl
  rw [List.takeWhile_cons]
  by_cases h : p.2 < x <;> simp [h]
theorem Yr.tail {p : Int × Int} {r : List (Int × Int)} (Y : Yr (p :: r)) : Yr r := ⟨fun q hq => Y.ok q (List.mem_cons_of_mem _ hq), (List.pairwise_cons.mp Y.up).2⟩
theorem Yr.after {p : Int × Int} {r : List (Int × Int)} (Y : Yr (p :: r)) : ∀ q ∈ r, p.2 + 1 < q.1 := (List.pairwise_cons.mp Y.up).1
theorem pl_lt : ∀ {ys : List (Int × Int)} {x : Int} {i : Nat} {p : Int × Int}, Yr ys → ys[i]? = some p → (p.2 < x ↔ i < pl ys x)
  | [], _, _, _, _, h => by simp at h
  | q :: r, x, 0, p, Y, h => by
    have e : q = p := by simpa using h
    subst e
    rw [pl_cons]
    by_cases c : q.2 < x <;> simp [c]
  | q :: r, x, i + 1, p, Y, h => by
    have h' : r[i]? = some p := by simpa using h
    have ih := pl_lt (x := x) Y.tail h'
    rw [pl_cons]
    by_cases c : q.2 < x
    · simp only [c, if_true]
      rw [ih]
      omega
    · simp only [c, if_false]
      have := Y.after p (List.mem_of_getElem? h')
      have := Y.ok p (List.mem_cons_of_mem _ (List.mem_of_getElem? h'))
      constructor
      · intro; omega
      · intro; omega
def FPl (F : FT) (i : Nat) : Prop := ∀ (ys : List (Int × Int)) (x : Int), Yr ys → ys.length ≤ 400 → F i [.v (yD ys), .v (.int x)] = some (.v (.int (pl ys x)), [.v (yD ys), .v (.int x)])
def plT : List Sx := [.asg (.nm 4) (.bin .div (.bin .add (.v 2) (.v 3)) (.k (.int 2))), .ife (.cmp .lt (.idx (.idx (.v 0) (.v 4)) (.k (.int 1))) (.v 1)) [.asg (.nm 2) (.bin .add (.v 4) (.k (.int 1)))] [.asg (.nm 3) (.v 4)]]
def plBody : List Sx := [.par [2, 3] [.k (.int 0), .bi .len [.v 0]], .wh (.cmp .lt (.v 2) (.v 3)) plT, .ret (.v 2)]
theorem idx_at {ys : List (Int × Int)} {n : Nat} {p : Int × Int} (h : ys[n]? = some p) : idxD (yD ys) (.int (n : Nat)) = some (pr p) := by
  refine atI_nat' (by omega) ?_
  rw [Int.toNat_natCast, List.getElem?_map, h]
  rfl
theorem pl_fn (h : P[j]? = some ⟨2, 5, plBody⟩) : FPl (callF P gl (k + 1)) j := fun ys x Y hl => by
  have lp := loopW_inv (c := fun e1 => toB (ev (callF P gl k) gl (.cmp .lt (.v 2) (.v 3)) e1)) (b := fun e1 => exL (callF P gl k) gl plT e1)
    (fun m e => ∃ (lo hi : Nat) (s : Sl), NP s ∧ e = [.v (yD ys), .v (.int x), .v (.int lo), .v (.int hi), s] ∧ lo ≤ pl ys x ∧ pl ys x ≤ hi ∧ hi ≤ ys.length ∧ m = hi - lo)
    (fun e => ∃ (a s : Sl), e = [.v (yD ys), .v (.int x), .v (.int (pl ys x)), a, s])
    (fun m e hI => by
      obtain ⟨lo, hi, s, ns, rfl, h1, h2, h3, rfl⟩ := hI
      by_cases hc : lo < hi
      · have hc' : (lo : Int) < hi := by omega
        obtain ⟨p, hp⟩ : ∃ p, ys[(lo + hi) / 2]? = some p := ⟨_, List.getElem?_eq_getElem (by omega)⟩
        have hix := idx_at hp
        have hm : ((lo : Int) + hi) / 2 = (((lo + hi) / 2 : Nat) : Int) := by omega
        have hd := div_ok (a := (lo : Int) + hi) (b := 2) (by decide) (by decide)
        rw [hm] at hd
        have hpl := pl_lt (x := x) Y hp
        generalize hmid : (lo + hi) / 2 = mid at hp hix hm hd hpl
        have m1 : lo ≤ mid := by omega
        have m2 : mid < hi := by omega
        have hix' : idxD (.tup (ys.map pr)) (.int (mid : Nat)) = some (pr p) := hix
        by_cases hx : p.2 < x
        · have := hpl.mp hx
          refine .inr ⟨[.v (yD ys), .v (.int x), .v (.int lo), .v (.int hi), s], [.v (yD ys), .v (.int x), .v (.int ((mid + 1 : Nat) : Int)), .v (.int hi), .v (.int mid)], hi - (mid + 1), ?_, ?_, by omega, mid + 1, hi, _, .inr ⟨_, rfl⟩, rfl, by omega, h2, h3, rfl⟩
          · simp [exL, exS, ev, evAnd, evOr, evs, evO, evI, tsts, rd, lk, unf, rds, giv, givs, toB, outR, callR, ows, nodupB, argS, bak, asg, asgR, asgT, asgTs, putS, evsF, nrm, nrmL, asgL, lt_ok, hc]
          · rcases ns with rfl | ⟨d, rfl⟩ <;> simp [plT, exL, exS, ev, evAnd, evOr, evs, evO, evI, tsts, rd, lk, unf, rds, giv, givs, toB, outR, callR, ows, nodupB, argS, bak, asg, asgR, asgT, asgTs, putS, evsF, nrm, nrmL, asgL, add_ok, hd, hix', ix1, lt_ok, hx]
        · have : ¬ mid < pl ys x := fun z => hx (hpl.mpr z)
          refine .inr ⟨[.v (yD ys), .v (.int x), .v (.int lo), .v (.int hi), s], [.v (yD ys), .v (.int x), .v (.int lo), .v (.int mid), .v (.int mid)], mid - lo, ?_, ?_, by omega, lo, mid, _, .inr ⟨_, rfl⟩, rfl, h1, by omega, by omega, rfl⟩
          · simp [exL, exS, ev, evAnd, evOr, evs, evO, evI, tsts, rd, lk, unf, rds, giv, givs, toB, outR, callR, ows, nodupB, argS, bak, asg, asgR, asgT, asgTs, putS, evsF, nrm, nrmL, asgL, lt_ok, hc]
          · rcases ns with rfl | ⟨d, rfl⟩ <;> simp [plT, exL, exS, ev, evAnd, evOr, evs, evO, evI, tsts, rd, lk, unf, rds, giv, givs, toB, outR, callR, ows, nodupB, argS, bak, asg, asgR, asgT, asgTs, putS, evsF, nrm, nrmL, asgL, add_ok, hd, hix', ix1, lt_ok, hx]
      · have e : lo = pl ys x := by omega
        refine .inl ⟨[.v (yD ys), .v (.int x), .v (.int lo), .v (.int hi), s], ?_, .v (.int hi), s, by rw [e]⟩
        have hc' : ¬ lo < hi := hc
        simp [exL, exS, ev, evAnd, evOr, evs, evO, evI, tsts, rd, lk, unf, rds, giv, givs, toB, outR, callR, ows, nodupB, argS, bak, asg, asgR, asgT, asgTs, putS, evsF, nrm, nrmL, asgL, lt_ok, hc'])
    (f := FU) (m := ys.length) (env := [.v (yD ys), .v (.int x), .v (.int ((0 : Nat) : Int)), .v (.int (ys.length : Nat)), .n]) (by unfold FU; omega)
    ⟨0, ys.length, .n, .inl rfl, rfl, Nat.zero_le _, pl_le, Nat.le_refl _, rfl⟩
  obtain ⟨e', q1, a, s, rfl⟩ := lp
  refine callF_rt (env := [.v (yD ys), .v (.int x), .v (.int (pl ys x)), a, s]) h rfl ?_ rfl rfl
  refine ex_cons (e1 := [.v (yD ys), .v (.int x), .v (.int ((0 : Nat) : Int)), .v (.int (ys.length : Nat)), .n]) ?_ (ex_cons (e1 := [.v (yD ys), .v (.int x), .v (.int (pl ys x)), a, s]) ?_ (ex_ret ?_))
  · simp [exL, exS, ev, evAnd, evOr, evs, evO, evI, tsts, rd, lk, unf, rds, giv, givs, toB, outR, callR, ows, nodupB, argS, bak, asg, asgR, asgT, asgTs, putS, evsF, nrm, nrmL, asgL, biD]
  · simp only [exS]
    exact q1
  · simp [exL, exS, ev, evAnd, evOr, evs, evO, evI, tsts, rd, lk, unf, rds, giv, givs, toB, outR, callR, ows, nodupB, argS, bak, asg, asgR, asgT, asgTs, putS, evsF, nrm, nrmL, asgL]
def FChkH (F : FT) (i : Nat) : Prop := ∀ x : Int, 0 ≤ x → x ≤ 1000000000000 → F i [.v (.int x)] = some (.v .non, [.v (.int x)])
def chkHB (i : Nat) : List Sx := [.ife (.not (.call i [.v 0])) [.rse] []]
theorem chkH_fn (h : P[j]? = some ⟨1, 1, chkHB i⟩) (h0 : FHour (callF P gl k) i) : FChkH (callF P gl (k + 1)) j := fun x h1 h2 => callF_nx (env := [.v (.int x)]) h rfl (by
  simp [chkHB, exL, exS, ev, evAnd, evOr, evs, evO, evI, tsts, rd, lk, unf, rds, giv, givs, toB, outR, callR, ows, nodupB, argS, bak, asg, asgR, asgT, asgTs, putS, evsF, nrm, nrmL, asgL, h0 x, h1, h2]) rfl rfl
/-- whether an hour is shut -/
def shutT (ys : List (Int × Int)) (x : Int) : Bool := match ys[pl ys x]? with
  | some p => decide (p.1 ≤ x)
  | none => false
theorem shutT_iff {ys : List (Int × Int)} {x : Int} (Y : Yr ys) : shutT ys x = true ↔ ∃ p ∈ ys, p.1 ≤ x ∧ x ≤ p.2 := by
  constructor
  · intro h
    unfold shutT at h
    split at h
    · rename_i p q
      have := (pl_lt (x := x) Y q)
      exact ⟨p, List.mem_of_getElem? q, of_decide_eq_true h, by omega⟩
    · cases h
  · rintro ⟨p, hp, h1, h2⟩
    obtain ⟨n, hn⟩ := List.getElem?_of_mem hp
    have a := pl_lt (x := x) Y hn
    have hlen : n < ys.length := (List.getElem?_eq_some_iff.mp hn).1
    obtain ⟨q, hq⟩ : ∃ q, ys[pl ys x]? = some q := ⟨_, List.getElem?_eq_getElem (by omega)⟩
    have e : pl ys x = n := by
      by_cases z : pl ys x = n
      · exact z
      · have hlt : pl ys x < n := by omega
        have := List.pairwise_iff_getElem.mp Y.up (pl ys x) n (by omega) hlen hlt
        rw [(List.getElem?_eq_some_iff.mp hq).2, (List.getElem?_eq_some_iff.mp hn).2] at this
        have := pl_lt (x := x) Y hq
        omega
    unfold shutT
    rw [e, hn]
    exact decide_eq_true h1
def FShT (F : FT) (i : Nat) : Prop := ∀ (ys : List (Int × Int)) (x : Int), Yr ys → ys.length ≤ 400 → F i [.v (yD ys), .v (.int x)] = some (.v (.bl (shutT ys x)), [.v (yD ys), .v (.int x)])
def shTB (i : Nat) : List Sx := [.asg (.nm 2) (.call i [.v 0, .v 1]), .ret (.and [.cmp .lt (.v 2) (.bi .len [.v 0]), .cmp .le (.idx (.idx (.v 0) (.v 2)) (.k (.int 0))) (.v 1)])]
theorem shT_fn (h : P[j]? = some ⟨2, 3, shTB i⟩) (h0 : FPl (callF P gl k) i) : FShT (callF P gl (k + 1)) j := fun ys x Y hl => by
  refine callF_rt (env := [.v (yD ys), .v (.int x), .v (.int (pl ys x))]) h rfl ?_ rfl rfl
  have c := h0 ys x Y hl
  by_cases hc : pl ys x < ys.length
  · obtain ⟨p, hp⟩ : ∃ p, ys[pl ys x]? = some p := ⟨_, List.getElem?_eq_getElem hc⟩
    have hix : idxD (.tup (ys.map pr)) (.int (pl ys x : Nat)) = some (pr p) := idx_at hp
    have hs : shutT ys x = decide (p.1 ≤ x) := by unfold shutT; rw [hp]
    simp [shTB, exL, exS, ev, evAnd, evOr, evs, evO, evI, tsts, rd, lk, unf, rds, giv, givs, toB, outR, callR, ows, nodupB, argS, bak, asg, asgR, asgT, asgTs, putS, evsF, nrm, nrmL, asgL, c, biD, lt_ok, le_ok, hc, hix, ix0, hs]
  · have hp : ys[pl ys x]? = none := List.getElem?_eq_none (by omega)
    have hs : shutT ys x = false := by unfold shutT; rw [hp]
    simp [shTB, exL, exS, ev, evAnd, evOr, evs, evO, evI, tsts, rd, lk, unf, rds, giv, givs, toB, outR, callR, ows, nodupB, argS, bak, asg, asgR, asgT, asgTs, putS, evsF, nrm, nrmL, asgL, c, biD, lt_ok, le_ok, hc, hs]
def FIsSh (F : FT) (i : Nat) : Prop := ∀ (ys : List (Int × Int)) (x : Int), Yr ys → ys.length ≤ 400 → 0 ≤ x → x ≤ 1000000000000 → F i [.v (yD ys), .v (.int x)] = some (.v (.bl (shutT ys x)), [.v (yD ys), .v (.int x)])
def isShB (a b c : Nat) : List Sx := [.ex (.call a [.v 0]), .ex (.call b [.v 1]), .ret (.call c [.v 0, .v 1])]
theorem isSh_fn {a b c : Nat} (h : P[j]? = some ⟨2, 2, isShB a b c⟩) (h0 : FChkY (callF P gl k) a) (h1 : FChkH (callF P gl k) b) (h2 : FShT (callF P gl k) c) : FIsSh (callF P gl (k + 1)) j := fun ys x Y hl x0 x1 => by
  refine callF_rt (env := [.v (yD ys), .v (.int x)]) h rfl ?_ rfl rfl
  simp [isShB, exL, exS, ev, evAnd, evOr, evs, evO, evI, tsts, rd, lk, unf, rds, giv, givs, toB, outR, callR, ows, nodupB, argS, bak, asg, asgR, asgT, asgTs, putS, evsF, nrm, nrmL, asgL, h0 ys Y hl, h1 x x0 x1, h2 ys x Y hl]
end
end PL
set_option maxHeartbeats 8000000
namespace K01
open PySem PySem.Spec PL
def d_is_integer : Df := ⟨1, 1, [.ret (.and [.isi (.v 0) .int, .not (.isi (.v 0) .bool)])]⟩
def d_is_within_range : Df := ⟨3, 3, [.ret (.and [.call 0 [.v 0], .cmp2 .le .le (.v 1) (.v 0) (.v 2)])]⟩
def d_is_hour : Df := ⟨1, 1, [.ret (.call 1 [.v 0, .k (.int 0), .g "MOST_HOUR"])]⟩
def d_check_hour : Df := ⟨1, 1, [.ife (.not (.call 2 [.v 0])) [.rse] []]⟩
def d_is_tuple_of : Df := ⟨3, 3, [.ret (.and [.isi (.v 0) .tuple, .cmp2 .le .le (.v 1) (.bi .len [.v 0]) (.v 2)])]⟩
def d_is_stretch : Df := ⟨1, 1, [.ret (.and [.call 4 [.v 0, .k (.int 2), .k (.int 2)], .call 2 [.idx (.v 0) (.k (.int 0))], .call 2 [.idx (.v 0) (.k (.int 1))], .cmp .le (.idx (.v 0) (.k (.int 0))) (.idx (.v 0) (.k (.int 1)))])]⟩
def d_is_year : Df := ⟨1, 3, [.ife (.or [.not (.call 4 [.v 0, .k (.int 0), .g "MOST_STRETCHES"]), .not (.bi .all [.lc (.call 5 [.v 1]) (.nm 1) (.e (.v 0)) [] [1]])]) [.ret (.k (.bl false))] [], .ret (.bi .all [.lc (.cmp .gt (.idx (.v 2) (.k (.int 0))) (.bin .add (.idx (.v 1) (.k (.int 1))) (.k (.int 1)))) (.tp [.nm 1, .nm 2]) (.zip (.v 0) (.slc (.v 0) (some (.k (.int 1))) none)) [] [1, 2]])]⟩
def d_check_year : Df := ⟨1, 1, [.ife (.not (.call 6 [.v 0])) [.rse] []]⟩
def d_place_of : Df := ⟨2, 5, [.par [2, 3] [.k (.int 0), .bi .len [.v 0]], .wh (.cmp .lt (.v 2) (.v 3)) [.asg (.nm 4) (.bin .div (.bin .add (.v 2) (.v 3)) (.k (.int 2))), .ife (.cmp .lt (.idx (.idx (.v 0) (.v 4)) (.k (.int 1))) (.v 1)) [.asg (.nm 2) (.bin .add (.v 4) (.k (.int 1)))] [.asg (.nm 3) (.v 4)]], .ret (.v 2)]⟩
def d_shut_there : Df := ⟨2, 3, [.asg (.nm 2) (.call 8 [.v 0, .v 1]), .ret (.and [.cmp .lt (.v 2) (.bi .len [.v 0]), .cmp .le (.idx (.idx (.v 0) (.v 2)) (.k (.int 0))) (.v 1)])]⟩
def d_is_shut : Df := ⟨2, 2, [.ex (.call 7 [.v 0]), .ex (.call 3 [.v 1]), .ret (.call 9 [.v 0, .v 1])]⟩
def d_open_from : Df := ⟨2, 3, [.asg (.nm 2) (.call 8 [.v 0, .v 1]), .ret (.ite (.or [.cmp .eq (.v 2) (.bi .len [.v 0]), .cmp .gt (.idx (.idx (.v 0) (.v 2)) (.k (.int 0))) (.v 1)]) (.v 1) (.bin .add (.idx (.idx (.v 0) (.v 2)) (.k (.int 1))) (.k (.int 1))))]⟩
def d_next_open : Df := ⟨2, 3, [.ex (.call 7 [.v 0]), .ex (.call 3 [.v 1]), .asg (.nm 2) (.call 11 [.v 0, .v 1]), .ret (.ite (.cmp .le (.v 2) (.g "MOST_HOUR")) (.v 2) (.k .non))]⟩
def d_next_shut : Df := ⟨2, 3, [.ex (.call 7 [.v 0]), .ex (.call 3 [.v 1]), .asg (.nm 2) (.call 8 [.v 0, .v 1]), .ret (.ite (.cmp .lt (.v 2) (.bi .len [.v 0])) (.bi .max [.v 1, .idx (.idx (.v 0) (.v 2)) (.k (.int 0))]) (.k .non))]⟩
def d__law_hand : Df := ⟨1, 3, [.asc 1 (.lc (.bin .mod (.bi .abs [.bi .int [.v 2]]) (.bin .pow (.k (.int 10)) (.k (.int 36)))) (.nm 2) (.e (.slc (.v 0) none (some (.k (.int 60))))) [] [2]), .ret (.lst [.v 1, .k (.int 0), .k (.int 0), .bin .add (.k (.int 16618)) (.bin .mul (.k (.int 31)) (.bi .len [.v 1])), .k (.int 0)])]⟩
def d__law_draw : Df := ⟨2, 5, [.ife (.and [.cmp .eq (.idx (.v 0) (.k (.int 2))) (.k (.int 0)), .cmp .lt (.idx (.v 0) (.k (.int 1))) (.bi .len [.idx (.v 0) (.k (.int 0))])]) [.asg (.nm 2) (.idx (.idx (.v 0) (.k (.int 0))) (.idx (.v 0) (.k (.int 1)))), .sto 0 (.k (.int 1)) (.bin .add (.idx (.v 0) (.k (.int 1))) (.k (.int 1))), .sto 0 (.k (.int 3)) (.bin .mod (.bi .int [.bin .add (.bin .add (.bin .mul (.idx (.v 0) (.k (.int 3))) (.k (.int 48271))) (.bin .mul (.bin .mod (.v 2) (.k (.int 2147483629))) (.k (.int 69621)))) (.k (.int 17))]) (.k (.int 2147483629))), .ife (.cmp .ge (.v 2) (.bin .pow (.k (.int 10)) (.k (.int 15)))) [.sto 0 (.k (.int 2)) (.v 2)] []] [], .ife (.cmp .gt (.idx (.v 0) (.k (.int 2))) (.k (.int 0))) [.asg (.nm 3) (.bin .mod (.bi .int [.idx (.v 0) (.k (.int 2))]) (.v 1)), .sto 0 (.k (.int 2)) (.bin .div (.bi .int [.idx (.v 0) (.k (.int 2))]) (.v 1)), .ret (.v 3)] [], .sto 0 (.k (.int 4)) (.bin .add (.idx (.v 0) (.k (.int 4))) (.k (.int 1))), .asg (.nm 4) (.bin .mod (.bi .int [.bin .mul (.bi .int [.bin .add (.idx (.v 0) (.k (.int 3))) (.bin .mul (.k (.int 7919)) (.idx (.v 0) (.k (.int 4))))]) (.k (.int 40692))]) (.k (.int 2147483399))), .asg (.nm 4) (.bin .mod (.bi .int [.bin .mul (.v 4) (.bin .add (.bin .div (.v 4) (.k (.int 1009))) (.k (.int 30011)))]) (.k (.int 2147483647))), .ret (.bin .mod (.bi .int [.bin .div (.v 4) (.k (.int 32))]) (.v 1))]⟩
def d__law_some : Df := ⟨2, 2, [.ret (.idx (.v 1) (.call 15 [.v 0, .bi .len [.v 1]]))]⟩
def d__law_kept : Df := ⟨2, 2, [.ret (.cmp .eq (.bi .repr [.v 0]) (.bi .repr [.v 1]))]⟩
def d__law_wide_year : Df := ⟨2, 6, [.par [2, 3] [.lst [], .call 16 [.v 0, .lst [.k (.int 0), .k (.int 1), .call 15 [.v 0, .bin .add (.k (.int 1)) (.bin .div (.v 1) (.k (.int 4)))]]]], .fr (.nm 4) (.rg1 (.call 16 [.v 0, .lst [.k (.int 0), .k (.int 1), .k (.int 3), .k (.int 6), .call 15 [.v 0, .k (.int 9)]]])) [.asg (.nm 5) (.bin .add (.v 3) (.call 16 [.v 0, .lst [.k (.int 0), .k (.int 0), .k (.int 1), .call 15 [.v 0, .bin .add (.k (.int 1)) (.bin .div (.v 1) (.k (.int 6)))]]])), .ife (.cmp .le (.v 5) (.v 1)) [.ex (.ml .append 2 [.tup [.v 3, .v 5]])] [], .asg (.nm 3) (.bin .add (.bin .add (.v 5) (.k (.int 2))) (.call 16 [.v 0, .lst [.k (.int 0), .k (.int 0), .k (.int 1), .call 15 [.v 0, .bin .add (.k (.int 1)) (.bin .div (.v 1) (.k (.int 6)))]]]))], .ret (.bi .tuple [.v 2])]⟩
def d__law_far_year : Df := ⟨1, 6, [.asg (.nm 1) (.bin .pow (.k (.int 10)) (.k (.int 12))), .par [2, 3] [.lst [], .call 20 [.v 0, .v 1]], .fr (.nm 4) (.rg1 (.call 15 [.v 0, .k (.int 5)])) [.asg (.nm 5) (.bi .min [.v 1, .bin .add (.v 3) (.call 16 [.v 0, .lst [.k (.int 0), .k (.int 1), .call 20 [.v 0, .bin .pow (.k (.int 10)) (.k (.int 9))], .call 20 [.v 0, .v 1]]])]), .ife (.cmp .le (.v 3) (.v 1)) [.ex (.ml .append 2 [.tup [.v 3, .v 5]])] [], .asg (.nm 3) (.bin .add (.bin .add (.v 5) (.k (.int 2))) (.call 16 [.v 0, .lst [.k (.int 0), .k (.int 1), .call 20 [.v 0, .bin .pow (.k (.int 10)) (.k (.int 10))]]]))], .ret (.bi .tuple [.v 2])]⟩
def d__law_far : Df := ⟨2, 2, [.ret (.bin .mod (.bi .int [.bin .add (.bin .mul (.call 15 [.v 0, .bin .pow (.k (.int 10)) (.k (.int 7))]) (.bin .pow (.k (.int 10)) (.k (.int 7)))) (.call 15 [.v 0, .bin .pow (.k (.int 10)) (.k (.int 7))])]) (.bin .add (.v 1) (.k (.int 1))))]⟩
def d__law_next_open : Df := ⟨2, 5, [.asg (.nm 2) (.v 1), .fr (.tp [.nm 3, .nm 4]) (.e (.v 0)) [.asg (.nm 2) (.ite (.cmp2 .le .le (.v 3) (.v 2) (.v 4)) (.bin .add (.v 4) (.k (.int 1))) (.v 2))], .ret (.ite (.cmp .le (.v 2) (.bin .pow (.k (.int 10)) (.k (.int 12)))) (.v 2) (.k .non))]⟩
def d__law_next_shut : Df := ⟨2, 5, [.asc 2 (.lc (.bi .max [.v 3, .v 1]) (.tp [.nm 3, .nm 4]) (.e (.v 0)) [.cmp .ge (.v 4) (.v 1)] [3, 4]), .ret (.ite (.cmp .ne (.v 2) (.lst [])) (.bi .min [.v 2]) (.k .non))]⟩
def d_law : Df := ⟨1, 12, [.asg (.nm 1) (.call 14 [.v 0]), .fr (.nm 2) (.rg1 (.k (.int 10))) [.asg (.nm 3) (.ite (.cmp .lt (.v 2) (.k (.int 6))) (.call 18 [.v 1, .k (.int 300)]) (.call 19 [.v 1])), .ife (.cmp .eq (.v 2) (.k (.int 9))) [.asg (.nm 4) (.tup [.bin .sub (.bin .pow (.k (.int 10)) (.k (.int 12))) (.call 15 [.v 1, .k (.int 3)]), .bin .pow (.k (.int 10)) (.k (.int 12))]), .asg (.nm 3) (.bin .add (.bi .tuple [.lc (.v 11) (.nm 11) (.e (.v 3)) [.cmp .lt (.idx (.v 11) (.k (.int 1))) (.bin .sub (.bin .pow (.k (.int 10)) (.k (.int 12))) (.k (.int 9)))] [11]]) (.tup [.v 4]))] [], .asg (.nm 5) (.lst [.k (.int 0), .bin .pow (.k (.int 10)) (.k (.int 12)), .bin .sub (.bin .pow (.k (.int 10)) (.k (.int 12))) (.k (.int 1)), .call 15 [.v 1, .k (.int 300)], .call 20 [.v 1, .bin .pow (.k (.int 10)) (.k (.int 12))]]), .fr (.tp [.nm 6, .nm 7]) (.e (.v 3)) [.asg (.nm 5) (.bin .add (.v 5) (.lst [.v 6, .v 7, .bi .max [.k (.int 0), .bin .sub (.v 6) (.k (.int 1))], .bi .min [.bin .pow (.k (.int 10)) (.k (.int 12)), .bin .add (.v 7) (.k (.int 1))]]))], .fr (.nm 8) (.e (.v 5)) [.par [9, 10] [.call 12 [.v 3, .v 8], .call 13 [.v 3, .v 8]], .ife (.not (.call 17 [.lst [.v 9, .v 10], .lst [.call 21 [.v 3, .v 8], .call 22 [.v 3, .v 8]]])) [.ret (.k (.bl false))] [], .ife (.and [.cmp .isNot (.v 9) (.k .non), .cmp .isNot (.call 10 [.v 3, .v 9]) (.k (.bl false))]) [.ret (.k (.bl false))] [], .ife (.and [.cmp .isNot (.v 10) (.k .non), .cmp .isNot (.call 10 [.v 3, .v 10]) (.k (.bl true))]) [.ret (.k (.bl false))] []]], .ret (.and [.cmp .is (.call 12 [.tup [.tup [.k (.int 0), .bin .pow (.k (.int 10)) (.k (.int 12))]], .k (.int 7)]) (.k .non), .cmp .is (.call 13 [.tup [], .k (.int 0)]) (.k .non), .cmp .eq (.call 12 [.tup [.tup [.k (.int 0), .k (.int 3)], .tup [.k (.int 5), .k (.int 5)]], .k (.int 2)]) (.k (.int 4))])]⟩
def P : List Df := [d_is_integer, d_is_within_range, d_is_hour, d_check_hour, d_is_tuple_of, d_is_stretch, d_is_year, d_check_year, d_place_of, d_shut_there, d_is_shut, d_open_from, d_next_open, d_next_shut, d__law_hand, d__law_draw, d__law_some, d__law_kept, d__law_wide_year, d__law_far_year, d__law_far, d__law_next_open, d__law_next_shut, d_law]
def nms : List Str := ["is_integer", "is_within_range", "is_hour", "check_hour", "is_tuple_of", "is_stretch", "is_year", "check_year", "place_of", "shut_there", "is_shut", "open_from", "next_open", "next_shut", "_law_hand", "_law_draw", "_law_some", "_law_kept", "_law_wide_year", "_law_far_year", "_law_far", "_law_next_open", "_law_next_shut", "law"]
def gls : List (Str × D) := [("MOST_HOUR", .int (1000000000000)), ("MOST_STRETCHES", .int (400))]
def bls : List Str := ["isinstance", "int", "bool", "tuple", "len", "all", "zip", "max", "abs", "repr", "range", "min"]
abbrev gl : Str → Option D := fun x => gls.lookup x
end K01
set_option maxHeartbeats 8000000
namespace K01
open PySem PySem.Spec PyProof.Rows L2 PL
def top (i : Nat) : Stmt := PySem.Challenge.pw_dayshut_k01_whole_next_open_and_next_shu.main.body.getD i (.Pass ⟨0, 0, 0, 0⟩)
abbrev B : Tb := ⟨fun n => nms[n]?, fun n => ((P[n]?).map Df.np).getD 0, fun x => gls.lookup x, bls⟩
theorem s_is_integer : FnScope ["thing"] ["thing"] (defScope (top 6)) := ⟨rfl, rfl, rfl, by decide +kernel, rfl, by decide +kernel, by decide +kernel⟩
theorem c_is_integer : chkSs B ["thing"] (defScope (top 6)) d_is_integer.body (defBody (top 6)) = true := by decide +kernel
theorem s_is_within_range : FnScope ["thing", "low", "high"] ["thing", "low", "high"] (defScope (top 7)) := ⟨rfl, rfl, rfl, by decide +kernel, rfl, by decide +kernel, by decide +kernel⟩
theorem c_is_within_range : chkSs B ["thing", "low", "high"] (defScope (top 7)) d_is_within_range.body (defBody (top 7)) = true := by decide +kernel
theorem s_is_hour : FnScope ["thing"] ["thing"] (defScope (top 8)) := ⟨rfl, rfl, rfl, by decide +kernel, rfl, by decide +kernel, by decide +kernel⟩
theorem c_is_hour : chkSs B ["thing"] (defScope (top 8)) d_is_hour.body (defBody (top 8)) = true := by decide +kernel
theorem s_check_hour : FnScope ["thing"] ["thing"] (defScope (top 9)) := ⟨rfl, rfl, rfl, by decide +kernel, rfl, by decide +kernel, by decide +kernel⟩
theorem c_check_hour : chkSs B ["thing"] (defScope (top 9)) d_check_hour.body (defBody (top 9)) = true := by decide +kernel
theorem s_is_tuple_of : FnScope ["thing", "least", "most"] ["thing", "least", "most"] (defScope (top 10)) := ⟨rfl, rfl, rfl, by decide +kernel, rfl, by decide +kernel, by decide +kernel⟩
theorem c_is_tuple_of : chkSs B ["thing", "least", "most"] (defScope (top 10)) d_is_tuple_of.body (defBody (top 10)) = true := by decide +kernel
theorem s_is_stretch : FnScope ["thing"] ["thing"] (defScope (top 13)) := ⟨rfl, rfl, rfl, by decide +kernel, rfl, by decide +kernel, by decide +kernel⟩
theorem c_is_stretch : chkSs B ["thing"] (defScope (top 13)) d_is_stretch.body (defBody (top 13)) = true := by decide +kernel
theorem s_is_year : FnScope ["thing", "one", "other"] ["thing"] (defScope (top 14)) := ⟨rfl, rfl, rfl, by decide +kernel, rfl, by decide +kernel, by decide +kernel⟩
theorem c_is_year : chkSs B ["thing", "one", "other"] (defScope (top 14)) d_is_year.body (defBody (top 14)) = true := by decide +kernel
theorem s_check_year : FnScope ["thing"] ["thing"] (defScope (top 15)) := ⟨rfl, rfl, rfl, by decide +kernel, rfl, by decide +kernel, by decide +kernel⟩
theorem c_check_year : chkSs B ["thing"] (defScope (top 15)) d_check_year.body (defBody (top 15)) = true := by decide +kernel
theorem s_place_of : FnScope ["year", "hour", "low", "high", "middle"] ["year", "hour"] (defScope (top 16)) := ⟨rfl, rfl, rfl, by decide +kernel, rfl, by decide +kernel, by decide +kernel⟩
theorem c_place_of : chkSs B ["year", "hour", "low", "high", "middle"] (defScope (top 16)) d_place_of.body (defBody (top 16)) = true := by decide +kernel
theorem s_shut_there : FnScope ["year", "hour", "at"] ["year", "hour"] (defScope (top 17)) := ⟨rfl, rfl, rfl, by decide +kernel, rfl, by decide +kernel, by decide +kernel⟩
theorem c_shut_there : chkSs B ["year", "hour", "at"] (defScope (top 17)) d_shut_there.body (defBody (top 17)) = true := by decide +kernel
theorem s_is_shut : FnScope ["year", "hour"] ["year", "hour"] (defScope (top 18)) := ⟨rfl, rfl, rfl, by decide +kernel, rfl, by decide +kernel, by decide +kernel⟩
theorem c_is_shut : chkSs B ["year", "hour"] (defScope (top 18)) d_is_shut.body (defBody (top 18)) = true := by decide +kernel
theorem s_open_from : FnScope ["year", "hour", "at"] ["year", "hour"] (defScope (top 19)) := ⟨rfl, rfl, rfl, by decide +kernel, rfl, by decide +kernel, by decide +kernel⟩
theorem c_open_from : chkSs B ["year", "hour", "at"] (defScope (top 19)) d_open_from.body (defBody (top 19)) = true := by decide +kernel
theorem s_next_open : FnScope ["year", "hour", "found"] ["year", "hour"] (defScope (top 20)) := ⟨rfl, rfl, rfl, by decide +kernel, rfl, by decide +kernel, by decide +kernel⟩
theorem c_next_open : chkSs B ["year", "hour", "found"] (defScope (top 20)) d_next_open.body (defBody (top 20)) = true := by decide +kernel
theorem s_next_shut : FnScope ["year", "hour", "at"] ["year", "hour"] (defScope (top 21)) := ⟨rfl, rfl, rfl, by decide +kernel, rfl, by decide +kernel, by decide +kernel⟩
theorem c_next_shut : chkSs B ["year", "hour", "at"] (defScope (top 21)) d_next_shut.body (defBody (top 21)) = true := by decide +kernel
theorem s__law_hand : FnScope ["script", "cells", "cell"] ["script"] (defScope (top 23)) := ⟨rfl, rfl, rfl, by decide +kernel, rfl, by decide +kernel, by decide +kernel⟩
theorem c__law_hand : chkSs B ["script", "cells", "cell"] (defScope (top 23)) d__law_hand.body (defBody (top 23)) = true := by decide +kernel
theorem s__law_draw : FnScope ["hand", "many", "cell", "digit", "number"] ["hand", "many"] (defScope (top 24)) := ⟨rfl, rfl, rfl, by decide +kernel, rfl, by decide +kernel, by decide +kernel⟩
theorem c__law_draw : chkSs B ["hand", "many", "cell", "digit", "number"] (defScope (top 24)) d__law_draw.body (defBody (top 24)) = true := by decide +kernel
theorem s__law_some : FnScope ["hand", "things"] ["hand", "things"] (defScope (top 25)) := ⟨rfl, rfl, rfl, by decide +kernel, rfl, by decide +kernel, by decide +kernel⟩
theorem c__law_some : chkSs B ["hand", "things"] (defScope (top 25)) d__law_some.body (defBody (top 25)) = true := by decide +kernel
theorem s__law_kept : FnScope ["thing", "due"] ["thing", "due"] (defScope (top 26)) := ⟨rfl, rfl, rfl, by decide +kernel, rfl, by decide +kernel, by decide +kernel⟩
theorem c__law_kept : chkSs B ["thing", "due"] (defScope (top 26)) d__law_kept.body (defBody (top 26)) = true := by decide +kernel
theorem s__law_wide_year : FnScope ["hand", "most", "found", "here", "turn", "end"] ["hand", "most"] (defScope (top 27)) := ⟨rfl, rfl, rfl, by decide +kernel, rfl, by decide +kernel, by decide +kernel⟩
theorem c__law_wide_year : chkSs B ["hand", "most", "found", "here", "turn", "end"] (defScope (top 27)) d__law_wide_year.body (defBody (top 27)) = true := by decide +kernel
theorem s__law_far_year : FnScope ["hand", "most", "found", "here", "turn", "end"] ["hand"] (defScope (top 28)) := ⟨rfl, rfl, rfl, by decide +kernel, rfl, by decide +kernel, by decide +kernel⟩
theorem c__law_far_year : chkSs B ["hand", "most", "found", "here", "turn", "end"] (defScope (top 28)) d__law_far_year.body (defBody (top 28)) = true := by decide +kernel
theorem s__law_far : FnScope ["hand", "most"] ["hand", "most"] (defScope (top 29)) := ⟨rfl, rfl, rfl, by decide +kernel, rfl, by decide +kernel, by decide +kernel⟩
theorem c__law_far : chkSs B ["hand", "most"] (defScope (top 29)) d__law_far.body (defBody (top 29)) = true := by decide +kernel
theorem s__law_next_open : FnScope ["year", "hour", "here", "first", "last"] ["year", "hour"] (defScope (top 30)) := ⟨rfl, rfl, rfl, by decide +kernel, rfl, by decide +kernel, by decide +kernel⟩
theorem c__law_next_open : chkSs B ["year", "hour", "here", "first", "last"] (defScope (top 30)) d__law_next_open.body (defBody (top 30)) = true := by decide +kernel
theorem s__law_next_shut : FnScope ["year", "hour", "some", "first", "last"] ["year", "hour"] (defScope (top 31)) := ⟨rfl, rfl, rfl, by decide +kernel, rfl, by decide +kernel, by decide +kernel⟩
theorem c__law_next_shut : chkSs B ["year", "hour", "some", "first", "last"] (defScope (top 31)) d__law_next_shut.body (defBody (top 31)) = true := by decide +kernel
theorem s_law : FnScope ["script", "hand", "turn", "year", "late", "hours", "first", "last", "hour", "opened", "shut", "pair"] ["script"] (defScope (top 32)) := ⟨rfl, rfl, rfl, by decide +kernel, rfl, by decide +kernel, by decide +kernel⟩
theorem c_law : chkSs B ["script", "hand", "turn", "year", "late", "hours", "first", "last", "hour", "opened", "shut", "pair"] (defScope (top 32)) d_law.body (defBody (top 32)) = true := by decide +kernel
theorem tab {K : PySem.W.Frag} {h : Heap} {mg : Str → Option Value} {q : Program} {lv : List (Str × PySem.W.WData)} (kin : K.In h) (ns : h.Ns mainGlobals mg) (X : PySem.W.XL q lv mg h)
    (m_MOST_HOUR : (("MOST_HOUR" : Str), PySem.W.WData.int (1000000000000)) ∈ lv)
    {f0 : Addr} {oc0 : Value} {od0 an0 : Option Addr} {sl0 : Array (Option Value)} {kV0 dc0 pm0 cd0 ct0 : Value}
    (a0 : PySem.W.nsIn K mainGlobals "is_integer" = some (some (.ref f0))) (l0 : K.lookup f0 = some ⟨oc0, od0, .func (PySem.W.fnOf "is_integer" "is_integer" (defArgs (top 6)) (defBody (top 6)) (defScope (top 6)) .none kV0 dc0 pm0 an0 cd0 ct0), sl0⟩) (c0 : PySem.W.codeIn K cd0 "is_integer" = true) (k0 : PySem.W.keepIn K (.ref f0) = true)
    {f1 : Addr} {oc1 : Value} {od1 an1 : Option Addr} {sl1 : Array (Option Value)} {kV1 dc1 pm1 cd1 ct1 : Value}
    (a1 : PySem.W.nsIn K mainGlobals "is_within_range" = some (some (.ref f1))) (l1 : K.lookup f1 = some ⟨oc1, od1, .func (PySem.W.fnOf "is_within_range" "is_within_range" (defArgs (top 7)) (defBody (top 7)) (defScope (top 7)) .none kV1 dc1 pm1 an1 cd1 ct1), sl1⟩) (c1 : PySem.W.codeIn K cd1 "is_within_range" = true) (k1 : PySem.W.keepIn K (.ref f1) = true)
    {f2 : Addr} {oc2 : Value} {od2 an2 : Option Addr} {sl2 : Array (Option Value)} {kV2 dc2 pm2 cd2 ct2 : Value}
    (a2 : PySem.W.nsIn K mainGlobals "is_hour" = some (some (.ref f2))) (l2 : K.lookup f2 = some ⟨oc2, od2, .func (PySem.W.fnOf "is_hour" "is_hour" (defArgs (top 8)) (defBody (top 8)) (defScope (top 8)) .none kV2 dc2 pm2 an2 cd2 ct2), sl2⟩) (c2 : PySem.W.codeIn K cd2 "is_hour" = true) (k2 : PySem.W.keepIn K (.ref f2) = true)
    {f3 : Addr} {oc3 : Value} {od3 an3 : Option Addr} {sl3 : Array (Option Value)} {kV3 dc3 pm3 cd3 ct3 : Value}
    (a3 : PySem.W.nsIn K mainGlobals "check_hour" = some (some (.ref f3))) (l3 : K.lookup f3 = some ⟨oc3, od3, .func (PySem.W.fnOf "check_hour" "check_hour" (defArgs (top 9)) (defBody (top 9)) (defScope (top 9)) .none kV3 dc3 pm3 an3 cd3 ct3), sl3⟩) (c3 : PySem.W.codeIn K cd3 "check_hour" = true) (k3 : PySem.W.keepIn K (.ref f3) = true)
    {f4 : Addr} {oc4 : Value} {od4 an4 : Option Addr} {sl4 : Array (Option Value)} {kV4 dc4 pm4 cd4 ct4 : Value}
    (a4 : PySem.W.nsIn K mainGlobals "is_tuple_of" = some (some (.ref f4))) (l4 : K.lookup f4 = some ⟨oc4, od4, .func (PySem.W.fnOf "is_tuple_of" "is_tuple_of" (defArgs (top 10)) (defBody (top 10)) (defScope (top 10)) .none kV4 dc4 pm4 an4 cd4 ct4), sl4⟩) (c4 : PySem.W.codeIn K cd4 "is_tuple_of" = true) (k4 : PySem.W.keepIn K (.ref f4) = true)
    {f5 : Addr} {oc5 : Value} {od5 an5 : Option Addr} {sl5 : Array (Option Value)} {kV5 dc5 pm5 cd5 ct5 : Value}
    (a5 : PySem.W.nsIn K mainGlobals "is_stretch" = some (some (.ref f5))) (l5 : K.lookup f5 = some ⟨oc5, od5, .func (PySem.W.fnOf "is_stretch" "is_stretch" (defArgs (top 13)) (defBody (top 13)) (defScope (top 13)) .none kV5 dc5 pm5 an5 cd5 ct5), sl5⟩) (c5 : PySem.W.codeIn K cd5 "is_stretch" = true) (k5 : PySem.W.keepIn K (.ref f5) = true)
    {f6 : Addr} {oc6 : Value} {od6 an6 : Option Addr} {sl6 : Array (Option Value)} {kV6 dc6 pm6 cd6 ct6 : Value}
    (a6 : PySem.W.nsIn K mainGlobals "is_year" = some (some (.ref f6))) (l6 : K.lookup f6 = some ⟨oc6, od6, .func (PySem.W.fnOf "is_year" "is_year" (defArgs (top 14)) (defBody (top 14)) (defScope (top 14)) .none kV6 dc6 pm6 an6 cd6 ct6), sl6⟩) (c6 : PySem.W.codeIn K cd6 "is_year" = true) (k6 : PySem.W.keepIn K (.ref f6) = true)
    {f7 : Addr} {oc7 : Value} {od7 an7 : Option Addr} {sl7 : Array (Option Value)} {kV7 dc7 pm7 cd7 ct7 : Value}
    (a7 : PySem.W.nsIn K mainGlobals "check_year" = some (some (.ref f7))) (l7 : K.lookup f7 = some ⟨oc7, od7, .func (PySem.W.fnOf "check_year" "check_year" (defArgs (top 15)) (defBody (top 15)) (defScope (top 15)) .none kV7 dc7 pm7 an7 cd7 ct7), sl7⟩) (c7 : PySem.W.codeIn K cd7 "check_year" = true) (k7 : PySem.W.keepIn K (.ref f7) = true)
    {f8 : Addr} {oc8 : Value} {od8 an8 : Option Addr} {sl8 : Array (Option Value)} {kV8 dc8 pm8 cd8 ct8 : Value}
    (a8 : PySem.W.nsIn K mainGlobals "place_of" = some (some (.ref f8))) (l8 : K.lookup f8 = some ⟨oc8, od8, .func (PySem.W.fnOf "place_of" "place_of" (defArgs (top 16)) (defBody (top 16)) (defScope (top 16)) .none kV8 dc8 pm8 an8 cd8 ct8), sl8⟩) (c8 : PySem.W.codeIn K cd8 "place_of" = true) (k8 : PySem.W.keepIn K (.ref f8) = true)
    {f9 : Addr} {oc9 : Value} {od9 an9 : Option Addr} {sl9 : Array (Option Value)} {kV9 dc9 pm9 cd9 ct9 : Value}
    (a9 : PySem.W.nsIn K mainGlobals "shut_there" = some (some (.ref f9))) (l9 : K.lookup f9 = some ⟨oc9, od9, .func (PySem.W.fnOf "shut_there" "shut_there" (defArgs (top 17)) (defBody (top 17)) (defScope (top 17)) .none kV9 dc9 pm9 an9 cd9 ct9), sl9⟩) (c9 : PySem.W.codeIn K cd9 "shut_there" = true) (k9 : PySem.W.keepIn K (.ref f9) = true)
    {f10 : Addr} {oc10 : Value} {od10 an10 : Option Addr} {sl10 : Array (Option Value)} {kV10 dc10 pm10 cd10 ct10 : Value}
    (a10 : PySem.W.nsIn K mainGlobals "is_shut" = some (some (.ref f10))) (l10 : K.lookup f10 = some ⟨oc10, od10, .func (PySem.W.fnOf "is_shut" "is_shut" (defArgs (top 18)) (defBody (top 18)) (defScope (top 18)) .none kV10 dc10 pm10 an10 cd10 ct10), sl10⟩) (c10 : PySem.W.codeIn K cd10 "is_shut" = true) (k10 : PySem.W.keepIn K (.ref f10) = true)
    {f11 : Addr} {oc11 : Value} {od11 an11 : Option Addr} {sl11 : Array (Option Value)} {kV11 dc11 pm11 cd11 ct11 : Value}
    (a11 : PySem.W.nsIn K mainGlobals "open_from" = some (some (.ref f11))) (l11 : K.lookup f11 = some ⟨oc11, od11, .func (PySem.W.fnOf "open_from" "open_from" (defArgs (top 19)) (defBody (top 19)) (defScope (top 19)) .none kV11 dc11 pm11 an11 cd11 ct11), sl11⟩) (c11 : PySem.W.codeIn K cd11 "open_from" = true) (k11 : PySem.W.keepIn K (.ref f11) = true)
    {f12 : Addr} {oc12 : Value} {od12 an12 : Option Addr} {sl12 : Array (Option Value)} {kV12 dc12 pm12 cd12 ct12 : Value}
    (a12 : PySem.W.nsIn K mainGlobals "next_open" = some (some (.ref f12))) (l12 : K.lookup f12 = some ⟨oc12, od12, .func (PySem.W.fnOf "next_open" "next_open" (defArgs (top 20)) (defBody (top 20)) (defScope (top 20)) .none kV12 dc12 pm12 an12 cd12 ct12), sl12⟩) (c12 : PySem.W.codeIn K cd12 "next_open" = true) (k12 : PySem.W.keepIn K (.ref f12) = true)
    {f13 : Addr} {oc13 : Value} {od13 an13 : Option Addr} {sl13 : Array (Option Value)} {kV13 dc13 pm13 cd13 ct13 : Value}
    (a13 : PySem.W.nsIn K mainGlobals "next_shut" = some (some (.ref f13))) (l13 : K.lookup f13 = some ⟨oc13, od13, .func (PySem.W.fnOf "next_shut" "next_shut" (defArgs (top 21)) (defBody (top 21)) (defScope (top 21)) .none kV13 dc13 pm13 an13 cd13 ct13), sl13⟩) (c13 : PySem.W.codeIn K cd13 "next_shut" = true) (k13 : PySem.W.keepIn K (.ref f13) = true)
    {f14 : Addr} {oc14 : Value} {od14 an14 : Option Addr} {sl14 : Array (Option Value)} {kV14 dc14 pm14 cd14 ct14 : Value}
    (a14 : PySem.W.nsIn K mainGlobals "_law_hand" = some (some (.ref f14))) (l14 : K.lookup f14 = some ⟨oc14, od14, .func (PySem.W.fnOf "_law_hand" "_law_hand" (defArgs (top 23)) (defBody (top 23)) (defScope (top 23)) .none kV14 dc14 pm14 an14 cd14 ct14), sl14⟩) (c14 : PySem.W.codeIn K cd14 "_law_hand" = true) (k14 : PySem.W.keepIn K (.ref f14) = true)
    {f15 : Addr} {oc15 : Value} {od15 an15 : Option Addr} {sl15 : Array (Option Value)} {kV15 dc15 pm15 cd15 ct15 : Value}
    (a15 : PySem.W.nsIn K mainGlobals "_law_draw" = some (some (.ref f15))) (l15 : K.lookup f15 = some ⟨oc15, od15, .func (PySem.W.fnOf "_law_draw" "_law_draw" (defArgs (top 24)) (defBody (top 24)) (defScope (top 24)) .none kV15 dc15 pm15 an15 cd15 ct15), sl15⟩) (c15 : PySem.W.codeIn K cd15 "_law_draw" = true) (k15 : PySem.W.keepIn K (.ref f15) = true)
    {f16 : Addr} {oc16 : Value} {od16 an16 : Option Addr} {sl16 : Array (Option Value)} {kV16 dc16 pm16 cd16 ct16 : Value}
    (a16 : PySem.W.nsIn K mainGlobals "_law_some" = some (some (.ref f16))) (l16 : K.lookup f16 = some ⟨oc16, od16, .func (PySem.W.fnOf "_law_some" "_law_some" (defArgs (top 25)) (defBody (top 25)) (defScope (top 25)) .none kV16 dc16 pm16 an16 cd16 ct16), sl16⟩) (c16 : PySem.W.codeIn K cd16 "_law_some" = true) (k16 : PySem.W.keepIn K (.ref f16) = true)
    {f17 : Addr} {oc17 : Value} {od17 an17 : Option Addr} {sl17 : Array (Option Value)} {kV17 dc17 pm17 cd17 ct17 : Value}
    (a17 : PySem.W.nsIn K mainGlobals "_law_kept" = some (some (.ref f17))) (l17 : K.lookup f17 = some ⟨oc17, od17, .func (PySem.W.fnOf "_law_kept" "_law_kept" (defArgs (top 26)) (defBody (top 26)) (defScope (top 26)) .none kV17 dc17 pm17 an17 cd17 ct17), sl17⟩) (c17 : PySem.W.codeIn K cd17 "_law_kept" = true) (k17 : PySem.W.keepIn K (.ref f17) = true)
    {f18 : Addr} {oc18 : Value} {od18 an18 : Option Addr} {sl18 : Array (Option Value)} {kV18 dc18 pm18 cd18 ct18 : Value}
    (a18 : PySem.W.nsIn K mainGlobals "_law_wide_year" = some (some (.ref f18))) (l18 : K.lookup f18 = some ⟨oc18, od18, .func (PySem.W.fnOf "_law_wide_year" "_law_wide_year" (defArgs (top 27)) (defBody (top 27)) (defScope (top 27)) .none kV18 dc18 pm18 an18 cd18 ct18), sl18⟩) (c18 : PySem.W.codeIn K cd18 "_law_wide_year" = true) (k18 : PySem.W.keepIn K (.ref f18) = true)
    {f19 : Addr} {oc19 : Value} {od19 an19 : Option Addr} {sl19 : Array (Option Value)} {kV19 dc19 pm19 cd19 ct19 : Value}
    (a19 : PySem.W.nsIn K mainGlobals "_law_far_year" = some (some (.ref f19))) (l19 : K.lookup f19 = some ⟨oc19, od19, .func (PySem.W.fnOf "_law_far_year" "_law_far_year" (defArgs (top 28)) (defBody (top 28)) (defScope (top 28)) .none kV19 dc19 pm19 an19 cd19 ct19), sl19⟩) (c19 : PySem.W.codeIn K cd19 "_law_far_year" = true) (k19 : PySem.W.keepIn K (.ref f19) = true)
    {f20 : Addr} {oc20 : Value} {od20 an20 : Option Addr} {sl20 : Array (Option Value)} {kV20 dc20 pm20 cd20 ct20 : Value}
    (a20 : PySem.W.nsIn K mainGlobals "_law_far" = some (some (.ref f20))) (l20 : K.lookup f20 = some ⟨oc20, od20, .func (PySem.W.fnOf "_law_far" "_law_far" (defArgs (top 29)) (defBody (top 29)) (defScope (top 29)) .none kV20 dc20 pm20 an20 cd20 ct20), sl20⟩) (c20 : PySem.W.codeIn K cd20 "_law_far" = true) (k20 : PySem.W.keepIn K (.ref f20) = true)
    {f21 : Addr} {oc21 : Value} {od21 an21 : Option Addr} {sl21 : Array (Option Value)} {kV21 dc21 pm21 cd21 ct21 : Value}
    (a21 : PySem.W.nsIn K mainGlobals "_law_next_open" = some (some (.ref f21))) (l21 : K.lookup f21 = some ⟨oc21, od21, .func (PySem.W.fnOf "_law_next_open" "_law_next_open" (defArgs (top 30)) (defBody (top 30)) (defScope (top 30)) .none kV21 dc21 pm21 an21 cd21 ct21), sl21⟩) (c21 : PySem.W.codeIn K cd21 "_law_next_open" = true) (k21 : PySem.W.keepIn K (.ref f21) = true)
    {f22 : Addr} {oc22 : Value} {od22 an22 : Option Addr} {sl22 : Array (Option Value)} {kV22 dc22 pm22 cd22 ct22 : Value}
    (a22 : PySem.W.nsIn K mainGlobals "_law_next_shut" = some (some (.ref f22))) (l22 : K.lookup f22 = some ⟨oc22, od22, .func (PySem.W.fnOf "_law_next_shut" "_law_next_shut" (defArgs (top 31)) (defBody (top 31)) (defScope (top 31)) .none kV22 dc22 pm22 an22 cd22 ct22), sl22⟩) (c22 : PySem.W.codeIn K cd22 "_law_next_shut" = true) (k22 : PySem.W.keepIn K (.ref f22) = true)
    {f23 : Addr} {oc23 : Value} {od23 an23 : Option Addr} {sl23 : Array (Option Value)} {kV23 dc23 pm23 cd23 ct23 : Value}
    (a23 : PySem.W.nsIn K mainGlobals "law" = some (some (.ref f23))) (l23 : K.lookup f23 = some ⟨oc23, od23, .func (PySem.W.fnOf "law" "law" (defArgs (top 32)) (defBody (top 32)) (defScope (top 32)) .none kV23 dc23 pm23 an23 cd23 ct23), sl23⟩) (c23 : PySem.W.codeIn K cd23 "law" = true) (k23 : PySem.W.keepIn K (.ref f23) = true)
    {t0 : Tok} (gv0 : PySem.W.nsIn K mainGlobals "MOST_STRETCHES" = some (some (.int (400) t0)))
    (z0 : PySem.W.nsIn K mainGlobals "isinstance" = some none)
    (z1 : PySem.W.nsIn K mainGlobals "int" = some none)
    (z2 : PySem.W.nsIn K mainGlobals "bool" = some none)
    (z3 : PySem.W.nsIn K mainGlobals "tuple" = some none)
    (z4 : PySem.W.nsIn K mainGlobals "len" = some none)
    (z5 : PySem.W.nsIn K mainGlobals "all" = some none)
    (z6 : PySem.W.nsIn K mainGlobals "zip" = some none)
    (z7 : PySem.W.nsIn K mainGlobals "max" = some none)
    (z8 : PySem.W.nsIn K mainGlobals "abs" = some none)
    (z9 : PySem.W.nsIn K mainGlobals "repr" = some none)
    (z10 : PySem.W.nsIn K mainGlobals "range" = some none)
    (z11 : PySem.W.nsIn K mainGlobals "min" = some none)
    : ∃ fa, Dfs ⟨B, fa⟩ P K mg := by
  refine ⟨(fun n => ([f0, f1, f2, f3, f4, f5, f6, f7, f8, f9, f10, f11, f12, f13, f14, f15, f16, f17, f18, f19, f20, f21, f22, f23] : List Addr)[n]?), dfs_mk ?_ (bl_all kin ns ?_) ?_⟩
  · exact (.cons (gl_loose X m_MOST_HOUR) (.cons (gl_int kin ns gv0) .nil))
  · simp only [bls, List.forall_mem_cons]
    exact ⟨z0, z1, z2, z3, z4, z5, z6, z7, z8, z9, z10, z11, fun _ h => nomatch h⟩
  · refine .cons (one_fn kin ns s_is_integer rfl rfl rfl c_is_integer (fun _ _ _ _ _ _ us hl => match us, hl with | [_], _ => rfl) rfl a0 l0 c0 k0) ?_
    refine .cons (one_fn kin ns s_is_within_range rfl rfl rfl c_is_within_range (fun _ _ _ _ _ _ us hl => match us, hl with | [_, _, _], _ => rfl) rfl a1 l1 c1 k1) ?_
    refine .cons (one_fn kin ns s_is_hour rfl rfl rfl c_is_hour (fun _ _ _ _ _ _ us hl => match us, hl with | [_], _ => rfl) rfl a2 l2 c2 k2) ?_
    refine .cons (one_fn kin ns s_check_hour rfl rfl rfl c_check_hour (fun _ _ _ _ _ _ us hl => match us, hl with | [_], _ => rfl) rfl a3 l3 c3 k3) ?_
    refine .cons (one_fn kin ns s_is_tuple_of rfl rfl rfl c_is_tuple_of (fun _ _ _ _ _ _ us hl => match us, hl with | [_, _, _], _ => rfl) rfl a4 l4 c4 k4) ?_
    refine .cons (one_fn kin ns s_is_stretch rfl rfl rfl c_is_stretch (fun _ _ _ _ _ _ us hl => match us, hl with | [_], _ => rfl) rfl a5 l5 c5 k5) ?_
    refine .cons (one_fn kin ns s_is_year rfl rfl rfl c_is_year (fun _ _ _ _ _ _ us hl => match us, hl with | [_], _ => rfl) rfl a6 l6 c6 k6) ?_
    refine .cons (one_fn kin ns s_check_year rfl rfl rfl c_check_year (fun _ _ _ _ _ _ us hl => match us, hl with | [_], _ => rfl) rfl a7 l7 c7 k7) ?_
    refine .cons (one_fn kin ns s_place_of rfl rfl rfl c_place_of (fun _ _ _ _ _ _ us hl => match us, hl with | [_, _], _ => rfl) rfl a8 l8 c8 k8) ?_
    refine .cons (one_fn kin ns s_shut_there rfl rfl rfl c_shut_there (fun _ _ _ _ _ _ us hl => match us, hl with | [_, _], _ => rfl) rfl a9 l9 c9 k9) ?_
    refine .cons (one_fn kin ns s_is_shut rfl rfl rfl c_is_shut (fun _ _ _ _ _ _ us hl => match us, hl with | [_, _], _ => rfl) rfl a10 l10 c10 k10) ?_
    refine .cons (one_fn kin ns s_open_from rfl rfl rfl c_open_from (fun _ _ _ _ _ _ us hl => match us, hl with | [_, _], _ => rfl) rfl a11 l11 c11 k11) ?_
    refine .cons (one_fn kin ns s_next_open rfl rfl rfl c_next_open (fun _ _ _ _ _ _ us hl => match us, hl with | [_, _], _ => rfl) rfl a12 l12 c12 k12) ?_
    refine .cons (one_fn kin ns s_next_shut rfl rfl rfl c_next_shut (fun _ _ _ _ _ _ us hl => match us, hl with | [_, _], _ => rfl) rfl a13 l13 c13 k13) ?_
    refine .cons (one_fn kin ns s__law_hand rfl rfl rfl c__law_hand (fun _ _ _ _ _ _ us hl => match us, hl with | [_], _ => rfl) rfl a14 l14 c14 k14) ?_
    refine .cons (one_fn kin ns s__law_draw rfl rfl rfl c__law_draw (fun _ _ _ _ _ _ us hl => match us, hl with | [_, _], _ => rfl) rfl a15 l15 c15 k15) ?_
    refine .cons (one_fn kin ns s__law_some rfl rfl rfl c__law_some (fun _ _ _ _ _ _ us hl => match us, hl with | [_, _], _ => rfl) rfl a16 l16 c16 k16) ?_
    refine .cons (one_fn kin ns s__law_kept rfl rfl rfl c__law_kept (fun _ _ _ _ _ _ us hl => match us, hl with | [_, _], _ => rfl) rfl a17 l17 c17 k17) ?_
    refine .cons (one_fn kin ns s__law_wide_year rfl rfl rfl c__law_wide_year (fun _ _ _ _ _ _ us hl => match us, hl with | [_, _], _ => rfl) rfl a18 l18 c18 k18) ?_
    refine .cons (one_fn kin ns s__law_far_year rfl rfl rfl c__law_far_year (fun _ _ _ _ _ _ us hl => match us, hl with | [_], _ => rfl) rfl a19 l19 c19 k19) ?_
    refine .cons (one_fn kin ns s__law_far rfl rfl rfl c__law_far (fun _ _ _ _ _ _ us hl => match us, hl with | [_, _], _ => rfl) rfl a20 l20 c20 k20) ?_
    refine .cons (one_fn kin ns s__law_next_open rfl rfl rfl c__law_next_open (fun _ _ _ _ _ _ us hl => match us, hl with | [_, _], _ => rfl) rfl a21 l21 c21 k21) ?_
    refine .cons (one_fn kin ns s__law_next_shut rfl rfl rfl c__law_next_shut (fun _ _ _ _ _ _ us hl => match us, hl with | [_, _], _ => rfl) rfl a22 l22 c22 k22) ?_
    refine .cons (one_fn kin ns s_law rfl rfl rfl c_law (fun _ _ _ _ _ _ us hl => match us, hl with | [_], _ => rfl) rfl a23 l23 c23 k23) ?_
    exact .nil
end K01
set_option maxHeartbeats 8000000
namespace K01
open PySem PySem.Spec PL
theorem g1 : gl "MOST_HOUR" = some (.int 1000000000000) := by rfl
theorem g2 : gl "MOST_STRETCHES" = some (.int 400) := by rfl
/-! ### the next open and the next shut hour -/
def opF (ys : List (Int × Int)) (x : Int) : Int := match ys[pl ys x]? with
  | some p => if p.1 > x then x else p.2 + 1
  | none => x
def opD (ys : List (Int × Int)) (x : Int) : D := if opF ys x ≤ 1000000000000 then .int (opF ys x) else .non
def shD (ys : List (Int × Int)) (x : Int) : D := match ys[pl ys x]? with
  | some p => .int (if p.1 > x then p.1 else x)
  | none => .non
def stp (x : Int) (p : Int × Int) : Int := if p.1 ≤ x ∧ x ≤ p.2 then p.2 + 1 else x
theorem stay : ∀ {r : List (Int × Int)} {x : Int}, (∀ q ∈ r, x < q.1) → r.foldl stp x = x
  | [], _, _ => rfl
  | q :: r, x, h => by
    have := h q List.mem_cons_self
    rw [List.foldl_cons, show stp x q = x by unfold stp; rw [if_neg (by omega)]]
    exact stay fun y hy => h y (List.mem_cons_of_mem _ hy)
theorem fold_op : ∀ {ys : List (Int × Int)} {x : Int}, Yr ys → ys.foldl stp x = opF ys x
  | [], x, _ => rfl
  | p :: r, x, Y => by
    have ok := Y.ok p List.mem_cons_self
    have af := Y.after
    rw [List.foldl_cons]
    unfold opF
    rw [pl_cons]
    by_cases c : p.2 < x
    · rw [if_pos c, show stp x p = x by unfold stp; rw [if_neg (by omega)], fold_op Y.tail]
      rfl
    · rw [if_neg c]
      simp only [List.getElem?_cons_zero]
      by_cases d : p.1 > x
      · rw [if_pos d, show stp x p = x by unfold stp; rw [if_neg (by omega)]]
        exact stay fun q hq => by have := af q hq; omega
      · rw [if_neg d, show stp x p = p.2 + 1 by unfold stp; rw [if_pos (by omega)]]
        exact stay fun q hq => af q hq
theorem op_ge {ys : List (Int × Int)} {x : Int} (Y : Yr ys) (h : 0 ≤ x) : 0 ≤ opF ys x ∧ opF ys x ≤ x + 1000000000001 := by
  unfold opF
  split
  · rename_i p q
    have := Y.ok p (List.mem_of_getElem? q)
    split <;> omega
  · omega
theorem op_open : ∀ {ys : List (Int × Int)} {x : Int}, Yr ys → ∀ q ∈ ys, ¬ (q.1 ≤ opF ys x ∧ opF ys x ≤ q.2)
  | [], _, _, q, h => by simp at h
  | p :: r, x, Y, q, h => by
    have ok := Y.ok p List.mem_cons_self
    have af := Y.after
    have okq := Y.ok q h
    by_cases c : p.2 < x
    · have e : opF (p :: r) x = opF r x := by
        unfold opF
        rw [pl_cons, if_pos c]
        rfl
      rw [e]
      rcases List.mem_cons.mp h with z | z
      · subst z
        have : x ≤ opF r x := by
          unfold opF
          split
          · rename_i p' q'
            have := Y.tail.ok p' (List.mem_of_getElem? q')
            have := pl_lt (x := x) Y.tail q'
            split <;> omega
          · omega
        omega
      · exact op_open Y.tail q z
    · have e : opF (p :: r) x = if p.1 > x then x else p.2 + 1 := by
        unfold opF
        rw [pl_cons, if_neg c]
        rfl
      rw [e]
      rcases List.mem_cons.mp h with z | z
      · subst z
        split <;> omega
      · have := af q z
        split <;> omega
theorem sh_shut {ys : List (Int × Int)} {x v : Int} (Y : Yr ys) (h : shD ys x = .int v) : ∃ p ∈ ys, p.1 ≤ v ∧ v ≤ p.2 := by
  unfold shD at h
  split at h
  · rename_i p q
    have e : (if p.1 > x then p.1 else x) = v := by simpa using h
    have a := pl_lt (x := x) Y q
    have ok := Y.ok p (List.mem_of_getElem? q)
    refine ⟨p, List.mem_of_getElem? q, ?_⟩
    subst e
    split <;> omega
  · cases h
/-- the law's own list -/
def nsL (ys : List (Int × Int)) (x : Int) : List Int := ys.filterMap fun p => if x ≤ p.2 then some (if x > p.1 then x else p.1) else none
def gmin (l : List Int) : D := match mnI l with
  | some x => .int x
  | none => .non
theorem min_head : ∀ {l : List Int} {a : Int}, (∀ x ∈ l, a ≤ x) → l.foldl (fun x y => if y < x then y else x) a = a
  | [], _, _ => rfl
  | x :: r, a, h => by
    have := h x List.mem_cons_self
    rw [List.foldl_cons, if_neg (by omega)]
    exact min_head fun y hy => h y (List.mem_cons_of_mem _ hy)
theorem ns_min : ∀ {ys : List (Int × Int)} {x : Int}, Yr ys → gmin (nsL ys x) = shD ys x
  | [], _, _ => rfl
  | p :: r, x, Y => by
    have ok := Y.ok p List.mem_cons_self
    have af := Y.after
    by_cases c : p.2 < x
    · have e : nsL (p :: r) x = nsL r x := by
        unfold nsL
        rw [List.filterMap_cons, if_neg (by omega)]
      rw [e, ns_min Y.tail]
      unfold shD
      rw [pl_cons, if_pos c]
      rfl
    · have e : nsL (p :: r) x = (if x > p.1 then x else p.1) :: nsL r x := by
        unfold nsL
        rw [List.filterMap_cons, if_pos (by omega)]
      rw [e]
      unfold shD
      rw [pl_cons, if_neg c]
      simp only [gmin, mnI, List.getElem?_cons_zero]
      rw [min_head]
      · congr 1
        split <;> split <;> omega
      · intro y hy
        obtain ⟨q, hq, e⟩ := List.mem_filterMap.mp hy
        have := af q hq
        split at e
        · have e' : (if x > q.1 then x else q.1) = y := Option.some.inj e
          rw [← e']
          split <;> split <;> omega
        · cases e
theorem isInt_map : ∀ {xs : List Int}, isIntL (xs.map D.int) = some xs
  | [] => rfl
  | x :: r => by simp [isIntL, isInt_map (xs := r)]
theorem min_lst {xs : List Int} (h : xs ≠ []) : biD .min [.lst (xs.map D.int)] = some (.v (gmin xs)) := by
  cases xs with
  | nil => exact absurd rfl h
  | cons x r =>
    have := isInt_map (xs := x :: r)
    simp only [List.map_cons] at this
    simp [biD, this, mnI, gmin]
theorem ne_nil {xs : List Int} : cmpD .ne (.lst (xs.map D.int)) (.lst []) = some (decide (xs ≠ [])) := by
  have ok : okE LV (.lst (xs.map D.int)) = true := by simp [okE, LV]
  cases xs with
  | nil => simp [cmpD, eqD, okE, LV, eqv, eqvL]
  | cons x r =>
    simp only [List.map_cons] at ok ⊢
    simp [cmpD, eqD, ok, eqv, eqvL]
    simp [okE, LV]
theorem loopC_fm {tt : D → En → Option (Option D × En)} {f : D → Option D} {env : En} : ∀ {ds : List D}, (∀ d ∈ ds, tt d env = some (f d, env)) → loopC tt ds env = some (ds.filterMap f, env)
  | [], _ => rfl
  | d :: r, hh => by
    have ih := loopC_fm (ds := r) fun x hx => hh x (List.mem_cons_of_mem _ hx)
    simp only [loopC, hh d List.mem_cons_self, ih, List.filterMap_cons]
    cases f d <;> rfl
section
variable {F : FT} {k : Nat}
theorem run_of {ys : List (Int × Int)} {x : Int} (Y : Yr ys) (hl : ys.length ≤ 400) (c : F 8 [.v (yD ys), .v (.int x)] = some (.v (.int (pl ys x)), [.v (yD ys), .v (.int x)])) :
    exL F gl d_open_from.body [.v (yD ys), .v (.int x), .n] = some (.rt (.v (.int (opF ys x))), [.v (yD ys), .v (.int x), .v (.int (pl ys x))]) := by
  have hle := pl_le (ys := ys) (x := x)
  by_cases hc : pl ys x < ys.length
  · obtain ⟨p, hp⟩ : ∃ p, ys[pl ys x]? = some p := ⟨_, List.getElem?_eq_getElem hc⟩
    have hix : idxD (.tup (ys.map pr)) (.int (pl ys x : Nat)) = some (pr p) := idx_at hp
    have hne : ¬ ((pl ys x : Int) = ys.length) := by omega
    have ho : opF ys x = if p.1 > x then x else p.2 + 1 := by unfold opF; rw [hp]
    rw [ho]
    have hne' : ¬ (pl ys x = ys.length) := by omega
    by_cases hx : x < p.1
    · simp [d_open_from, exL, exS, ev, evAnd, evOr, evs, evO, evI, tsts, rd, lk, unf, rds, giv, givs, toB, outR, callR, ows, nodupB, argS, bak, asg, asgR, asgT, asgTs, putS, evsF, nrm, nrmL, asgL, c, biD, eq_int, gt_ok, hne, hne', hix, ix0, hx]
    · simp [d_open_from, exL, exS, ev, evAnd, evOr, evs, evO, evI, tsts, rd, lk, unf, rds, giv, givs, toB, outR, callR, ows, nodupB, argS, bak, asg, asgR, asgT, asgTs, putS, evsF, nrm, nrmL, asgL, c, biD, eq_int, gt_ok, add_ok, hne, hne', hix, ix0, ix1, hx]
  · have hp : ys[pl ys x]? = none := List.getElem?_eq_none (by omega)
    have ho : opF ys x = x := by unfold opF; rw [hp]
    have he : pl ys x = ys.length := by omega
    rw [ho]
    simp [d_open_from, exL, exS, ev, evAnd, evOr, evs, evO, evI, tsts, rd, lk, unf, rds, giv, givs, toB, outR, callR, ows, nodupB, argS, bak, asg, asgR, asgT, asgTs, putS, evsF, nrm, nrmL, asgL, c, biD, eq_int, he]
theorem run_no {ys : List (Int × Int)} {x : Int} (c1 : F 7 [.v (yD ys)] = some (.v .non, [.v (yD ys)])) (c2 : F 3 [.v (.int x)] = some (.v .non, [.v (.int x)])) (c3 : F 11 [.v (yD ys), .v (.int x)] = some (.v (.int (opF ys x)), [.v (yD ys), .v (.int x)])) :
    exL F gl d_next_open.body [.v (yD ys), .v (.int x), .n] = some (.rt (.v (opD ys x)), [.v (yD ys), .v (.int x), .v (.int (opF ys x))]) := by
  by_cases h : opF ys x ≤ 1000000000000
  · simp [d_next_open, exL, exS, ev, evAnd, evOr, evs, evO, evI, tsts, rd, lk, unf, rds, giv, givs, toB, outR, callR, ows, nodupB, argS, bak, asg, asgR, asgT, asgTs, putS, evsF, nrm, nrmL, asgL, c1, c2, c3, g1, le_ok, h, opD]
  · simp [d_next_open, exL, exS, ev, evAnd, evOr, evs, evO, evI, tsts, rd, lk, unf, rds, giv, givs, toB, outR, callR, ows, nodupB, argS, bak, asg, asgR, asgT, asgTs, putS, evsF, nrm, nrmL, asgL, c1, c2, c3, g1, le_ok, h, opD]
theorem run_ns {ys : List (Int × Int)} {x : Int} (c1 : F 7 [.v (yD ys)] = some (.v .non, [.v (yD ys)])) (c2 : F 3 [.v (.int x)] = some (.v .non, [.v (.int x)])) (c3 : F 8 [.v (yD ys), .v (.int x)] = some (.v (.int (pl ys x)), [.v (yD ys), .v (.int x)])) :
    exL F gl d_next_shut.body [.v (yD ys), .v (.int x), .n] = some (.rt (.v (shD ys x)), [.v (yD ys), .v (.int x), .v (.int (pl ys x))]) := by
  by_cases hc : pl ys x < ys.length
  · obtain ⟨p, hp⟩ : ∃ p, ys[pl ys x]? = some p := ⟨_, List.getElem?_eq_getElem hc⟩
    have hix : idxD (.tup (ys.map pr)) (.int (pl ys x : Nat)) = some (pr p) := idx_at hp
    have ho : shD ys x = .int (if p.1 > x then p.1 else x) := by unfold shD; rw [hp]
    have hb : biD .len [.tup (ys.map pr)] = some (.v (.int (ys.length : Nat))) := by simp [biD]
    rw [ho]
    simp [d_next_shut, exL, exS, ev, evAnd, evOr, evs, evO, evI, tsts, rd, lk, unf, rds, giv, givs, toB, outR, callR, ows, nodupB, argS, bak, asg, asgR, asgT, asgTs, putS, evsF, nrm, nrmL, asgL, c1, c2, c3, hb, lt_ok, hc, hix, ix0, max_ok]
  · have hp : ys[pl ys x]? = none := List.getElem?_eq_none (by omega)
    have ho : shD ys x = .non := by unfold shD; rw [hp]
    have hb : biD .len [.tup (ys.map pr)] = some (.v (.int (ys.length : Nat))) := by simp [biD]
    rw [ho]
    simp [d_next_shut, exL, exS, ev, evAnd, evOr, evs, evO, evI, tsts, rd, lk, unf, rds, giv, givs, toB, outR, callR, ows, nodupB, argS, bak, asg, asgR, asgT, asgTs, putS, evsF, nrm, nrmL, asgL, c1, c2, c3, hb, lt_ok, hc]
def noT : List Sx := [.asg (.nm 2) (.ite (.cmp2 .le .le (.v 3) (.v 2) (.v 4)) (.bin .add (.v 4) (.k (.int 1))) (.v 2))]
theorem fold_take {ys : List (Int × Int)} {t : Nat} {x : Int} {p : Int × Int} (h : ys.take (t + 1) = ys.take t ++ [p]) : (ys.take (t + 1)).foldl stp x = stp ((ys.take t).foldl stp x) p := by
  rw [h, List.foldl_append]
  rfl
theorem take_snoc {ys : List (Int × Int)} {t : Nat} {d : D} (h : (ys.map pr)[t]? = some d) : ∃ p, p ∈ ys ∧ d = pr p ∧ ys.take (t + 1) = ys.take t ++ [p] := by
  rw [List.getElem?_map] at h
  cases q : ys[t]? with
  | none => rw [q] at h; cases h
  | some p =>
    rw [q] at h
    cases h
    exact ⟨p, List.mem_of_getElem? q, rfl, by rw [List.take_add_one, q]; rfl⟩
theorem run_lo {ys : List (Int × Int)} {x : Int} (Y : Yr ys) : ∃ e, exL F gl d__law_next_open.body [.v (yD ys), .v (.int x), .n, .n, .n] = some (.rt (.v (opD ys x)), .v (yD ys) :: .v (.int x) :: e) := by
  have lp := loopF_inv (t := frT F gl (.tp [.nm 3, .nm 4]) noT []) (fun t e => ∃ s3 s4, ((s3 = .n ∧ s4 = .n) ∨ ∃ a b, s3 = .v a ∧ s4 = .v b) ∧ e = [.v (yD ys), .v (.int x), .v (.int ((ys.take t).foldl stp x)), s3, s4]) (ds := ys.map pr) (i := 0) (env := [.v (yD ys), .v (.int x), .v (.int x), .n, .n])
    (fun t d e hd hI => by
      rw [Nat.zero_add] at hI ⊢
      obtain ⟨p, hp, rfl, ht⟩ := take_snoc hd
      obtain ⟨s3, s4, hs, rfl⟩ := hI
      refine ⟨[.v (yD ys), .v (.int x), .v (.int ((ys.take (t + 1)).foldl stp x)), .v (.int p.1), .v (.int p.2)], .inl ?_, _, _, .inr ⟨_, _, rfl, rfl⟩, rfl⟩
      rw [fold_take ht]
      generalize (ys.take t).foldl stp x = y
      by_cases h1 : p.1 ≤ y
      · by_cases h2 : y ≤ p.2
        · have e : stp y p = p.2 + 1 := by unfold stp; rw [if_pos ⟨h1, h2⟩]
          rcases hs with ⟨rfl, rfl⟩ | ⟨a, b, rfl, rfl⟩ <;> simp [frT, noT, exL, exS, ev, evAnd, evOr, evs, evO, evI, tsts, rd, lk, unf, rds, giv, givs, toB, outR, callR, ows, nodupB, argS, bak, asg, asgR, asgT, asgTs, putS, evsF, nrm, nrmL, asgL, le_ok, add_ok, h1, h2, e, grdP]
        · have e : stp y p = y := by unfold stp; rw [if_neg (by omega)]
          rcases hs with ⟨rfl, rfl⟩ | ⟨a, b, rfl, rfl⟩ <;> simp [frT, noT, exL, exS, ev, evAnd, evOr, evs, evO, evI, tsts, rd, lk, unf, rds, giv, givs, toB, outR, callR, ows, nodupB, argS, bak, asg, asgR, asgT, asgTs, putS, evsF, nrm, nrmL, asgL, le_ok, add_ok, h1, h2, e, grdP]
      · have e : stp y p = y := by unfold stp; rw [if_neg (by omega)]
        rcases hs with ⟨rfl, rfl⟩ | ⟨a, b, rfl, rfl⟩ <;> simp [frT, noT, exL, exS, ev, evAnd, evOr, evs, evO, evI, tsts, rd, lk, unf, rds, giv, givs, toB, outR, callR, ows, nodupB, argS, bak, asg, asgR, asgT, asgTs, putS, evsF, nrm, nrmL, asgL, le_ok, add_ok, h1, e, grdP])
    ⟨.n, .n, .inl ⟨rfl, rfl⟩, rfl⟩
  obtain ⟨e', q1, s3, s4, _, rfl⟩ := lp
  have et : ys.take (0 + (ys.map pr).length) = ys := List.take_of_length_le (by simp)
  rw [et, fold_op Y] at q1
  refine ⟨[.v (.int (opF ys x)), s3, s4], ex_cons (e1 := [.v (yD ys), .v (.int x), .v (.int x), .n, .n]) (by simp [exL, exS, ev, evAnd, evOr, evs, evO, evI, tsts, rd, lk, unf, rds, giv, givs, toB, outR, callR, ows, nodupB, argS, bak, asg, asgR, asgT, asgTs, putS, evsF, nrm, nrmL, asgL]) (ex_cons (e1 := [.v (yD ys), .v (.int x), .v (.int (opF ys x)), s3, s4]) ?_ (ex_ret ?_))⟩
  · exact ex_fr (F := F) (gl := gl) (tg := .tp [.nm 3, .nm 4]) (b := noT) (it := .e (.v 0)) (env := [.v (yD ys), .v (.int x), .v (.int x), .n, .n]) (ds := ys.map pr) (gs := []) (e1 := [.v (yD ys), .v (.int x), .v (.int x), .n, .n]) (by simp [exL, exS, ev, evAnd, evOr, evs, evO, evI, tsts, rd, lk, unf, rds, giv, givs, toB, outR, callR, ows, nodupB, argS, bak, asg, asgR, asgT, asgTs, putS, evsF, nrm, nrmL, asgL, walkD, gOf]) q1
  · by_cases h : opF ys x ≤ 1000000000000 <;> simp [exL, exS, ev, evAnd, evOr, evs, evO, evI, tsts, rd, lk, unf, rds, giv, givs, toB, outR, callR, ows, nodupB, argS, bak, asg, asgR, asgT, asgTs, putS, evsF, nrm, nrmL, asgL, pw12, le_ok, h, opD]
def nF (x : Int) : D → Option D := fun d => match d with
  | .tup [.int a, .int b] => if x ≤ b then some (.int (if x > a then x else a)) else none
  | _ => none
theorem map_ns {ys : List (Int × Int)} {x : Int} : (ys.map pr).filterMap (nF x) = (nsL ys x).map D.int := by
  induction ys with
  | nil => rfl
  | cons p r ih =>
    unfold nsL at ih ⊢
    rw [List.map_cons, List.filterMap_cons, List.filterMap_cons, ih]
    by_cases h : x ≤ p.2
    · simp [nF, h]
    · simp [nF, h]
theorem run_ls {ys : List (Int × Int)} {x : Int} (Y : Yr ys) (hl : ys.length ≤ 400) : ∃ e, exL F gl d__law_next_shut.body [.v (yD ys), .v (.int x), .n, .n, .n] = some (.rt (.v (shD ys x)), .v (yD ys) :: .v (.int x) :: e) := by
  have lp := loopC_fm (tt := lcT F gl (.bi .max [.v 3, .v 1]) (.tp [.nm 3, .nm 4]) [.cmp .ge (.v 4) (.v 1)] [3, 4] []) (f := nF x) (env := [.v (yD ys), .v (.int x), .n, .n, .n]) (ds := ys.map pr) (fun d hd => by
    obtain ⟨p, _, rfl⟩ := List.mem_map.mp hd
    by_cases h : x ≤ p.2
    · simp [lcT, wipeE, restE, grd, exL, exS, ev, evAnd, evOr, evs, evO, evI, tsts, rd, lk, unf, rds, giv, givs, toB, outR, callR, ows, nodupB, argS, bak, asg, asgR, asgT, asgTs, putS, evsF, nrm, nrmL, asgL, ge_ok, max_ok, nF, h]
    · simp [lcT, wipeE, restE, grd, exL, exS, ev, evAnd, evOr, evs, evO, evI, tsts, rd, lk, unf, rds, giv, givs, toB, outR, callR, ows, nodupB, argS, bak, asg, asgR, asgT, asgTs, putS, evsF, nrm, nrmL, asgL, ge_ok, max_ok, nF, h])
  rw [map_ns] at lp
  have hz : ((nsL ys x).map D.int).length ≤ SZ := by
    rw [List.length_map]
    have : (nsL ys x).length ≤ ys.length := List.length_filterMap_le _ _
    unfold SZ
    omega
  have lc := ev_lc (F := F) (gl := gl) (it := .e (.v 0)) (env := [.v (yD ys), .v (.int x), .n, .n, .n]) (gs := []) (e1 := [.v (yD ys), .v (.int x), .n, .n, .n]) (ds := ys.map pr) (by simp [exL, exS, ev, evAnd, evOr, evs, evO, evI, tsts, rd, lk, unf, rds, giv, givs, toB, outR, callR, ows, nodupB, argS, bak, asg, asgR, asgT, asgTs, putS, evsF, nrm, nrmL, asgL, walkD, gOf]) lp hz
  have hm := ns_min (x := x) Y
  refine ⟨[.o (.lst ((nsL ys x).map D.int)), .n, .n], ex_cons (e1 := [.v (yD ys), .v (.int x), .o (.lst ((nsL ys x).map D.int)), .n, .n]) ?_ (ex_ret ?_)⟩
  · generalize Ex.lc (.bi .max [.v 3, .v 1]) (.tp [.nm 3, .nm 4]) (.e (.v 0)) [.cmp .ge (.v 4) (.v 1)] [3, 4] = L at lc ⊢
    simp [exL, exS, ev, evAnd, evOr, evs, evO, evI, tsts, rd, lk, unf, rds, giv, givs, toB, outR, callR, ows, nodupB, argS, bak, asg, asgR, asgT, asgTs, putS, evsF, nrm, nrmL, asgL, lc]
  · have hne := ne_nil (xs := nsL ys x)
    rw [← hm]
    by_cases hg : nsL ys x = []
    · have hn : gmin (nsL ys x) = .non := by rw [hg]; rfl
      rw [hn]
      rw [hg] at hne ⊢
      simp only [List.map_nil] at hne
      simp [exL, exS, ev, evAnd, evOr, evs, evO, evI, tsts, rd, lk, unf, rds, giv, givs, toB, outR, callR, ows, nodupB, argS, bak, asg, asgR, asgT, asgTs, putS, evsF, nrm, nrmL, asgL, hne, mkL, SZ]
    · have hmn := min_lst hg
      simp [exL, exS, ev, evAnd, evOr, evs, evO, evI, tsts, rd, lk, unf, rds, giv, givs, toB, outR, callR, ows, nodupB, argS, bak, asg, asgR, asgT, asgTs, putS, evsF, nrm, nrmL, asgL, hne, mkL, SZ, hg, hmn]
/-! ### the law, step by step -/
def NQ (s : Sl) : Prop := s = .n ∨ (∃ d, s = .v d) ∨ ∃ d, s = .o d
abbrev EV (sc h t : D) (s3 s4 s5 s6 s7 s8 s9 s10 : Sl) : En := [.v sc, .o h, .v t, s3, s4, s5, s6, s7, s8, s9, s10, .n]
def z1 : Sx := .asg (.nm 3) (.ite (.cmp .lt (.v 2) (.k (.int 6))) (.call 18 [.v 1, .k (.int 300)]) (.call 19 [.v 1]))
def z2a : Sx := .asg (.nm 4) (.tup [.bin .sub (.bin .pow (.k (.int 10)) (.k (.int 12))) (.call 15 [.v 1, .k (.int 3)]), .bin .pow (.k (.int 10)) (.k (.int 12))])
def z2b : Sx := .asg (.nm 3) (.bin .add (.bi .tuple [.lc (.v 11) (.nm 11) (.e (.v 3)) [.cmp .lt (.idx (.v 11) (.k (.int 1))) (.bin .sub (.bin .pow (.k (.int 10)) (.k (.int 12))) (.k (.int 9)))] [11]]) (.tup [.v 4]))
def z2 : Sx := .ife (.cmp .eq (.v 2) (.k (.int 9))) [z2a, z2b] []
def z3 : Sx := .asg (.nm 5) (.lst [.k (.int 0), .bin .pow (.k (.int 10)) (.k (.int 12)), .bin .sub (.bin .pow (.k (.int 10)) (.k (.int 12))) (.k (.int 1)), .call 15 [.v 1, .k (.int 300)], .call 20 [.v 1, .bin .pow (.k (.int 10)) (.k (.int 12))]])
def z4b : List Sx := [.asg (.nm 5) (.bin .add (.v 5) (.lst [.v 6, .v 7, .bi .max [.k (.int 0), .bin .sub (.v 6) (.k (.int 1))], .bi .min [.bin .pow (.k (.int 10)) (.k (.int 12)), .bin .add (.v 7) (.k (.int 1))]]))]
def z4 : Sx := .fr (.tp [.nm 6, .nm 7]) (.e (.v 3)) z4b
def y1 : Sx := .par [9, 10] [.call 12 [.v 3, .v 8], .call 13 [.v 3, .v 8]]
def y2 : Sx := .ife (.not (.call 17 [.lst [.v 9, .v 10], .lst [.call 21 [.v 3, .v 8], .call 22 [.v 3, .v 8]]])) [.ret (.k (.bl false))] []
def y3 : Sx := .ife (.and [.cmp .isNot (.v 9) (.k .non), .cmp .isNot (.call 10 [.v 3, .v 9]) (.k (.bl false))]) [.ret (.k (.bl false))] []
def y4 : Sx := .ife (.and [.cmp .isNot (.v 10) (.k .non), .cmp .isNot (.call 10 [.v 3, .v 10]) (.k (.bl true))]) [.ret (.k (.bl false))] []
def z5 : Sx := .fr (.nm 8) (.e (.v 5)) [y1, y2, y3, y4]
structure Fs (F : FT) : Prop where
  dr : DrawOk F 15
  so : SomeOk F 16
  ke : FKept F 17
  wi : FWide F 18
  fy : FFarY F 19
  fa : FFar F 20
  sh : FIsSh F 10
  no : ∀ (ys : List (Int × Int)) (x : Int), Yr ys → ys.length ≤ 400 → 0 ≤ x → x ≤ 1000000000000 → F 12 [.v (yD ys), .v (.int x)] = some (.v (opD ys x), [.v (yD ys), .v (.int x)])
  ns : ∀ (ys : List (Int × Int)) (x : Int), Yr ys → ys.length ≤ 400 → 0 ≤ x → x ≤ 1000000000000 → F 13 [.v (yD ys), .v (.int x)] = some (.v (shD ys x), [.v (yD ys), .v (.int x)])
  lo : ∀ (ys : List (Int × Int)) (x : Int), Yr ys → F 21 [.v (yD ys), .v (.int x)] = some (.v (opD ys x), [.v (yD ys), .v (.int x)])
  ls : ∀ (ys : List (Int × Int)) (x : Int), Yr ys → ys.length ≤ 400 → F 22 [.v (yD ys), .v (.int x)] = some (.v (shD ys x), [.v (yD ys), .v (.int x)])
variable {sc h t : D} {s3 s4 s5 s6 s7 s8 s9 s10 : Sl} {N : Nat}
theorem r1 (A : Fs F) {tt : Int} (H : Hok N h) (hN : N < 2 ^ 49) (n3 : NQ s3) : ∃ ys h', Yr ys ∧ ys.length ≤ 9 ∧ Hok (N + 100) h' ∧ exS F gl z1 (EV sc h (.int tt) s3 s4 s5 s6 s7 s8 s9 s10) = some (.nx, EV sc h' (.int tt) (.v (yD ys)) s4 s5 s6 s7 s8 s9 s10) := by
  by_cases ht : tt < 6
  · obtain ⟨ys, h', Y, hl, H', e⟩ := A.wi N h 300 H hN (by decide) (by decide)
    refine ⟨ys, h', Y, hl, H', ?_⟩
    rcases n3 with rfl | ⟨d, rfl⟩ | ⟨d, rfl⟩ <;> simp [z1, EV, exL, exS, ev, evAnd, evOr, evs, evO, evI, tsts, rd, lk, unf, rds, giv, givs, toB, outR, callR, ows, nodupB, argS, bak, asg, asgR, asgT, asgTs, putS, evsF, nrm, nrmL, asgL, lt_ok, ht, e]
  · obtain ⟨ys, h', Y, hl, H', e⟩ := A.fy N h H hN
    refine ⟨ys, h', Y, hl, H', ?_⟩
    rcases n3 with rfl | ⟨d, rfl⟩ | ⟨d, rfl⟩ <;> simp [z1, EV, exL, exS, ev, evAnd, evOr, evs, evO, evI, tsts, rd, lk, unf, rds, giv, givs, toB, outR, callR, ows, nodupB, argS, bak, asg, asgR, asgT, asgTs, putS, evsF, nrm, nrmL, asgL, lt_ok, ht, e]
def fF : D → Option D := fun d => match d with
  | .tup [.int a, .int b] => if b < 999999999991 then some (.tup [.int a, .int b]) else none
  | _ => none
theorem map_f {ys : List (Int × Int)} : (ys.map pr).filterMap fF = (ys.filter fun p => decide (p.2 < 999999999991)).map pr := by
  induction ys with
  | nil => rfl
  | cons p r ih =>
    rw [List.map_cons, List.filterMap_cons, List.filter_cons, ih]
    by_cases h : p.2 < 999999999991 <;> simp [fF, h]
theorem r2 (A : Fs F) {tt : Int} {ys : List (Int × Int)} (Y : Yr ys) (hy : ys.length ≤ 9) (H : Hok N h) (hN : N < 2 ^ 49) (n4 : NQ s4) : ∃ zs h' s4', Yr zs ∧ zs.length ≤ 10 ∧ NQ s4' ∧ Hok (N + 1) h' ∧
    exS F gl z2 (EV sc h (.int tt) (.v (yD ys)) s4 s5 s6 s7 s8 s9 s10) = some (.nx, EV sc h' (.int tt) (.v (yD zs)) s4' s5 s6 s7 s8 s9 s10) := by
  by_cases ht : tt = 9
  · subst ht
    obtain ⟨a, h1, a1, a2, H1, e1⟩ := A.dr N h 3 H (by omega) (by decide) (by decide)
    let ws := ys.filter fun p => decide (p.2 < 999999999991)
    have hw : ∀ p ∈ ws, p ∈ ys ∧ p.2 < 999999999991 := fun p hp => ⟨(List.mem_filter.mp hp).1, of_decide_eq_true (List.mem_filter.mp hp).2⟩
    have Yw : Yr ws := ⟨fun p hp => Y.ok p (hw p hp).1, Y.up.sublist List.filter_sublist⟩
    have Yz : Yr (ws ++ [(1000000000000 - a, 1000000000000)]) := Yw.snoc (by omega) (by omega) (by omega) (fun p hp => by have := (hw p hp).2; omega)
    have hwl : ws.length ≤ 9 := Nat.le_trans (List.length_filter_le _ _) hy
    have lp := loopC_fm (tt := lcT F gl (.v 11) (.nm 11) [.cmp .lt (.idx (.v 11) (.k (.int 1))) (.bin .sub (.bin .pow (.k (.int 10)) (.k (.int 12))) (.k (.int 9)))] [11] []) (f := fF) (env := EV sc h1 (.int 9) (.v (yD ys)) (.v (pr (1000000000000 - a, 1000000000000))) s5 s6 s7 s8 s9 s10) (ds := ys.map pr) (fun d hd => by
      obtain ⟨p, _, rfl⟩ := List.mem_map.mp hd
      by_cases hp : p.2 < 999999999991
      · simp [lcT, wipeE, restE, grd, EV, exL, exS, ev, evAnd, evOr, evs, evO, evI, tsts, rd, lk, unf, rds, giv, givs, toB, outR, callR, ows, nodupB, argS, bak, asg, asgR, asgT, asgTs, putS, evsF, nrm, nrmL, asgL, ix1, pw12, sub_ok, lt_ok, fF, hp]
      · simp [lcT, wipeE, restE, grd, EV, exL, exS, ev, evAnd, evOr, evs, evO, evI, tsts, rd, lk, unf, rds, giv, givs, toB, outR, callR, ows, nodupB, argS, bak, asg, asgR, asgT, asgTs, putS, evsF, nrm, nrmL, asgL, ix1, pw12, sub_ok, lt_ok, fF, hp])
    rw [map_f] at lp
    have lc := ev_lc (F := F) (gl := gl) (it := .e (.v 3)) (env := EV sc h1 (.int 9) (.v (yD ys)) (.v (pr (1000000000000 - a, 1000000000000))) s5 s6 s7 s8 s9 s10) (gs := []) (e1 := EV sc h1 (.int 9) (.v (yD ys)) (.v (pr (1000000000000 - a, 1000000000000))) s5 s6 s7 s8 s9 s10) (ds := ys.map pr)
      (by simp [EV, exL, exS, ev, evAnd, evOr, evs, evO, evI, tsts, rd, lk, unf, rds, giv, givs, toB, outR, callR, ows, nodupB, argS, bak, asg, asgR, asgT, asgTs, putS, evsF, nrm, nrmL, asgL, walkD, gOf]) lp (by rw [List.length_map]; exact Nat.le_trans hwl (by decide))
    refine ⟨ws ++ [(1000000000000 - a, 1000000000000)], h1, .v (pr (1000000000000 - a, 1000000000000)), Yz, by simp; omega, .inr (.inl ⟨_, rfl⟩), H1, ?_⟩
    have s1 : exS F gl z2a (EV sc h (.int 9) (.v (yD ys)) s4 s5 s6 s7 s8 s9 s10) = some (.nx, EV sc h1 (.int 9) (.v (yD ys)) (.v (pr (1000000000000 - a, 1000000000000))) s5 s6 s7 s8 s9 s10) := by
      rcases n4 with rfl | ⟨d, rfl⟩ | ⟨d, rfl⟩ <;> simp [z2a, EV, exL, exS, ev, evAnd, evOr, evs, evO, evI, tsts, rd, lk, unf, rds, giv, givs, toB, outR, callR, ows, nodupB, argS, bak, asg, asgR, asgT, asgTs, putS, evsF, nrm, nrmL, asgL, pw12, sub_ok, e1, mkT, SZ]
    have hz : ws.length + 1 ≤ 16777216 := by omega
    have s2 : exS F gl z2b (EV sc h1 (.int 9) (.v (yD ys)) (.v (pr (1000000000000 - a, 1000000000000))) s5 s6 s7 s8 s9 s10) = some (.nx, EV sc h1 (.int 9) (.v (yD (ws ++ [(1000000000000 - a, 1000000000000)]))) (.v (pr (1000000000000 - a, 1000000000000))) s5 s6 s7 s8 s9 s10) := by
      unfold z2b
      generalize Ex.lc (.v 11) (.nm 11) (.e (.v 3)) [.cmp .lt (.idx (.v 11) (.k (.int 1))) (.bin .sub (.bin .pow (.k (.int 10)) (.k (.int 12))) (.k (.int 9)))] [11] = L at lc ⊢
      change ev F gl L _ = some (R.f (D.lst (ws.map pr)), _) at lc
      generalize ws = ws at lc hz ⊢
      simp only [EV] at lc
      simp [EV, exL, exS, ev, evAnd, evOr, evs, evO, evI, tsts, rd, lk, unf, rds, giv, givs, toB, outR, callR, ows, nodupB, argS, bak, asg, asgR, asgT, asgTs, putS, evsF, nrm, nrmL, asgL, lc, biD, binD, mkT, SZ, hz]
    have hq : cmpD .eq (.int 9) (.int 9) = some true := by rw [eq_int]; rfl
    have all : exL F gl [z2a, z2b] (EV sc h (.int 9) (.v (yD ys)) s4 s5 s6 s7 s8 s9 s10) = some (.nx, EV sc h1 (.int 9) (.v (yD (ws ++ [(1000000000000 - a, 1000000000000)]))) (.v (pr (1000000000000 - a, 1000000000000))) s5 s6 s7 s8 s9 s10) := ex_cons s1 (ex_cons s2 ex_nil)
    simp only [z2, exS]
    have hc : toB (ev F gl (.cmp .eq (.v 2) (.k (.int 9))) (EV sc h (.int 9) (.v (yD ys)) s4 s5 s6 s7 s8 s9 s10)) = some (true, EV sc h (.int 9) (.v (yD ys)) s4 s5 s6 s7 s8 s9 s10) := by simp [EV, ev, rd, toB, hq]
    rw [hc]
    exact all
  · refine ⟨ys, h, s4, Y, by omega, n4, H.mono (by omega), ?_⟩
    simp [z2, EV, exL, exS, ev, evAnd, evOr, evs, evO, evI, tsts, rd, lk, unf, rds, giv, givs, toB, outR, callR, ows, nodupB, argS, bak, asg, asgR, asgT, asgTs, putS, evsF, nrm, nrmL, asgL, eq_int, ht]
theorem r3 (A : Fs F) (H : Hok N h) (hN : N < 2 ^ 49) (n5 : NQ s5) : ∃ (is : List Int) (h' : D), is.length = 5 ∧ (∀ b ∈ is, 0 ≤ b ∧ b ≤ 1000000000000) ∧ Hok (N + 3) h' ∧ exS F gl z3 (EV sc h t s3 s4 s5 s6 s7 s8 s9 s10) = some (.nx, EV sc h' t s3 s4 (.o (.lst (is.map D.int))) s6 s7 s8 s9 s10) := by
  obtain ⟨a, h1, a1, a2, H1, e1⟩ := A.dr N h 300 H (by omega) (by decide) (by decide)
  obtain ⟨b, h2, b1, b2, H2, e2⟩ := A.fa (N + 1) h1 1000000000000 H1 (by omega) (by decide) (by decide)
  refine ⟨[0, 1000000000000, 999999999999, a, b], h2, rfl, fun x hx => ?_, H2, ?_⟩
  · simp at hx
    omega
  · rcases n5 with rfl | ⟨d, rfl⟩ | ⟨d, rfl⟩ <;> simp [z3, EV, exL, exS, ev, evAnd, evOr, evs, evO, evI, tsts, rd, lk, unf, rds, giv, givs, toB, outR, callR, ows, nodupB, argS, bak, asg, asgR, asgT, asgTs, putS, evsF, nrm, nrmL, asgL, e1, e2, pw12, sub_ok, mkL, SZ]
theorem r4 {ys : List (Int × Int)} {is : List Int} (Y : Yr ys) (hy : ys.length ≤ 10) (hi : is.length = 5) (h0 : ∀ b ∈ is, 0 ≤ b ∧ b ≤ 1000000000000) (n6 : NQ s6) (n7 : NQ s7) : ∃ (js : List Int) (s6' s7' : Sl), NQ s6' ∧ NQ s7' ∧ (∀ b ∈ js, 0 ≤ b ∧ b ≤ 1000000000000) ∧
    exS F gl z4 (EV sc h t (.v (yD ys)) s4 (.o (.lst (is.map D.int))) s6 s7 s8 s9 s10) = some (.nx, EV sc h t (.v (yD ys)) s4 (.o (.lst (js.map D.int))) s6' s7' s8 s9 s10) := by
  have lp := loopF_inv (t := frT F gl (.tp [.nm 6, .nm 7]) z4b []) (fun u e => u ≤ 10 → ∃ (js : List Int) (s6' s7' : Sl), NQ s6' ∧ NQ s7' ∧ js.length = 5 + 4 * u ∧ (∀ b ∈ js, 0 ≤ b ∧ b ≤ 1000000000000) ∧ e = EV sc h t (.v (yD ys)) s4 (.o (.lst (js.map D.int))) s6' s7' s8 s9 s10) (ds := ys.map pr) (i := 0)
    (env := EV sc h t (.v (yD ys)) s4 (.o (.lst (is.map D.int))) s6 s7 s8 s9 s10) (fun u d e hd hI => by
      rw [Nat.zero_add] at hI ⊢
      obtain ⟨p, hp, rfl, _⟩ := take_snoc hd
      have ok := Y.ok p hp
      by_cases hu : u + 1 ≤ 10
      · obtain ⟨js, a6, a7, m6, m7, hj, hj0, rfl⟩ := hI (by omega)
        let w1 : Int := if p.1 - 1 > 0 then p.1 - 1 else 0
        let w2 : Int := if p.2 + 1 < 1000000000000 then p.2 + 1 else 1000000000000
        have e1 : (if p.1 - 1 > 0 then p.1 - 1 else 0) = w1 := rfl
        have e2 : (if p.2 + 1 < 1000000000000 then p.2 + 1 else 1000000000000) = w2 := rfl
        have c1 : 0 ≤ w1 ∧ w1 ≤ 1000000000000 := by simp only [w1]; split <;> omega
        have c2 : 0 ≤ w2 ∧ w2 ≤ 1000000000000 := by simp only [w2]; split <;> omega
        clear_value w1 w2
        refine ⟨EV sc h t (.v (yD ys)) s4 (.o (.lst ((js ++ [p.1, p.2, w1, w2]).map D.int))) (.v (.int p.1)) (.v (.int p.2)) s8 s9 s10, .inl ?_, fun _ => ⟨_, _, _, .inr (.inl ⟨_, rfl⟩), .inr (.inl ⟨_, rfl⟩), by simp; omega, fun b hb => ?_, rfl⟩⟩
        · have hz : js.length + 4 ≤ 16777216 := by omega
          have b1 : biD .max [.int 0, .int (p.1 - 1)] = some (.v (.int w1)) := by rw [max_ok, e1]
          have b2 : biD .min [.int 1000000000000, .int (p.2 + 1)] = some (.v (.int w2)) := by rw [min_ok, e2]
          rcases m6 with rfl | ⟨d5, rfl⟩ | ⟨d5, rfl⟩ <;> rcases m7 with rfl | ⟨d6, rfl⟩ | ⟨d6, rfl⟩ <;> simp [frT, z4b, EV, exL, exS, ev, evAnd, evOr, evs, evO, evI, tsts, rd, lk, unf, rds, giv, givs, toB, outR, callR, ows, nodupB, argS, bak, asg, asgR, asgT, asgTs, putS, evsF, nrm, nrmL, asgL, pw12, sub_ok, add_ok, b1, b2, mkL, SZ, binD, hz, grdP]
        · rcases List.mem_append.mp hb with z | z
          · exact hj0 b z
          · simp at z
            omega
      · have := (List.getElem?_eq_some_iff.mp hd).1
        rw [List.length_map] at this
        omega)
    (fun _ => ⟨is, s6, s7, n6, n7, hi, h0, rfl⟩)
  obtain ⟨e', q1, q2⟩ := lp
  rw [Nat.zero_add, List.length_map] at q2
  obtain ⟨js, s6', s7', m6, m7, hj, hj0, rfl⟩ := q2 hy
  refine ⟨js, s6', s7', m6, m7, hj0, ?_⟩
  exact ex_fr (F := F) (gl := gl) (tg := .tp [.nm 6, .nm 7]) (b := z4b) (it := .e (.v 3)) (env := EV sc h t (.v (yD ys)) s4 (.o (.lst (is.map D.int))) s6 s7 s8 s9 s10) (ds := ys.map pr) (gs := []) (e1 := EV sc h t (.v (yD ys)) s4 (.o (.lst (is.map D.int))) s6 s7 s8 s9 s10) (by simp [EV, exL, exS, ev, evAnd, evOr, evs, evO, evI, tsts, rd, lk, unf, rds, giv, givs, toB, outR, callR, ows, nodupB, argS, bak, asg, asgR, asgT, asgTs, putS, evsF, nrm, nrmL, asgL, walkD, gOf]) q1
theorem small_log {a : Int} (h1 : -(2 ^ 100) < a) (h2 : a < 2 ^ 100) : a.natAbs.log2 < 1920 := by
  have := log2_lt (a := a) (by omega) (by omega)
  omega
theorem sc_ok {d : D} (h : d = .non ∨ ∃ v : Int, d = .int v ∧ 0 ≤ v ∧ v ≤ 1000000000000) : okR 8 d = true ∧ szR 8 d ≤ 1921 := by
  rcases h with rfl | ⟨v, rfl, a, b⟩
  · exact ⟨rfl, by decide⟩
  · exact ⟨decide_eq_true (small_log (by omega) (by omega)), Nat.le_refl _⟩
theorem two_ok {a b : D} (ha : okR 8 a = true ∧ szR 8 a ≤ 1921) (hb : okR 8 b = true ∧ szR 8 b ≤ 1921) : okR LV (.lst [a, b]) = true ∧ szR LV (.lst [a, b]) ≤ SZ := by
  refine ⟨by simp [okR, ha.1, hb.1], ?_⟩
  simp only [szR, LV, List.map_cons, List.map_nil, List.sum_cons, List.sum_nil]
  have := ha.2
  have := hb.2
  unfold SZ
  omega
theorem op_cases {ys : List (Int × Int)} {b : Int} (Y : Yr ys) (b0 : 0 ≤ b) : opD ys b = .non ∨ ∃ v : Int, opD ys b = .int v ∧ 0 ≤ v ∧ v ≤ 1000000000000 ∧ shutT ys v = false := by
  unfold opD
  by_cases h : opF ys b ≤ 1000000000000
  · rw [if_pos h]
    refine .inr ⟨_, rfl, (op_ge Y b0).1, h, ?_⟩
    cases q : shutT ys (opF ys b) with
    | false => rfl
    | true =>
      obtain ⟨p, hp, z⟩ := (shutT_iff Y).mp q
      exact absurd z (op_open Y p hp)
  · rw [if_neg h]
    exact .inl rfl
theorem sh_cases {ys : List (Int × Int)} {b : Int} (Y : Yr ys) (b0 : 0 ≤ b) (b1 : b ≤ 1000000000000) : shD ys b = .non ∨ ∃ v : Int, shD ys b = .int v ∧ 0 ≤ v ∧ v ≤ 1000000000000 ∧ shutT ys v = true := by
  cases q : ys[pl ys b]? with
  | none => exact .inl (by unfold shD; rw [q])
  | some p =>
    have e : shD ys b = .int (if p.1 > b then p.1 else b) := by unfold shD; rw [q]
    obtain ⟨p', hp, z⟩ := sh_shut Y e
    have ok := Y.ok p' hp
    exact .inr ⟨_, e, by split <;> omega, by omega, (shutT_iff Y).mpr ⟨p', hp, z⟩⟩
theorem not_bl {x : Bool} : cmpD .isNot (.bl x) (.bl x) = some false := by simp [cmpD]
theorem not_non : cmpD .isNot .non .non = some false := by simp [cmpD]
theorem not_int {v : Int} : cmpD .isNot (.int v) .non = some true := by simp [cmpD]
def NV (s : Sl) : Prop := s = .n ∨ ∃ d, s = .v d
abbrev EW (sc h t : D) (s3 s4 s5 s6 s7 s8 s9 s10 : Sl) : En := [.v sc, .o h, .v t, s3, s4, s5, s6, s7, s8, s9, s10, .n]
theorem hour (A : Fs F) {ys : List (Int × Int)} {L : D} {b : Int} (Y : Yr ys) (hy : ys.length ≤ 400) (b0 : 0 ≤ b) (b1 : b ≤ 1000000000000) (n9 : NV s9) (n10 : NV s10) :
    exL F gl [y1, y2, y3, y4] (EV sc h t (.v (yD ys)) s4 (.p L) s6 s7 (.v (.int b)) s9 s10) = some (.nx, EV sc h t (.v (yD ys)) s4 (.p L) s6 s7 (.v (.int b)) (.v (opD ys b)) (.v (shD ys b))) := by
  have c1 := A.no ys b Y hy b0 b1
  have c2 := A.ns ys b Y hy b0 b1
  have c3 := A.lo ys b Y
  have c4 := A.ls ys b Y hy
  have ho := op_cases (b := b) Y b0
  have hs := sh_cases (b := b) Y b0 b1
  have k := two_ok (sc_ok (ho.imp id fun ⟨v, e, x, y, _⟩ => ⟨v, e, x, y⟩)) (sc_ok (hs.imp id fun ⟨v, e, x, y, _⟩ => ⟨v, e, x, y⟩))
  have c5 := A.ke (.lst [opD ys b, shD ys b]) k.1 k.2
  have q1 : exS F gl y1 (EV sc h t (.v (yD ys)) s4 (.p L) s6 s7 (.v (.int b)) s9 s10) = some (.nx, EV sc h t (.v (yD ys)) s4 (.p L) s6 s7 (.v (.int b)) (.v (opD ys b)) (.v (shD ys b))) := by
    rcases n9 with rfl | ⟨d, rfl⟩ <;> rcases n10 with rfl | ⟨d', rfl⟩ <;> simp [y1, EV, exL, exS, ev, evAnd, evOr, evs, evO, evI, tsts, rd, lk, unf, rds, giv, givs, toB, outR, callR, ows, nodupB, argS, bak, asg, asgR, asgT, asgTs, putS, evsF, nrm, nrmL, asgL, c1, c2]
  have q2 : exS F gl y2 (EV sc h t (.v (yD ys)) s4 (.p L) s6 s7 (.v (.int b)) (.v (opD ys b)) (.v (shD ys b))) = some (.nx, EV sc h t (.v (yD ys)) s4 (.p L) s6 s7 (.v (.int b)) (.v (opD ys b)) (.v (shD ys b))) := by
    simp [y2, EV, exL, exS, ev, evAnd, evOr, evs, evO, evI, tsts, rd, lk, unf, rds, giv, givs, toB, outR, callR, ows, nodupB, argS, bak, asg, asgR, asgT, asgTs, putS, evsF, nrm, nrmL, asgL, c3, c4, c5, mkL, SZ]
  have q3 : exS F gl y3 (EV sc h t (.v (yD ys)) s4 (.p L) s6 s7 (.v (.int b)) (.v (opD ys b)) (.v (shD ys b))) = some (.nx, EV sc h t (.v (yD ys)) s4 (.p L) s6 s7 (.v (.int b)) (.v (opD ys b)) (.v (shD ys b))) := by
    rcases ho with e | ⟨v, e, v0, v1, hv⟩
    · rw [e]
      simp [y3, EV, exL, exS, ev, evAnd, evOr, evs, evO, evI, tsts, rd, lk, unf, rds, giv, givs, toB, outR, callR, ows, nodupB, argS, bak, asg, asgR, asgT, asgTs, putS, evsF, nrm, nrmL, asgL, not_non]
    · have c6 := A.sh ys v Y hy v0 v1
      rw [hv] at c6
      rw [e]
      simp [y3, EV, exL, exS, ev, evAnd, evOr, evs, evO, evI, tsts, rd, lk, unf, rds, giv, givs, toB, outR, callR, ows, nodupB, argS, bak, asg, asgR, asgT, asgTs, putS, evsF, nrm, nrmL, asgL, not_int, not_bl, c6]
  have q4 : exS F gl y4 (EV sc h t (.v (yD ys)) s4 (.p L) s6 s7 (.v (.int b)) (.v (opD ys b)) (.v (shD ys b))) = some (.nx, EV sc h t (.v (yD ys)) s4 (.p L) s6 s7 (.v (.int b)) (.v (opD ys b)) (.v (shD ys b))) := by
    rcases hs with e | ⟨v, e, v0, v1, hv⟩
    · rw [e]
      simp [y4, EV, exL, exS, ev, evAnd, evOr, evs, evO, evI, tsts, rd, lk, unf, rds, giv, givs, toB, outR, callR, ows, nodupB, argS, bak, asg, asgR, asgT, asgTs, putS, evsF, nrm, nrmL, asgL, not_non]
    · have c6 := A.sh ys v Y hy v0 v1
      rw [hv] at c6
      rw [e]
      simp [y4, EV, exL, exS, ev, evAnd, evOr, evs, evO, evI, tsts, rd, lk, unf, rds, giv, givs, toB, outR, callR, ows, nodupB, argS, bak, asg, asgR, asgT, asgTs, putS, evsF, nrm, nrmL, asgL, not_int, not_bl, c6]
  exact ex_cons q1 (ex_cons q2 (ex_cons q3 (ex_cons q4 ex_nil)))
theorem r5 (A : Fs F) {ys : List (Int × Int)} {js : List Int} (Y : Yr ys) (hy : ys.length ≤ 400) (h0 : ∀ b ∈ js, 0 ≤ b ∧ b ≤ 1000000000000) (n8 : NV s8) (n9 : NV s9) (n10 : NV s10) : ∃ s8' s9' s10', NV s8' ∧ NV s9' ∧ NV s10' ∧
    exS F gl z5 (EV sc h t (.v (yD ys)) s4 (.o (.lst (js.map D.int))) s6 s7 s8 s9 s10) = some (.nx, EV sc h t (.v (yD ys)) s4 (.o (.lst (js.map D.int))) s6 s7 s8' s9' s10') := by
  have lp := loopF_inv (t := frT F gl (.nm 8) [y1, y2, y3, y4] [(5, .lst (js.map D.int))]) (fun u e => ∃ s8' s9' s10', NV s8' ∧ NV s9' ∧ NV s10' ∧ e = EV sc h t (.v (yD ys)) s4 (.p (.lst (js.map D.int))) s6 s7 s8' s9' s10') (ds := js.map D.int) (i := 0)
    (env := EV sc h t (.v (yD ys)) s4 (.p (.lst (js.map D.int))) s6 s7 s8 s9 s10) (fun u d e hd hI => by
      obtain ⟨s8', s9', s10', m8, m9, m10, rfl⟩ := hI
      obtain ⟨b, hb, rfl⟩ := List.mem_map.mp (List.mem_of_getElem? hd)
      have q := hour (sc := sc) (h := h) (t := t) (s4 := s4) (s6 := s6) (s7 := s7) (L := .lst (js.map D.int)) A Y hy (h0 b hb).1 (h0 b hb).2 m9 m10
      refine ⟨EV sc h t (.v (yD ys)) s4 (.p (.lst (js.map D.int))) s6 s7 (.v (.int b)) (.v (opD ys b)) (.v (shD ys b)), .inl ?_, _, _, _, .inr ⟨_, rfl⟩, .inr ⟨_, rfl⟩, .inr ⟨_, rfl⟩, rfl⟩
      rcases m8 with rfl | ⟨d, rfl⟩ <;> simp [frT, asgT, putS, EV, q, grdP, beqD_self])
    ⟨s8, s9, s10, n8, n9, n10, rfl⟩
  obtain ⟨e', q1, s8', s9', s10', m8, m9, m10, rfl⟩ := lp
  refine ⟨s8', s9', s10', m8, m9, m10, ?_⟩
  exact ex_fr (F := F) (gl := gl) (tg := .nm 8) (b := [y1, y2, y3, y4]) (it := .e (.v 5)) (env := EV sc h t (.v (yD ys)) s4 (.o (.lst (js.map D.int))) s6 s7 s8 s9 s10) (ds := js.map D.int) (gs := [(5, .lst (js.map D.int))]) (e1 := EV sc h t (.v (yD ys)) s4 (.o (.lst (js.map D.int))) s6 s7 s8 s9 s10) (by simp [EV, exL, exS, ev, evAnd, evOr, evs, evO, evI, tsts, rd, lk, unf, rds, giv, givs, toB, outR, callR, ows, nodupB, argS, bak, asg, asgR, asgT, asgTs, putS, evsF, nrm, nrmL, asgL, walkD, gOf]) q1
def zs : List Sx := [z1, z2, z3, z4, z5]
def Lw (sc : D) (N : Nat) (e : En) : Prop := ∃ (h : D) (s2 s3 s4 s5 s6 s7 s8 s9 s10 : Sl), Hok N h ∧ NQ s2 ∧ NQ s3 ∧ NQ s4 ∧ NQ s5 ∧ NQ s6 ∧ NQ s7 ∧ NV s8 ∧ NV s9 ∧ NV s10 ∧ e = [.v sc, .o h, s2, s3, s4, s5, s6, s7, s8, s9, s10, .n]
theorem NQ.v (d : D) : NQ (.v d) := .inr (.inl ⟨d, rfl⟩)
theorem NQ.o (d : D) : NQ (.o d) := .inr (.inr ⟨d, rfl⟩)
theorem turn (A : Fs F) {N : Nat} {e : En} {i : Int} (I : Lw sc N e) (hN : N < 2 ^ 48) : ∃ e', frT F gl (.nm 2) zs [] (.int i) e = some (.nx, e') ∧ Lw sc (N + 200) e' := by
  obtain ⟨h0, s2, s3, s4, s5, s6, s7, s8, s9, s10, H0, n2, n3, n4, n5, n6, n7, n8, n9, n10, rfl⟩ := I
  obtain ⟨ys, h1, Y, hy, H1, q1⟩ := r1 (sc := sc) (tt := i) (s4 := s4) (s5 := s5) (s6 := s6) (s7 := s7) (s8 := s8) (s9 := s9) (s10 := s10) A H0 (by omega) n3
  obtain ⟨ws, h2, t4, Yw, hw, m4, H2, q2⟩ := r2 (sc := sc) (tt := i) (s5 := s5) (s6 := s6) (s7 := s7) (s8 := s8) (s9 := s9) (s10 := s10) A Y hy H1 (by omega) n4
  obtain ⟨is, h3, i5, i0, H3, q3⟩ := r3 (sc := sc) (t := .int i) (s3 := .v (yD ws)) (s4 := t4) (s6 := s6) (s7 := s7) (s8 := s8) (s9 := s9) (s10 := s10) A H2 (by omega) n5
  obtain ⟨js, t6, t7, m6, m7, j0, q4⟩ := r4 (F := F) (sc := sc) (h := h3) (t := .int i) (s4 := t4) (s8 := s8) (s9 := s9) (s10 := s10) Yw hw i5 i0 n6 n7
  obtain ⟨t8, t9, t10, m8, m9, m10, q5⟩ := r5 (sc := sc) (h := h3) (t := .int i) (s4 := t4) (s6 := t6) (s7 := t7) A Yw (by omega) j0 n8 n9 n10
  have all : exL F gl zs (EV sc h0 (.int i) s3 s4 s5 s6 s7 s8 s9 s10) = some (.nx, EV sc h3 (.int i) (.v (yD ws)) t4 (.o (.lst (js.map D.int))) t6 t7 t8 t9 t10) := ex_cons q1 (ex_cons q2 (ex_cons q3 (ex_cons q4 (ex_cons q5 ex_nil))))
  refine ⟨EV sc h3 (.int i) (.v (yD ws)) t4 (.o (.lst (js.map D.int))) t6 t7 t8 t9 t10, ?_, h3, _, _, _, _, _, _, _, _, _, H3.mono (by omega), .v _, .v _, m4, .o _, m6, m7, m8, m9, m10, rfl⟩
  rcases n2 with rfl | ⟨d, rfl⟩ | ⟨d, rfl⟩ <;> simp [frT, asgT, putS, all, grdP]
def zr : Sx := .ret (.and [.cmp .is (.call 12 [.tup [.tup [.k (.int 0), .bin .pow (.k (.int 10)) (.k (.int 12))]], .k (.int 7)]) (.k .non), .cmp .is (.call 13 [.tup [], .k (.int 0)]) (.k .non), .cmp .eq (.call 12 [.tup [.tup [.k (.int 0), .k (.int 3)], .tup [.k (.int 5), .k (.int 5)]], .k (.int 2)]) (.k (.int 4))])
theorem yA : Yr [(0, 1000000000000)] := Yr.nil.snoc (a := 0) (b := 1000000000000) (by decide) (by decide) (by decide) (fun p z => nomatch z)
theorem yB : Yr [(0, 3), (5, 5)] := (Yr.nil.snoc (a := 0) (b := 3) (by decide) (by decide) (by decide) (fun p z => nomatch z)).snoc (a := 5) (b := 5) (by decide) (by decide) (by decide) (fun p z => by
  have : p = (0, 3) := by simpa using z
  subst this
  decide)
theorem last (A : Fs F) {e : En} : exS F gl zr e = some (.rt (.v (.bl true)), e) := by
  have c1 := A.no [(0, 1000000000000)] 7 yA (by decide) (by decide) (by decide)
  have c2 := A.ns [] 0 .nil (by decide) (by decide) (by decide)
  have c3 := A.no [(0, 3), (5, 5)] 2 yB (by decide) (by decide) (by decide)
  have e1 : opD [(0, 1000000000000)] 7 = .non := rfl
  have e2 : shD [] 0 = .non := rfl
  have e3 : opD [(0, 3), (5, 5)] 2 = .int 4 := rfl
  rw [e1] at c1
  rw [e2] at c2
  rw [e3] at c3
  simp only [yD, pr, List.map_cons, List.map_nil] at c1 c2 c3
  have f1 : cmpD .is .non .non = some true := by simp [cmpD]
  have f2 : cmpD .eq (.int 4) (.int 4) = some true := by rw [eq_int]; rfl
  simp [zr, exL, exS, ev, evAnd, evOr, evs, evO, evI, tsts, rd, lk, unf, rds, giv, givs, toB, outR, callR, ows, nodupB, argS, bak, asg, asgR, asgT, asgTs, putS, evsF, nrm, nrmL, asgL, c1, c2, c3, pw12, mkT, SZ, f1, f2]
theorem run_law (A : Fs F) {sc : D} (hh : ∃ h0, Hok 0 h0 ∧ F 14 [.v sc] = some (.f h0, [.v sc])) : ∃ e, exL F gl d_law.body [.v sc, .n, .n, .n, .n, .n, .n, .n, .n, .n, .n, .n] = some (.rt (.v (.bl true)), .v sc :: e) := by
  obtain ⟨h0, H0, c0⟩ := hh
  have lp := loopF_inv (t := frT F gl (.nm 2) zs []) (fun u e => u ≤ 10 → Lw sc (200 * u) e) (ds := rgD 0 10) (i := 0) (env := [.v sc, .o h0, .n, .n, .n, .n, .n, .n, .n, .n, .n, .n]) (fun u d e hd hI => by
      rw [Nat.zero_add] at hI ⊢
      obtain ⟨j, _, rfl⟩ := List.mem_map.mp (List.mem_of_getElem? hd)
      by_cases hu : u + 1 ≤ 10
      · obtain ⟨e', q1, q2⟩ := turn (i := 0 + (j : Int)) A (hI (by omega)) (by omega)
        exact ⟨e', .inl q1, fun _ => by rw [show 200 * (u + 1) = 200 * u + 200 by omega]; exact q2⟩
      · have := (List.getElem?_eq_some_iff.mp hd).1
        rw [rgD_len] at this
        omega)
    (fun _ => ⟨h0, .n, .n, .n, .n, .n, .n, .n, .n, .n, H0, .inl rfl, .inl rfl, .inl rfl, .inl rfl, .inl rfl, .inl rfl, .inl rfl, .inl rfl, .inl rfl, rfl⟩)
  obtain ⟨e', q1, q2⟩ := lp
  obtain ⟨h, s2, s3, s4, s5, s6, s7, s8, s9, s10, H, _, _, _, _, _, _, _, _, _, rfl⟩ := q2 (by rw [rgD_len]; decide)
  have q3 := last (F := F) A (e := [.v sc, .o h, s2, s3, s4, s5, s6, s7, s8, s9, s10, .n])
  refine ⟨[.o h, s2, s3, s4, s5, s6, s7, s8, s9, s10, .n], ex_cons (e1 := [.v sc, .o h0, .n, .n, .n, .n, .n, .n, .n, .n, .n, .n]) (by simp [exL, exS, ev, evAnd, evOr, evs, evO, evI, tsts, rd, lk, unf, rds, giv, givs, toB, outR, callR, ows, nodupB, argS, bak, asg, asgR, asgT, asgTs, putS, evsF, nrm, nrmL, asgL, c0]) (ex_cons (e1 := [.v sc, .o h, s2, s3, s4, s5, s6, s7, s8, s9, s10, .n]) ?_ (ex_ret q3))⟩
  have hR := inR_ok (n := 10) (by decide) (by decide)
  exact ex_fr (F := F) (gl := gl) (tg := .nm 2) (b := zs) (it := .rg1 (.k (.int 10))) (env := [.v sc, .o h0, .n, .n, .n, .n, .n, .n, .n, .n, .n, .n]) (ds := rgD 0 10) (gs := []) (e1 := [.v sc, .o h0, .n, .n, .n, .n, .n, .n, .n, .n, .n, .n]) (by simp [exL, exS, ev, evAnd, evOr, evs, evO, evI, tsts, rd, lk, unf, rds, giv, givs, toB, outR, callR, ows, nodupB, argS, bak, asg, asgR, asgT, asgTs, putS, evsF, nrm, nrmL, asgL, hR]) q1
end
/-! ### all defs, by their depth -/
section
variable (k : Nat)
theorem l15 : DrawOk (callF P gl (k + 1)) 15 := draw_ok (z := false) rfl
theorem l16 : SomeOk (callF P gl (k + 2)) 16 := some_ok rfl (l15 k)
theorem l0 : FInt (callF P gl (k + 1)) 0 := int_fn rfl
theorem l1 : FWith (callF P gl (k + 2)) 1 := with_fn rfl (l0 k)
theorem l2 : FHour (callF P gl (k + 3)) 2 := hour_fn rfl g1 (l1 k)
theorem l3 : FChkH (callF P gl (k + 4)) 3 := chkH_fn rfl (l2 k)
theorem l4 : FTup (callF P gl (k + 1)) 4 := tup_fn rfl
theorem l5 : FStr (callF P gl (k + 4)) 5 := str_fn rfl (l4 (k + 2)) (l2 k)
theorem l6 : FYear (callF P gl (k + 5)) 6 := year_fn rfl g2 (l4 (k + 3)) (l5 k)
theorem l7 : FChkY (callF P gl (k + 6)) 7 := chkY_fn rfl (l6 k)
theorem l8 : FPl (callF P gl (k + 1)) 8 := pl_fn rfl
theorem l9 : FShT (callF P gl (k + 2)) 9 := shT_fn rfl (l8 k)
theorem l10 : FIsSh (callF P gl (k + 7)) 10 := isSh_fn rfl (l7 k) (l3 (k + 2)) (l9 (k + 4))
theorem l11 (ys : List (Int × Int)) (x : Int) (Y : Yr ys) (hl : ys.length ≤ 400) : callF P gl (k + 2) 11 [.v (yD ys), .v (.int x)] = some (.v (.int (opF ys x)), [.v (yD ys), .v (.int x)]) :=
  callF_rt (df := d_open_from) rfl rfl (run_of Y hl (l8 k ys x Y hl)) rfl rfl
theorem l12 (ys : List (Int × Int)) (x : Int) (Y : Yr ys) (hl : ys.length ≤ 400) (x0 : 0 ≤ x) (x1 : x ≤ 1000000000000) : callF P gl (k + 7) 12 [.v (yD ys), .v (.int x)] = some (.v (opD ys x), [.v (yD ys), .v (.int x)]) :=
  callF_rt (df := d_next_open) rfl rfl (run_no (l7 k ys Y hl) (l3 (k + 2) x x0 x1) (l11 (k + 4) ys x Y hl)) rfl rfl
theorem l13 (ys : List (Int × Int)) (x : Int) (Y : Yr ys) (hl : ys.length ≤ 400) (x0 : 0 ≤ x) (x1 : x ≤ 1000000000000) : callF P gl (k + 7) 13 [.v (yD ys), .v (.int x)] = some (.v (shD ys x), [.v (yD ys), .v (.int x)]) :=
  callF_rt (df := d_next_shut) rfl rfl (run_ns (l7 k ys Y hl) (l3 (k + 2) x x0 x1) (l8 (k + 5) ys x Y hl)) rfl rfl
theorem l17 : FKept (callF P gl (k + 1)) 17 := kept_fn rfl
theorem l20 : FFar (callF P gl (k + 2)) 20 := far_fn rfl (l15 k)
theorem l18 : FWide (callF P gl (k + 3)) 18 := wide_fn rfl (l15 (k + 1)) (l16 k)
theorem l19 : FFarY (callF P gl (k + 3)) 19 := farY_fn rfl (l15 (k + 1)) (l16 k) (l20 k)
theorem l21 (ys : List (Int × Int)) (x : Int) (Y : Yr ys) : callF P gl (k + 1) 21 [.v (yD ys), .v (.int x)] = some (.v (opD ys x), [.v (yD ys), .v (.int x)]) := by
  obtain ⟨e, q⟩ := run_lo (F := callF P gl k) (x := x) Y
  exact callF_rt (df := d__law_next_open) rfl rfl q rfl rfl
theorem l22 (ys : List (Int × Int)) (x : Int) (Y : Yr ys) (hl : ys.length ≤ 400) : callF P gl (k + 1) 22 [.v (yD ys), .v (.int x)] = some (.v (shD ys x), [.v (yD ys), .v (.int x)]) := by
  obtain ⟨e, q⟩ := run_ls (F := callF P gl k) (x := x) Y hl
  exact callF_rt (df := d__law_next_shut) rfl rfl q rfl rfl
theorem fs : Fs (callF P gl 7) := ⟨l15 6, l16 5, l17 6, l18 4, l19 4, l20 5, l10 0, l12 0, l13 0, l21 6, l22 6⟩
end
theorem plain : ∀ ns : List Int, ns.length ≤ 63 → ∃ fin, callF P gl 8 23 [.v (.rol (ns.map D.int))] = some (.v (.bl true), fin) := fun ns hn => by
  obtain ⟨h0, s2, s3, H, q⟩ := run_hand (F := callF P gl 6) (gl := gl) (z := false) (s := 16618) (ns := ns) (by decide) (by decide) (by omega)
  obtain ⟨e, q⟩ := run_law fs (sc := .rol (ns.map D.int)) ⟨h0, H, callF_rt (df := d__law_hand) rfl rfl q rfl rfl⟩
  exact ⟨_, callF_rt (df := d_law) rfl rfl q rfl rfl⟩
end K01
open PySem PySem.W PyProof.Rows
set_option maxHeartbeats 0 in
theorem PySem.Challenge.cw_dayshut_k01_whole_next_open_and_next_shu_holds : PySem.Challenge.rw_dayshut_k01_whole_next_open_and_next_shu.Holds := by
  w_on; o_law; k_head; (case hw => w_witness2)
  k_fill
  refine PL.law_walk (n := 63) (k := 8) (L := 23) (B := K01.B) (P := K01.P) rfl (by decide) rfl ⟨rfl, by decide, by decide⟩ (fun w h Y => PySem.W.kIn_of Y) rfl rfl ?F K01.plain
  case F =>
    intro w mg h KX G XX
    refine' K01.tab KX G XX (by simp) ?a0 ?l0 ?c0 ?k0 ?a1 ?l1 ?c1 ?k1 ?a2 ?l2 ?c2 ?k2 ?a3 ?l3 ?c3 ?k3 ?a4 ?l4 ?c4 ?k4 ?a5 ?l5 ?c5 ?k5 ?a6 ?l6 ?c6 ?k6 ?a7 ?l7 ?c7 ?k7 ?a8 ?l8 ?c8 ?k8 ?a9 ?l9 ?c9 ?k9 ?a10 ?l10 ?c10 ?k10 ?a11 ?l11 ?c11 ?k11 ?a12 ?l12 ?c12 ?k12 ?a13 ?l13 ?c13 ?k13 ?a14 ?l14 ?c14 ?k14 ?a15 ?l15 ?c15 ?k15 ?a16 ?l16 ?c16 ?k16 ?a17 ?l17 ?c17 ?k17 ?a18 ?l18 ?c18 ?k18 ?a19 ?l19 ?c19 ?k19 ?a20 ?l20 ?c20 ?k20 ?a21 ?l21 ?c21 ?k21 ?a22 ?l22 ?c22 ?k22 ?a23 ?l23 ?c23 ?k23 ?gv0 ?z0 ?z1 ?z2 ?z3 ?z4 ?z5 ?z6 ?z7 ?z8 ?z9 ?z10 ?z11
    (case a0 => k_is)
    (case l0 => k_is)
    (case c0 => k_is)
    (case k0 => k_is)
    (case a1 => k_is)
    (case l1 => k_is)
    (case c1 => k_is)
    (case k1 => k_is)
    (case a2 => k_is)
    (case l2 => k_is)
    (case c2 => k_is)
    (case k2 => k_is)
    (case a3 => k_is)
    (case l3 => k_is)
    (case c3 => k_is)
    (case k3 => k_is)
    (case a4 => k_is)
    (case l4 => k_is)
    (case c4 => k_is)
    (case k4 => k_is)
    (case a5 => k_is)
    (case l5 => k_is)
    (case c5 => k_is)
    (case k5 => k_is)
    (case a6 => k_is)
    (case l6 => k_is)
    (case c6 => k_is)
    (case k6 => k_is)
    (case a7 => k_is)
    (case l7 => k_is)
    (case c7 => k_is)
    (case k7 => k_is)
    (case a8 => k_is)
    (case l8 => k_is)
    (case c8 => k_is)
    (case k8 => k_is)
    (case a9 => k_is)
    (case l9 => k_is)
    (case c9 => k_is)
    (case k9 => k_is)
    (case a10 => k_is)
    (case l10 => k_is)
    (case c10 => k_is)
    (case k10 => k_is)
    (case a11 => k_is)
    (case l11 => k_is)
    (case c11 => k_is)
    (case k11 => k_is)
    (case a12 => k_is)
    (case l12 => k_is)
    (case c12 => k_is)
    (case k12 => k_is)
    (case a13 => k_is)
    (case l13 => k_is)
    (case c13 => k_is)
    (case k13 => k_is)
    (case a14 => k_is)
    (case l14 => k_is)
    (case c14 => k_is)
    (case k14 => k_is)
    (case a15 => k_is)
    (case l15 => k_is)
    (case c15 => k_is)
    (case k15 => k_is)
    (case a16 => k_is)
    (case l16 => k_is)
    (case c16 => k_is)
    (case k16 => k_is)
    (case a17 => k_is)
    (case l17 => k_is)
    (case c17 => k_is)
    (case k17 => k_is)
    (case a18 => k_is)
    (case l18 => k_is)
    (case c18 => k_is)
    (case k18 => k_is)
    (case a19 => k_is)
    (case l19 => k_is)
    (case c19 => k_is)
    (case k19 => k_is)
    (case a20 => k_is)
    (case l20 => k_is)
    (case c20 => k_is)
    (case k20 => k_is)
    (case a21 => k_is)
    (case l21 => k_is)
    (case c21 => k_is)
    (case k21 => k_is)
    (case a22 => k_is)
    (case l22 => k_is)
    (case c22 => k_is)
    (case k22 => k_is)
    (case a23 => k_is)
    (case l23 => k_is)
    (case c23 => k_is)
    (case k23 => k_is)
    (case gv0 => k_is)
    (case z0 => k_is)
    (case z1 => k_is)
    (case z2 => k_is)
    (case z3 => k_is)
    (case z4 => k_is)
    (case z5 => k_is)
    (case z6 => k_is)
    (case z7 => k_is)
    (case z8 => k_is)
    (case z9 => k_is)
    (case z10 => k_is)
    (case z11 => k_is)
