import PyProof.Rows.All
import Wide.All
import OpenK.AllK
import Wide.FinOn
import HandS.ForMost
import HandS.ForExc
import HandS.Evl
import HandS.TupAny
import HandS.TupMul
import HandS.Wide
import HandS.Gcd
import HandS.Lambda
import HandS.EndTab
import KE.SortKeyHeap
import KE.LtData
import HandS.IsInst
import HandS.Zip
import HandS.Style
import KE.KSuper
import KE.KExcSuper
import KE.KExcIs
import KE.KIsAll
import HandS.ExcField
import HandS.ExcIs
import PyProof.ReprRoads
import HandS.More
import HandS.Dict
import HandS.Conv
import HandS.SortRule
import HandS.Iter
import KE.KDictZip
import KE.GoesZip
import KE.GoesMore
import KE.KDictList
import HandS.ExcValue
import PySem.Challenge.RW_saidofadding_k03_whole_indices
set_option Elab.async false
set_option linter.all false
set_option maxRecDepth 100000
set_option maxHeartbeats 2000000
namespace Mini
open PySem L2 Evl

abbrev D := PyData

/-! ### data in the abstract heap -/
mutual
def At (K : PySem.W.Frag) (pm : Option Addr) (H : Hp) : V → D → Prop
  | v, .none => v = .non
  | v, .bool b => v = .bl b
  | v, .int i => v = .int i
  | v, .str s => v = .str s
  | v, .tuple ds => ∃ a xs, v = .ref a ∧ H a = some (.tup xs) ∧ AtL K pm H xs ds
  | v, .list ds => ∃ a xs, v = .ref a ∧ H a = some (.lst xs) ∧ AtL K pm H xs ds
  | v, .dict kvs => kvs = [] ∧ ∃ p, pm = some p ∧ v = .ref p
def AtL (K : PySem.W.Frag) (pm : Option Addr) (H : Hp) : List V → List D → Prop
  | [], [] => True
  | v :: vs, d :: ds => At K pm H v d ∧ AtL K pm H vs ds
  | [], _ :: _ => False
  | _ :: _, [] => False
end

section
variable {K : PySem.W.Frag} {pm : Option Addr} {H H' : Hp}
mutual
theorem At.mono (e : Ex H H') : ∀ (d : D) (v : V), At K pm H v d → At K pm H' v d
  | .none, _, h => h
  | .bool _, _, h => h
  | .int _, _, h => h
  | .str _, _, h => h
  | .tuple ds, _, h => by
    obtain ⟨a, xs, r, h1, h2⟩ := h
    exact ⟨a, xs, r, e _ _ h1, AtL.mono e ds xs h2⟩
  | .list ds, _, h => by
    obtain ⟨a, xs, r, h1, h2⟩ := h
    exact ⟨a, xs, r, e _ _ h1, AtL.mono e ds xs h2⟩
  | .dict _, _, h => h
theorem AtL.mono (e : Ex H H') : ∀ (ds : List D) (vs : List V), AtL K pm H vs ds → AtL K pm H' vs ds
  | [], [], h => h
  | d :: ds, v :: vs, h => ⟨At.mono e d v h.1, AtL.mono e ds vs h.2⟩
  | [], _ :: _, h => h
  | _ :: _, [], h => h
end
theorem AtL.length : ∀ {vs : List V} {ds : List D}, AtL K pm H vs ds → vs.length = ds.length
  | [], [], _ => rfl
  | v :: vs, d :: ds, h => by rw [List.length_cons, List.length_cons, AtL.length h.2]
  | [], _ :: _, h => h.elim
  | _ :: _, [], h => h.elim
theorem AtL.append : ∀ {vs ws : List V} {ds es : List D}, AtL K pm H vs ds → AtL K pm H ws es → AtL K pm H (vs ++ ws) (ds ++ es)
  | [], _, [], _, _, h => h
  | _ :: _, _, _ :: _, _, h, g => ⟨h.1, AtL.append h.2 g⟩
  | [], _, _ :: _, _, h, _ => h.elim
  | _ :: _, _, [], _, h, _ => h.elim
theorem AtL.one {v : V} {d : D} (h : At K pm H v d) : AtL K pm H [v] [d] := ⟨h, trivial⟩
theorem AtL.get : ∀ {vs : List V} {ds : List D} {i : Nat} {d : D}, AtL K pm H vs ds → ds[i]? = some d → ∃ v, vs[i]? = some v ∧ At K pm H v d
  | v :: _, _ :: _, 0, _, h, e => ⟨v, rfl, by simp at e; exact e ▸ h.1⟩
  | _ :: vs, _ :: ds, i + 1, d, h, e => by
    obtain ⟨v, h1, h2⟩ := AtL.get (i := i) h.2 (by simpa using e)
    exact ⟨v, by simpa using h1, h2⟩
  | [], [], _, _, _, e => by simp at e
  | [], _ :: _, _, _, h, _ => h.elim
  | _ :: _, [], _, _, h, _ => h.elim
theorem AtL.getV : ∀ {vs : List V} {ds : List D} {i : Nat} {v : V}, AtL K pm H vs ds → vs[i]? = some v → ∃ d, ds[i]? = some d ∧ At K pm H v d
  | _ :: _, d :: _, 0, _, h, e => ⟨d, rfl, by simp at e; exact e ▸ h.1⟩
  | _ :: vs, _ :: ds, i + 1, d, h, e => by
    obtain ⟨v, h1, h2⟩ := AtL.getV (i := i) h.2 (by simpa using e)
    exact ⟨v, by simpa using h1, h2⟩
  | [], [], _, _, _, e => by simp at e
  | [], _ :: _, _, _, h, _ => h.elim
  | _ :: _, [], _, _, h, _ => h.elim
theorem AtL.take : ∀ {vs : List V} {ds : List D} (n : Nat), AtL K pm H vs ds → AtL K pm H (vs.take n) (ds.take n)
  | _, _, 0, _ => trivial
  | [], [], _ + 1, _ => trivial
  | _ :: _, _ :: _, n + 1, h => ⟨h.1, AtL.take n h.2⟩
  | [], _ :: _, _, h => h.elim
  | _ :: _, [], _, h => h.elim
theorem AtL.drop : ∀ {vs : List V} {ds : List D} (n : Nat), AtL K pm H vs ds → AtL K pm H (vs.drop n) (ds.drop n)
  | _, _, 0, h => h
  | [], [], _ + 1, _ => trivial
  | _ :: _, _ :: _, n + 1, h => AtL.drop n h.2
  | [], _ :: _, _, h => h.elim
  | _ :: _, [], _, h => h.elim
-- no dict (so no m) stands in it
mutual
def nod : D → Bool
  | .tuple ds => nodL ds
  | .list ds => nodL ds
  | .dict _ => false
  | .none => true
  | .bool _ => true
  | .int _ => true
  | .str _ => true
def nodL : List D → Bool
  | [] => true
  | d :: ds => nod d && nodL ds
end
mutual
theorem At.dp : ∀ (d : D) (v : V), nod d = true → At K pm H v d → Dp K H v d
  | .none, _, _, h => by cases h; exact .non
  | .bool _, _, _, h => by cases h; exact .bl _
  | .int _, _, _, h => by cases h; exact .int _
  | .str _, _, _, h => by cases h; exact .str _
  | .tuple ds, _, n, h => by
    obtain ⟨a, xs, rfl, h1, h2⟩ := h
    exact .tup (st_of h1) (AtL.dp ds xs (by simpa [nod] using n) h2)
  | .list ds, _, n, h => by
    obtain ⟨a, xs, rfl, h1, h2⟩ := h
    exact .lst (.inl (.inl h1)) (AtL.dp ds xs (by simpa [nod] using n) h2)
  | .dict _, _, n, _ => by simp [nod] at n
theorem AtL.dp : ∀ (ds : List D) (vs : List V), nodL ds = true → AtL K pm H vs ds → DpAll K H vs ds
  | [], [], _, _ => .nil
  | d :: ds, v :: vs, n, h => by
    have n' : nod d = true ∧ nodL ds = true := by simpa [nodL] using n
    exact .cons (At.dp d v n'.1 h.1) (AtL.dp ds vs n'.2 h.2)
  | [], _ :: _, _, h => h.elim
  | _ :: _, [], _, h => h.elim
end
end

/-! ### the state of the draws: the dict m, its entries in order -/
abbrev G := List (Str × D)
def MAt0 (K : PySem.W.Frag) (pm : Option Addr) (g : G) (Hf H : Hp) : Prop :=
  match pm with
  | none => g = []
  | some p => Hf p = none ∧ ∃ kvs : List (Key × V), H p = some (.dK kvs) ∧ kvs.map (·.1) = g.map (fun x => Sum.inr x.1) ∧ AtL K (some p) Hf (kvs.map (·.2)) (g.map (·.2))

/-- the defs whose bodies make a lambda -/
def lamNames : List Str := [Str.ofString "sum_of_groups"]
/-- P: the table of the code objects that such a def makes; q: their name -/
def LamAt (K : PySem.W.Frag) (P : Addr) (q : Str) : Prop := ∃ (x : Str) (f c : Addr) (oc : Value) (od : Option Addr) (fd : FuncData) (osl : Array (Option Value)) (e : Value) (dd : Option Addr) (vs : Array Value) (sl : Array (Option Value)),
  x ∈ lamNames ∧ PySem.W.nsIn K mainGlobals x = some (some (.ref f)) ∧ K.lookup f = some ⟨oc, od, .func fd, osl⟩ ∧ fd.code = .ref c ∧ K.lookup c = some ⟨e, dd, .fields vs, sl⟩ ∧ vs[11]? = some (.ref P) ∧ q = fd.qualname ++ ".<locals>." ++ "<lambda>"
def TabK (K : PySem.W.Frag) (H : Hp) : Prop := ∀ P q, LamAt K P q → LamX.TabS H P q
def NotTab (u : HO) : Prop := (∀ ps, u ≠ .tbl ps) ∧ ∀ c q, u ≠ LamX.CodeO c q
theorem nt_lst (xs : List V) : NotTab (.lst xs) := ⟨(fun _ z => by cases z), fun c q z => by unfold LamX.CodeO at z; cases z⟩
theorem nt_dT (xs : List (List Key × V)) : NotTab (.dT xs) := ⟨(fun _ z => by cases z), fun c q z => by unfold LamX.CodeO at z; cases z⟩
theorem nt_dK (xs : List (Key × V)) : NotTab (.dK xs) := ⟨(fun _ z => by cases z), fun c q z => by unfold LamX.CodeO at z; cases z⟩
theorem TabK.ext {K : PySem.W.Frag} {H H' : Hp} (t : TabK K H) (e : ∀ b o, H b = some o → H' b = some o) : TabK K H' := fun P q h => (t P q h).ext e
theorem TabK.mut {K : PySem.W.Frag} {H : Hp} {p : Addr} {o : HO} (t : TabK K H) (n : ∀ u, H p = some u → NotTab u) : TabK K (upd H p o) := fun P q h => by
  obtain ⟨ps, h1, h2, h3⟩ := t P q h
  have ne : ∀ (b : Addr) (u : HO), H b = some u → ¬ NotTab u → b ≠ p := fun b u e nt z => nt (n u (by rw [← z]; exact e))
  refine ⟨ps, by rw [upd_ne (ne _ _ h1 fun z => z.1 ps rfl)]; exact h1, h2, fun pos cv hc => ?_⟩
  obtain ⟨c, e1, e2⟩ := h3 pos cv hc
  exact ⟨c, e1, by rw [upd_ne (ne _ _ e2 fun z => z.2 _ _ rfl)]; exact e2⟩
structure MAt (K : PySem.W.Frag) (pm : Option Addr) (g : G) (Hf H : Hp) : Prop where
  m0 : MAt0 K pm g Hf H
  tb : TabK K H
  tf : ∀ P q, LamAt K P q → Hf P = none
theorem TabK.at {K : PySem.W.Frag} {H : Hp} (t : TabK K H) {P : Addr} {q : Str} (l : LamAt K P q) : ∃ ps, H P = some (.tbl ps) := by
  obtain ⟨ps, h, _⟩ := t P q l
  exact ⟨ps, h⟩

/-- from (Hf, H) to (Hf', H'): what is firm stays, what comes anew to it was free; all else stays but m -/
structure Stp (pm : Option Addr) (Hf H Hf' H' : Hp) : Prop where
  ff : Ex Hf Hf'
  fh : Ex Hf' H'
  fr : ∀ b o, Hf' b = some o → Hf b = some o ∨ H b = none ∨ ∃ xs, H b = some (.tup xs)
  hh : ∀ b o, pm ≠ some b → (∀ ps, o ≠ .tbl ps) → H b = some o → H' b = some o
  nn : ∀ b, H b ≠ none → H' b ≠ none
  tp : ∀ b xs, H' b = some (.tup xs) → H b = some (.tup xs) ∨ H b = none
  pp : ∀ b, pm = some b → H b ≠ none → Hf b = none → Hf' b = none
theorem Stp.refl {pm : Option Addr} {Hf H : Hp} (e : Ex Hf H) : Stp pm Hf H Hf H := ⟨Ex.refl _, e, fun _ _ h => .inl h, fun _ _ _ _ h => h, fun _ h => h, fun _ _ h => .inl h, fun _ _ _ z => z⟩
theorem Stp.trans {pm : Option Addr} {Hf H Hf1 H1 Hf2 H2 : Hp} (a : Stp pm Hf H Hf1 H1) (b : Stp pm Hf1 H1 Hf2 H2) : Stp pm Hf H Hf2 H2 := by
  refine ⟨a.ff.trans b.ff, b.fh, fun x o h => ?_, fun x o n nt h => b.hh x o n nt (a.hh x o n nt h), fun x h => b.nn x (a.nn x h), fun x xs h => ?_, fun x e h z => b.pp x e (a.nn x h) (a.pp x e h z)⟩
  · rcases b.fr x o h with h1 | h1 | ⟨xs, h1⟩
    · exact a.fr x o h1
    · right; left
      cases q : H x with
      | none => rfl
      | some u => exact absurd h1 (a.nn x (by rw [q]; simp))
    · rcases a.tp x xs h1 with h2 | h2
      · exact .inr (.inr ⟨xs, h2⟩)
      · exact .inr (.inl h2)
  · rcases b.tp x xs h with h1 | h1
    · exact a.tp x xs h1
    · right
      cases q : H x with
      | none => rfl
      | some u => exact absurd h1 (a.nn x (by rw [q]; simp))
/-- a new object, firm -/
theorem Stp.new {pm : Option Addr} {Hf H : Hp} {p : Addr} {o : HO} (e : Ex Hf H) (h : H p = none) : Stp pm Hf H (upd Hf p o) (upd H p o) := by
  have hf : Hf p = none := fresh_back e h
  refine ⟨Ex.new hf, fun b u q => ?_, fun b u q => ?_, fun b u _ _ q => ?_, fun b q z => ?_, fun b xs z => ?_, fun b _ q z => ?_⟩
  · unfold upd at q ⊢
    split at q
    · rename_i z; rw [if_pos z]; exact q
    · rename_i z; rw [if_neg z]; exact e b u q
  · unfold upd at q
    split at q
    · rename_i z; right; left; rw [z]; exact h
    · left; exact q
  · exact Ex.new h b u q
  · cases r : H b with
    | none => exact q r
    | some u => rw [Ex.new h b u r] at z; cases z
  · unfold upd at z
    split at z
    · rename_i w; right; rw [w]; exact h
    · exact .inl z
  · rw [upd_ne]
    · exact z
    · intro r
      rw [r] at q
      exact q h
/-- a new object, owned -/
theorem Stp.own {pm : Option Addr} {Hf H : Hp} {p : Addr} {o : HO} (e : Ex Hf H) (h : H p = none) : Stp pm Hf H Hf (upd H p o) :=
  ⟨Ex.refl _, e.trans (Ex.new h), fun _ _ q => .inl q, fun b u _ _ q => Ex.new h b u q, fun b q z => (by
    cases r : H b with
    | none => exact q r
    | some u => rw [Ex.new h b u r] at z; cases z), (fun b xs z => by
    unfold upd at z
    split at z
    · rename_i w; right; rw [w]; exact h
    · exact .inl z), fun b _ q z => z⟩
theorem MAt.new {K : PySem.W.Frag} {pm : Option Addr} {g : G} {Hf H : Hp} {p : Addr} {o : HO} (h : H p = none) (m : MAt K pm g Hf H) (e : Ex Hf H) : MAt K pm g (upd Hf p o) (upd H p o) := by
  refine ⟨?_, m.tb.ext fun b u q => Ex.new h b u q, fun P q l => by
    obtain ⟨ps, hP⟩ := m.tb.at l
    rw [upd_ne (ne_of_none hP h)]
    exact m.tf P q l⟩
  cases pm with
  | none => exact m.m0
  | some q =>
    obtain ⟨m1, kvs, m2, m3, m4⟩ := m.m0
    have ne : q ≠ p := fun z => by rw [z, h] at m2; cases m2
    exact ⟨by rw [upd_ne ne]; exact m1, kvs, by rw [upd_ne ne]; exact m2, m3, AtL.mono (Ex.new (fresh_back e h)) _ _ m4⟩
theorem MAt.own {K : PySem.W.Frag} {pm : Option Addr} {g : G} {Hf H : Hp} {p : Addr} {o : HO} (h : H p = none) (m : MAt K pm g Hf H) : MAt K pm g Hf (upd H p o) := by
  refine ⟨?_, m.tb.ext fun b u q => Ex.new h b u q, m.tf⟩
  cases pm with
  | none => exact m.m0
  | some q =>
    obtain ⟨m1, kvs, m2, m3, m4⟩ := m.m0
    have ne : q ≠ p := fun z => by rw [z, h] at m2; cases m2
    exact ⟨m1, kvs, by rw [upd_ne ne]; exact m2, m3, m4⟩

/-! ### slots -/
inductive Ent where
  | frz (d : D)
  | ownL (ds : List D)
  | ownD (kvs : List (List Key × D))
  | scr (ns : List Int)
  | lckD (kvs : List (List Key × D))
abbrev Env1 := List (Option Ent)

def EntAt (K : PySem.W.Frag) (pm : Option Addr) (Hf H : Hp) (v : V) : Ent → Prop
  | .frz d => At K pm Hf v d
  | .ownL ds => ∃ p xs, v = .ref p ∧ pm ≠ some p ∧ Hf p = none ∧ H p = some (.lst xs) ∧ AtL K pm Hf xs ds
  | .ownD kvs => ∃ (p : Addr) (kws : List (List Key × V)), v = .ref p ∧ pm ≠ some p ∧ Hf p = none ∧ H p = some (.dT kws) ∧ kws.map (·.1) = kvs.map (·.1) ∧ AtL K pm Hf (kws.map (·.2)) (kvs.map (·.2))
  | .scr ns => ∃ a, v = .ref a ∧ SqL K Hf a (ns.map V.int)
  | .lckD kvs => ∃ (p : Addr) (o : Obj) (kws : List (List Key × V)), v = .ref p ∧ Hf p = some (.frz o (.dT kws)) ∧ kws.map (·.1) = kvs.map (·.1) ∧ AtL K pm Hf (kws.map (·.2)) (kvs.map (·.2))
def isOwn : Ent → Bool
  | .frz _ => false
  | .scr _ => false
  | .lckD _ => false
  | _ => true
structure Rel (K : PySem.W.Frag) (pm : Option Addr) (σ : St) (ρ : Env1) (g : G) (Hf H : Hp) : Prop where
  ex : Ex Hf H
  mat : MAt K pm g Hf H
  len : σ.length = ρ.length
  ent : ∀ (i : Nat) (e : Ent), ρ[i]? = some (some e) → ∃ v, σ[i]? = some (some v) ∧ EntAt K pm Hf H v e
  dis : ∀ (i j : Nat) (e e' : Ent) (v : V), i ≠ j → ρ[i]? = some (some e) → ρ[j]? = some (some e') → isOwn e = true → isOwn e' = true → σ[i]? = some (some v) → σ[j]? ≠ some (some v)

theorem SqL_mono {K : PySem.W.Frag} {H H' : Hp} {a : Addr} {xs : List V} (e : Ex H H') (h : SqL K H a xs) : SqL K H' a xs := by
  rcases h with (h | ⟨o, h⟩) | h
  · exact .inl (.inl (e _ _ h))
  · exact .inl (.inr ⟨o, e _ _ h⟩)
  · exact .inr h
theorem EntAt.step {K : PySem.W.Frag} {pm : Option Addr} {Hf H Hf' H' : Hp} {v : V} (s : Stp pm Hf H Hf' H') : ∀ {e : Ent}, EntAt K pm Hf H v e → EntAt K pm Hf' H' v e
  | .frz d, h => At.mono s.ff d v h
  | .ownL ds, h => by
    obtain ⟨p, xs, e, n, f, hp, ha⟩ := h
    refine ⟨p, xs, e, n, ?_, s.hh p _ n (fun _ z => by cases z) hp, AtL.mono s.ff _ _ ha⟩
    cases q : Hf' p with
    | none => rfl
    | some o =>
      rcases s.fr p o q with z | z | ⟨_, z⟩
      · rw [f] at z; cases z
      · rw [hp] at z; cases z
      · rw [hp] at z; cases z
  | .ownD kvs, h => by
    obtain ⟨p, xs, e, n, f, hp, hk, ha⟩ := h
    refine ⟨p, xs, e, n, ?_, s.hh p _ n (fun _ z => by cases z) hp, hk, AtL.mono s.ff _ _ ha⟩
    cases q : Hf' p with
    | none => rfl
    | some o =>
      rcases s.fr p o q with z | z | ⟨_, z⟩
      · rw [f] at z; cases z
      · rw [hp] at z; cases z
      · rw [hp] at z; cases z
  | .scr ns, h => by
    obtain ⟨a, e, h⟩ := h
    exact ⟨a, e, SqL_mono s.ff h⟩
  | .lckD kvs, h => by
    obtain ⟨p, o, kws, e, h1, h2, h3⟩ := h
    exact ⟨p, o, kws, e, s.ff _ _ h1, h2, AtL.mono s.ff _ _ h3⟩
theorem Rel.step {K : PySem.W.Frag} {pm : Option Addr} {σ : St} {ρ : Env1} {g g' : G} {Hf H Hf' H' : Hp} (r : Rel K pm σ ρ g Hf H) (s : Stp pm Hf H Hf' H') (m : MAt K pm g' Hf' H') : Rel K pm σ ρ g' Hf' H' :=
  ⟨s.fh, m, r.len, fun i e h => by
    obtain ⟨v, h1, h2⟩ := r.ent i e h
    exact ⟨v, h1, h2.step s⟩, r.dis⟩

/-! ### results -/
inductive R (α : Type) where
  | ok (a : α) (g : G)
  | exc (c : Nat) (d : D) (g : G)
  | stuck
def R.bind {α β : Type} (r : R α) (k : α → G → R β) : R β :=
  match r with
  | .ok a g => k a g
  | .exc c d g => .exc c d g
  | .stuck => .stuck
/-- the wish about exceptions: of class c with the field d -/
def XAt (K : PySem.W.Frag) (cA : Nat → Addr) (cF : Nat → Str) (pm : Option Addr) (E : XK) (c : Nat) (d : D) (Hf' H' : Hp) : Prop :=
  ∀ dx v, H' dx = some (.xd [(cF c, v)]) → At K pm Hf' v d → E (.ref (cA c)) (some dx) H'
section
variable (K : PySem.W.Frag) (cA : Nat → Addr) (cF : Nat → Str)
def Post {α : Type} (pm : Option Addr) (Hf H : Hp) (r : R α) (E : XK) (Q : α → G → Hp → Hp → Prop) : Prop :=
  match r with
  | .ok a g' => ∀ Hf' H', Stp pm Hf H Hf' H' → MAt K pm g' Hf' H' → Q a g' Hf' H'
  | .exc c d g' => ∀ Hf' H', Stp pm Hf H Hf' H' → MAt K pm g' Hf' H' → XAt K cA cF pm E c d Hf' H'
  | .stuck => False
end
section
variable {K : PySem.W.Frag} {cA : Nat → Addr} {cF : Nat → Str} {α β : Type} {pm : Option Addr} {Hf H : Hp} {E : XK}
theorem Post.mono {r : R α} {Q Q' : α → G → Hp → Hp → Prop} (h : Post K cA cF pm Hf H r E Q) (k : ∀ a g' Hf' H', Stp pm Hf H Hf' H' → MAt K pm g' Hf' H' → Q a g' Hf' H' → Q' a g' Hf' H') : Post K cA cF pm Hf H r E Q' := by
  cases r with
  | ok a g' => exact fun Hf' H' s m => k a g' Hf' H' s m (h Hf' H' s m)
  | exc c d g' => exact h
  | stuck => exact h
theorem Post.bind {r : R α} {k : α → G → R β} {Q : β → G → Hp → Hp → Prop} (h : Post K cA cF pm Hf H (r.bind k) E Q) :
    Post K cA cF pm Hf H r E (fun a g' Hf' H' => Post K cA cF pm Hf' H' (k a g') E Q) := by
  cases r with
  | ok a g' =>
    have h' : Post K cA cF pm Hf H (k a g') E Q := h
    intro Hf' H' s m
    show Post K cA cF pm Hf' H' (k a g') E Q
    cases q : k a g' with
    | ok b g2 => rw [q] at h'; exact fun Hf2 H2 s2 m2 => h' Hf2 H2 (s.trans s2) m2
    | exc c d g2 => rw [q] at h'; exact fun Hf2 H2 s2 m2 => h' Hf2 H2 (s.trans s2) m2
    | stuck => rw [q] at h'; exact h'
  | exc c d g' => exact h
  | stuck => exact h
theorem Post.now {a : α} {g : G} {Q : α → G → Hp → Hp → Prop} (h : Post K cA cF pm Hf H (.ok a g) E Q) (e : Ex Hf H) (m : MAt K pm g Hf H) : Q a g Hf H := h Hf H (Stp.refl e) m
end
end Mini

set_option maxRecDepth 100000
set_option maxHeartbeats 2000000
namespace Mini
open PySem L2 Evl

/-! ### operations on data -/
inductive BO where | add | sub | mul | fdiv | mod | pow
inductive CO where | eq | ne | lt | le | gt | ge | is | isn | inn | nin
inductive BI where | len | int | tuple | list | all | any | gcd | abs | max2 | min2 | min1 | max1 | sum
inductive TY where | int | bool | str | tuple | list
  deriving DecidableEq

def okMul (i j : Int) : Bool := (decide (-(2 ^ 64) < i) && decide (i < 2 ^ 64)) || (decide (-(2 ^ 64) < j) && decide (j < 2 ^ 64)) || decide (i.natAbs.log2 + j.natAbs.log2 < 1000000)
def binD : BO → D → D → Option D
  | .add, .int i, .int j => some (.int (i + j))
  | .add, .str a, .str b => if a.length + b.length ≤ sizeLine then some (.str (a ++ b)) else none
  | .add, .tuple a, .tuple b => if a.length + b.length ≤ sizeLine then some (.tuple (a ++ b)) else none
  | .add, .list a, .list b => if a.length + b.length ≤ sizeLine then some (.list (a ++ b)) else none
  | .sub, .int i, .int j => some (.int (i - j))
  | .mul, .int i, .int j => if okMul i j = true then some (.int (i * j)) else none
  | .mul, .list a, .int k => if 0 ≤ k ∧ k ≤ 1000 ∧ a.length ≤ 1000 then some (.list (List.replicate k.toNat a).flatten) else none
  | .mul, .tuple a, .int k => if a ≠ [] ∧ 2 ≤ k ∧ k ≤ 1000 ∧ a.length ≤ 1000 then some (.tuple (List.replicate k.toNat a).flatten) else none
  | .fdiv, .int i, .int j => if 0 < j ∧ j.natAbs.log2 < 9000 then some (.int (i / j)) else none
  | .mod, .int i, .int j => if 0 < j then some (.int (i % j)) else if j = 0 then none else some (.int (i.fmod j))
  | .pow, .int i, .int j => if 0 ≤ j ∧ j ≤ 1000000 ∧ i.natAbs < 2 ^ 64 then some (.int (i ^ j.toNat)) else none
  | _, _, _ => none
def flatD : D → Bool
  | .none => true
  | .bool _ => true
  | .int _ => true
  | .str _ => true
  | _ => false
def inD (x : D) (ys : List D) : Bool := ys.any fun y => PyData.eqv y x
/-- the ints of a list of ints -/
def intsD : List D → Option (List Int)
  | [] => some []
  | .int i :: r => (intsD r).map (i :: ·)
  | _ :: _ => none
def boolsD : List D → Option (List Bool)
  | [] => some []
  | .bool i :: r => (boolsD r).map (i :: ·)
  | _ :: _ => none
def isNone : D → Bool
  | .none => true
  | _ => false
def ltD : D → D → Option Bool
  | .int i, .int j => some (decide (i < j))
  | .list a, .list b => (intsD a).bind fun is => (intsD b).map fun js => PySem.W.dataLt (.list (is.map .int)) (.list (js.map .int))
  | _, _ => none
def cmpD : CO → D → D → Option Bool
  | .eq, a, b => if SeqAt.shaped a = true ∧ SeqAt.shaped b = true then some (PyData.eqv a b) else none
  | .ne, a, b => if SeqAt.shaped a = true ∧ SeqAt.shaped b = true then some (!PyData.eqv a b) else none
  | .lt, a, b => ltD a b
  | .le, .int i, .int j => some (decide (i ≤ j))
  | .gt, .int i, .int j => some (decide (j < i))
  | .ge, .int i, .int j => some (decide (j ≤ i))
  | .le, .str i, .str j => some (!decide (j.cps.toList < i.cps.toList))
  | .is, a, .none => some (isNone a)
  | .isn, a, .none => some (!isNone a)
  | .inn, x, .tuple ys => if flatD x = true ∧ ys.all flatD = true then some (inD x ys) else none
  | .inn, x, .list ys => if flatD x = true ∧ ys.all flatD = true then some (inD x ys) else none
  | .nin, x, .tuple ys => if flatD x = true ∧ ys.all flatD = true then some (!inD x ys) else none
  | .nin, x, .list ys => if flatD x = true ∧ ys.all flatD = true then some (!inD x ys) else none
  | _, _, _ => none
def isiD : TY → D → Bool
  | .int, .int _ => true
  | .int, .bool _ => true
  | .bool, .bool _ => true
  | .str, .str _ => true
  | .tuple, .tuple _ => true
  | .list, .list _ => true
  | _, _ => false
def bltD : BI → List D → Option D
  | .len, [.tuple a] => some (.int a.length)
  | .len, [.list a] => some (.int a.length)
  | .len, [.str a] => if a.length ≤ sizeLine then some (.int a.length) else none
  | .int, [.int i] => some (.int i)
  | .tuple, [.list a] => some (.tuple a)
  | .tuple, [.tuple a] => some (.tuple a)
  | .list, [.list a] => some (.list a)
  | .list, [.tuple a] => some (.list a)
  | .all, [.list a] => (boolsD a).map fun bs => .bool (bs.all id)
  | .any, [.list a] => (boolsD a).map fun bs => .bool (bs.any id)
  | .gcd, [.int a, .int b] => some (.int ((Nat.gcd a.natAbs b.natAbs : Nat) : Int))
  | .abs, [.int i] => some (.int (if i < 0 then -i else i))
  | .max2, [.int i, .int j] => some (.int (if j > i then j else i))
  | .min2, [.int i, .int j] => some (.int (if j < i then j else i))
  | .min1, [.list a] => (intsD a).bind fun
    | [] => none
    | i :: is => some (.int (is.foldl min i))
  | .max1, [.list a] => (intsD a).bind fun
    | [] => none
    | i :: is => some (.int (is.foldl max i))
  | .sum, [.list a] => (intsD a).map fun is => .int is.sum
  | _, _ => none
def cutD (xs : List D) (lo hi : Option Int) : List D := (xs.drop (HT.sIx xs.length 0 lo)).take (HT.sIx xs.length xs.length hi - HT.sIx xs.length 0 lo)
def ixD : D → D → Option D
  | .tuple a, .int i => atI a i
  | .list a, .int i => atI a i
  | .str w, .int i => if w.length ≤ 100000 then (atI w.cps.toList i).map fun c => .str ⟨#[c]⟩ else none
  | _, _ => none
def slD : D → Option Int → Option Int → Option D
  | .tuple a, lo, hi => some (.tuple (cutD a lo hi))
  | .list a, lo, hi => some (.list (cutD a lo hi))
  | _, _, _ => none
def scalD : D → Bool
  | .none => true
  | .bool _ => true
  | .int _ => true
  | .str _ => true
  | _ => false

/-- what stands at a key -/
def lookD {κ : Type} [DecidableEq κ] (kvs : List (κ × D)) (k : κ) : Option D := (kvs.find? fun kv => decide (kv.1 = k)).map (·.2)
/-- in its place, or at the end -/
def putD {κ : Type} [DecidableEq κ] (kvs : List (κ × D)) (k : κ) (v : D) : List (κ × D) :=
  if (kvs.any fun kv => decide (kv.1 = k)) = true then kvs.map (fun kv => if kv.1 = k then (kv.1, v) else kv) else kvs ++ [(k, v)]

/-! ### the small language -/
inductive MT where
  | nm (i : Nat)
  | tp (is : List Nat)
mutual
inductive ME where
  | cst (d : D)
  | var (i : Nat)
  | tup (es : MA)
  | lst (es : MA)
  | bin (o : BO) (a b : ME)
  | neg (a : ME)
  | cmp (o : CO) (a b : ME)
  | chain (o o' : CO) (a b c : ME)
  | and (a b : ME)
  | or (a b : ME)
  | not (a : ME)
  | ifx (c a b : ME)
  | ix (a b : ME)
  | sl (a : ME) (lo hi : MO)
  | call (f : Nat) (es : MA)
  | blt (b : BI) (es : MA)
  | isi (t : TY) (a : ME)
  | mget (a : ME) (k : Str)
  | dget (i : Nat) (k x : ME)
  | dix (i : Nat) (k : ME)
  | lc (own : List Nat) (t : MT) (it : MI) (test elt : ME)
  | lc2 (own own1 : List Nat) (t : MT) (it : MI) (test : ME) (t1 : MT) (it1 : MI) (test1 elt : ME)
  | pk (ms : List Nat) (e : ME)
  | sortL (e : ME) (f : Nat)
  | gix (tab : List (Str × Int)) (e : ME)
  | lzip (a b : ME)
  | dsort (i : Nat)
  | scr (i : Nat)
  | lockd (i : Nat) (e : ME)
inductive MA where
  | nil
  | cons (e : ME) (r : MA)
inductive MO where
  | no
  | so (e : ME)
inductive MI where
  | seqL (e : ME)
  | seqT (e : ME)
  | rng1 (e : ME)
  | rng2 (a b : ME)
  | zipT (a b : ME)
  | dkeys (i : Nat)
end

def setAll : List Nat → List D → Env1 → Option Env1
  | [], [], ρ => some ρ
  | i :: is, d :: ds, ρ => setAll is ds (ρ.set i (some (.frz d)))
  | _, _, _ => none
def setT : MT → D → Env1 → Option Env1
  | .nm i, d, ρ => some (ρ.set i (some (.frz d)))
  | .tp is, .tuple ds, ρ => setAll is ds ρ
  | .tp _, _, _ => none
def wipe1 : List Nat → Env1 → Env1
  | [], ρ => ρ
  | v :: vs, ρ => (wipe1 vs ρ).set v none
def keyP : Key → D
  | .inl i => .int i
  | .inr s => .str s
def keyD (k : List Key) : D := .tuple (k.map keyP)
def keyOf : List D → Option (List Key)
  | [] => some []
  | .int i :: r => (keyOf r).map (Sum.inl i :: ·)
  | .str s :: r => (keyOf r).map (Sum.inr s :: ·)
  | _ :: _ => none
def asKey : D → Option (List Key)
  | .tuple ds => keyOf ds
  | _ => none
/-- what is owned, lent for the while of one expression; m out of sight -/
def lend (ms : List Nat) (ρ : Env1) : Env1 := ρ.mapIdx fun i e =>
  match e with
  | some (.ownL ds) => if i ∈ ms ∧ nodL ds = true then some (.frz (.list ds)) else none
  | some (.frz d) => if nod d then some (.frz d) else none
  | _ => none

def loopC (f : D → G → R (Option D)) : List D → G → R (List D)
  | [], g => .ok [] g
  | x :: xs, g => (f x g).bind fun o g1 => (loopC f xs g1).bind fun ds g2 => .ok (match o with | some d => d :: ds | none => ds) g2
def loopC2 (f : D → G → R (List D)) : List D → G → R (List D)
  | [], g => .ok [] g
  | x :: xs, g => (f x g).bind fun o g1 => (loopC2 f xs g1).bind fun ds g2 => .ok (o ++ ds) g2
def R.noX {α : Type} : R α → R α
  | .exc _ _ _ => .stuck
  | r => r
def R.of {α : Type} (o : Option α) (g : G) : R α := match o with | some a => .ok a g | none => .stuck
def asB : D → G → R Bool
  | .bool b, g => .ok b g
  | _, _ => .stuck
def asI : D → G → R Int
  | .int b, g => .ok b g
  | _, _ => .stuck
def rngD (lo : Int) (n : Nat) : List D := (List.range n).map fun (k : Nat) => .int (lo + (k : Int))
def zipD : List D → List D → List D
  | a :: as, b :: bs => .tuple [a, b] :: zipD as bs
  | _, _ => []

/-- the keys of xs: f's answers to their first parts, lists of ints -/
def keysC (call : Nat → List D → G → R D) (f : Nat) : List D → G → R (List (List Int))
  | [], g => .ok [] g
  | .tuple (k :: _) :: r, g => (call f [k] g).bind fun d g1 => match d with
    | .list kd => (R.of (intsD kd) g1).bind fun ks g2 => (keysC call f r g2).bind fun kss g3 => .ok (ks :: kss) g3
    | _ => .stuck
  | _ :: _, _ => .stuck
def keyData (ks : List Int) : D := .list (ks.map .int)
def sortByK (ks : List (List Int)) (xs : List D) : List D := ((ks.zip xs).mergeSort (PySem.W.dataLe false fun p => keyData p.1)).map Prod.snd
def intPair : List Key → Option (Int × Int)
  | [.inl i, .inl j] => some (i, j)
  | _ => none
def intPairs : List (List Key × D) → Option (List (Int × Int))
  | [] => some []
  | kv :: r => match intPair kv.1, intPairs r with
    | some p, some ps => some (p :: ps)
    | _, _ => none
def lePair (p q : Int × Int) : Bool := decide (p.1 < q.1) || (decide (p.1 = q.1) && decide (p.2 ≤ q.2))
section
variable (call : Nat → List D → G → R D)
mutual
def evE : ME → Env1 → G → R D
  | .cst d, _, g => .ok d g
  | .var i, ρ, g => match ρ[i]? with
    | some (some (.frz d)) => .ok d g
    | _ => .stuck
  | .tup es, ρ, g => (evA es ρ g).bind fun ds g1 => if ds.length ≤ sizeLine then .ok (.tuple ds) g1 else .stuck
  | .lst es, ρ, g => (evA es ρ g).bind fun ds g1 => if ds.length ≤ sizeLine then .ok (.list ds) g1 else .stuck
  | .bin o a b, ρ, g => (evE a ρ g).bind fun x g1 => (evE b ρ g1).bind fun y g2 => R.of (binD o x y) g2
  | .neg a, ρ, g => (evE a ρ g).bind fun x g1 => (asI x g1).bind fun i g2 => .ok (.int (-i)) g2
  | .cmp o a b, ρ, g => (evE a ρ g).bind fun x g1 => (evE b ρ g1).bind fun y g2 => (R.of (cmpD o x y) g2).bind fun c g3 => .ok (.bool c) g3
  | .chain o o' a b c, ρ, g => (evE a ρ g).bind fun x g1 => (evE b ρ g1).bind fun y g2 => (R.of (cmpD o x y) g2).bind fun k g3 =>
      if k = true then (evE c ρ g3).bind fun z g4 => (R.of (cmpD o' y z) g4).bind fun k2 g5 => .ok (.bool k2) g5 else .ok (.bool false) g3
  | .and a b, ρ, g => (evE a ρ g).bind fun x g1 => (asB x g1).bind fun k g2 => if k = true then (evE b ρ g2).bind fun y g3 => (asB y g3).bind fun k2 g4 => .ok (.bool k2) g4 else .ok (.bool false) g2
  | .or a b, ρ, g => (evE a ρ g).bind fun x g1 => (asB x g1).bind fun k g2 => if k = true then .ok (.bool true) g2 else (evE b ρ g2).bind fun y g3 => (asB y g3).bind fun k2 g4 => .ok (.bool k2) g4
  | .not a, ρ, g => (evE a ρ g).bind fun x g1 => (asB x g1).bind fun k g2 => .ok (.bool (!k)) g2
  | .ifx c a b, ρ, g => (evE c ρ g).bind fun x g1 => (asB x g1).bind fun k g2 => if k = true then evE a ρ g2 else evE b ρ g2
  | .ix a b, ρ, g => (evE a ρ g).bind fun x g1 => (evE b ρ g1).bind fun y g2 => R.of (ixD x y) g2
  | .sl a lo hi, ρ, g => (evE a ρ g).bind fun x g1 => (evO lo ρ g1).bind fun l g2 => (evO hi ρ g2).bind fun h g3 => R.of (slD x l h) g3
  | .call f es, ρ, g => (evA es ρ g).bind fun ds g1 => call f ds g1
  | .blt b es, ρ, g => (evA es ρ g).bind fun ds g1 => R.of (bltD b ds) g1
  | .isi t a, ρ, g => (evE a ρ g).bind fun x g1 => if nod x = true then .ok (.bool (isiD t x)) g1 else .stuck
  | .mget a k, ρ, g => (evE a ρ g).bind fun x g1 => match x with
    | .dict [] => R.of (lookD g1 k) g1
    | _ => .stuck
  | .dget i k x, ρ, g => match ρ[i]? with
    | some (some (.ownD kvs)) => (evE k ρ g).bind fun y g1 => (evE x ρ g1).bind fun z g2 => (R.of (asKey y) g2).bind fun q g3 => .ok ((lookD kvs q).getD z) g3
    | _ => .stuck
  | .dix i k, ρ, g => match ρ[i]? with
    | some (some (.ownD kvs)) => (evE k ρ g).bind fun y g1 => (R.of (asKey y) g1).bind fun q g2 => R.of (lookD kvs q) g2
    | some (some (.lckD kvs)) => (evE k ρ g).bind fun y g1 => (R.of (asKey y) g1).bind fun q g2 => R.of (lookD kvs q) g2
    | _ => .stuck
  | .lockd i e, ρ, g => match ρ[i]? with
    | some (some (.ownD kvs)) => R.noX (evE e (ρ.set i (some (.lckD kvs))) g)
    | _ => .stuck
  | .lc own t it test elt, ρ, g => (evI it ρ g).bind fun xs g1 => if xs.length < 1000000 then
      (R.noX (loopC (fun x g => (R.of (setT t x (wipe1 own ρ)) g).bind fun ρ1 g1 => (evE test ρ1 g1).bind fun b g2 => (asB b g2).bind fun k g3 =>
        if k = true then (evE elt ρ1 g3).bind fun d g4 => .ok (some d) g4 else .ok none g3) xs g1)).bind fun ds g2 => .ok (.list ds) g2 else .stuck
  | .lc2 own own1 t it test t1 it1 test1 elt, ρ, g => (evI it ρ g).bind fun xs g1 =>
      (R.noX (loopC2 (fun x g => (R.of (setT t x (wipe1 own ρ)) g).bind fun ρ1 g1 => (evE test ρ1 g1).bind fun b g2 => (asB b g2).bind fun k g3 =>
        if k = true then (evI it1 ρ1 g3).bind fun ys g4 => loopC (fun y g => (R.of (setT t1 y (wipe1 own1 ρ1)) g).bind fun ρ2 g1 => (evE test1 ρ2 g1).bind fun b g2 => (asB b g2).bind fun k g3 =>
          if k = true then (evE elt ρ2 g3).bind fun d g4 => .ok (some d) g4 else .ok none g3) ys g4 else .ok [] g3) xs g1)).bind fun ds g2 => if ds.length < 1000000 then .ok (.list ds) g2 else .stuck
  | .pk ms e, ρ, g => match evE e (lend ms ρ) [] with
    | .ok d _ => if scalD d = true then .ok d g else .stuck
    | _ => .stuck
  | .sortL e f, ρ, g => (evE e ρ g).bind fun x g1 => match x with
    | .list xs => (R.noX (keysC call f xs g1)).bind fun ks g2 => if xs.length ≤ 1000 then .ok (.list (sortByK ks xs)) g2 else .stuck
    | _ => .stuck
  | .gix tab e, ρ, g => (evE e ρ g).bind fun x g1 => match x with
    | .str s => R.of ((tab.find? fun kv => decide (kv.1 = s)).map fun kv => .int kv.2) g1
    | _ => .stuck
  | .lzip a b, ρ, g => (evE a ρ g).bind fun x g1 => (evE b ρ g1).bind fun y g2 => match x, y with
    | .tuple xs, .list ys => if xs.length = ys.length ∧ xs.length < 1000000 then .ok (.list (zipD xs ys)) g2 else .stuck
    | _, _ => .stuck
  | .dsort i, ρ, g => match ρ[i]? with
    | some (some (.ownD kvs)) => if kvs.length ≤ 1000 then R.of ((intPairs kvs).map fun ks => .list ((ks.mergeSort lePair).map fun p => .tuple [.int p.1, .int p.2])) g else .stuck
    | _ => .stuck
  | .scr i, ρ, g => match ρ[i]? with
    | some (some (.scr ns)) => .ok (.list (ns.map .int)) g
    | _ => .stuck
def evA : MA → Env1 → G → R (List D)
  | .nil, _, g => .ok [] g
  | .cons e r, ρ, g => (evE e ρ g).bind fun d g1 => (evA r ρ g1).bind fun ds g2 => .ok (d :: ds) g2
def evO : MO → Env1 → G → R (Option Int)
  | .no, _, g => .ok none g
  | .so e, ρ, g => (evE e ρ g).bind fun x g1 => (asI x g1).bind fun i g2 => .ok (some i) g2
def evI : MI → Env1 → G → R (List D)
  | .seqL e, ρ, g => (evE e ρ g).bind fun x g1 => match x with
    | .list xs => .ok xs g1
    | _ => .stuck
  | .seqT e, ρ, g => (evE e ρ g).bind fun x g1 => match x with
    | .tuple xs => .ok xs g1
    | _ => .stuck
  | .rng1 e, ρ, g => (evE e ρ g).bind fun x g1 => (asI x g1).bind fun j g2 => if -(2 ^ 62) ≤ j ∧ j < 2 ^ 62 then .ok (rngD 0 j.toNat) g2 else .stuck
  | .rng2 a b, ρ, g => (evE a ρ g).bind fun x g1 => (evE b ρ g1).bind fun y g2 => (asI x g2).bind fun i g3 => (asI y g3).bind fun j g4 =>
      if -(2 ^ 62) ≤ i ∧ i < 2 ^ 62 ∧ -(2 ^ 62) ≤ j ∧ j < 2 ^ 62 then .ok (rngD i (j - i).toNat) g4 else .stuck
  | .zipT a b, ρ, g => (evE a ρ g).bind fun x g1 => (evE b ρ g1).bind fun y g2 => match x, y with
    | .tuple xs, .tuple ys => .ok (zipD xs ys) g2
    | _, _ => .stuck
  | .dkeys i, ρ, g => match ρ[i]? with
    | some (some (.lckD kvs)) => .ok (kvs.map fun x => keyD x.1) g
    | _ => .stuck
end

/-! ### statements -/
inductive Fl where
  | nx
  | rt (d : D)
  | bk
  | ct
inductive MS where
  | skip
  | seq (a b : MS)
  | expr (e : ME)
  | asg (t : MT) (e : ME)
  | newL (i : Nat)
  | newLl (i : Nat) (e : ME)
  | newD (i : Nat)
  | newDT (i j : Nat) (e : ME)
  | app (i : Nat) (e : ME)
  | pop (i : Nat)
  | dset (i : Nat) (k e : ME)
  | mset (a : ME) (k : Str) (e : ME)
  | frz (i : Nat)
  | ret (e : ME)
  | ife (c : ME) (a b : MS)
  | whl (c : ME) (b : MS)
  | forr (t : MT) (it : MI) (b : MS)
  | raise (c : Nat) (e : ME)
  | brk
  | cont
  | tryq (f : Nat) (vs : List Nat) (c i o : Nat)
  | never
def varsA : List Nat → MA
  | [] => .nil
  | i :: r => .cons (.var i) (varsA r)
def whileR (c : Env1 → G → R Bool) (b : Env1 → G → R (Fl × Env1)) : Nat → Env1 → G → R (Fl × Env1)
  | 0, _, _ => .stuck
  | n + 1, ρ, g => (c ρ g).bind fun k g1 => if k = true then (b ρ g1).bind fun x g2 => match x.1 with
      | .nx => whileR c b n x.2 g2
      | .ct => whileR c b n x.2 g2
      | .bk => .ok (.nx, x.2) g2
      | .rt d => .ok (.rt d, x.2) g2
    else .ok (.nx, ρ) g1
def forR (b : D → Env1 → G → R (Fl × Env1)) : List D → Env1 → G → R (Fl × Env1)
  | [], ρ, g => .ok (.nx, ρ) g
  | x :: xs, ρ, g => (b x ρ g).bind fun y g2 => match y.1 with
      | .nx => forR b xs y.2 g2
      | .ct => forR b xs y.2 g2
      | .bk => .ok (.nx, y.2) g2
      | .rt d => .ok (.rt d, y.2) g2
variable (W : Nat)
open Classical in
noncomputable def exS : MS → Env1 → G → R (Fl × Env1)
  | .skip, ρ, g => .ok (.nx, ρ) g
  | .seq a b, ρ, g => (exS a ρ g).bind fun x g1 => match x.1 with
    | .nx => exS b x.2 g1
    | f => .ok (f, x.2) g1
  | .expr e, ρ, g => (evE call e ρ g).bind fun _ g1 => .ok (.nx, ρ) g1
  | .asg t e, ρ, g => (evE call e ρ g).bind fun d g1 => (R.of (setT t d ρ) g1).bind fun ρ1 g2 => .ok (.nx, ρ1) g2
  | .newL i, ρ, g => .ok (.nx, ρ.set i (some (.ownL []))) g
  | .newLl i e, ρ, g => (evE call e ρ g).bind fun d g1 => match d with
    | .list xs => .ok (.nx, ρ.set i (some (.ownL xs))) g1
    | .tuple xs => .ok (.nx, ρ.set i (some (.ownL xs))) g1
    | _ => .stuck
  | .newD i, ρ, g => .ok (.nx, ρ.set i (some (.ownD []))) g
  | .newDT i j e, ρ, g => (evE call e ρ g).bind fun d g1 => if i ≠ j then .ok (.nx, (ρ.set i (some (.ownD []))).set j (some (.frz d))) g1 else .stuck
  | .app i e, ρ, g => match ρ[i]? with
    | some (some (.ownL xs)) => (evE call e ρ g).bind fun d g1 => if xs.length < 1000000 then .ok (.nx, ρ.set i (some (.ownL (xs ++ [d])))) g1 else .stuck
    | _ => .stuck
  | .pop i, ρ, g => match ρ[i]? with
    | some (some (.ownL (x :: xs))) => .ok (.nx, ρ.set i (some (.ownL (x :: xs).dropLast))) g
    | _ => .stuck
  | .dset i k e, ρ, g => match ρ[i]? with
    | some (some (.ownD kvs)) => (evE call e ρ g).bind fun d g1 => (evE call k ρ g1).bind fun y g2 => (R.of (asKey y) g2).bind fun q g3 =>
      if kvs.length < 1000 then .ok (.nx, ρ.set i (some (.ownD (putD kvs q d)))) g3 else .stuck
    | _ => .stuck
  | .mset a k e, ρ, g => (evE call e ρ g).bind fun d g1 => (evE call a ρ g1).bind fun x g2 => match x with
    | .dict [] => if (lookD g2 k).isSome = true ∧ g2.length < 1000 then .ok (.nx, ρ) (putD g2 k d) else .stuck
    | _ => .stuck
  | .frz i, ρ, g => match ρ[i]? with
    | some (some (.ownL xs)) => .ok (.nx, ρ.set i (some (.frz (.list xs)))) g
    | _ => .stuck
  | .ret e, ρ, g => (evE call e ρ g).bind fun d g1 => .ok (.rt d, ρ) g1
  | .ife c a b, ρ, g => (evE call c ρ g).bind fun x g1 => (asB x g1).bind fun k g2 => if k = true then exS a ρ g2 else exS b ρ g2
  | .whl c b, ρ, g => whileR (fun ρ g => (evE call c ρ g).bind fun x g1 => asB x g1) (fun ρ g => exS b ρ g) W ρ g
  | .forr t it b, ρ, g => (evI call it ρ g).bind fun xs g1 => forR (fun x ρ g => (R.of (setT t x ρ) g).bind fun ρ1 g1 => exS b ρ1 g1) xs ρ g1
  | .raise c e, ρ, g => (evE call e ρ g).bind fun d g1 => .exc c d g1
  | .brk, ρ, g => .ok (.bk, ρ) g
  | .cont, ρ, g => .ok (.ct, ρ) g
  | .tryq f vs c i o, ρ, g => match evA call (varsA vs) ρ g with
    | .ok ds g0 => (match call f ds g0 with
      | .ok _ g1 => .ok (.rt (.bool false), ρ) g1
      | .exc c' d g1 => (match ρ[o]? with
        | some (some (.frz d')) => if c' = c ∧ d' = d ∧ o ≠ i ∧ i < ρ.length ∧ nod d = true ∧ d.showable = true ∧ d.depth ≤ 20 ∧ d.shown.length ≤ sizeLine then .ok (.nx, ρ.set i none) g1 else .stuck
        | _ => .stuck)
      | .stuck => .stuck)
    | _ => .stuck
  | .never, _, _ => .stuck
end

/-! ### the whole program -/
structure Fn where
  np : Nat
  nN : Nat
  body : MS
noncomputable def runB (call : Nat → List D → G → R D) (W : Nat) (F : Fn) (ds : List D) (g : G) : R D :=
  if ds.length = F.np then (exS call W F.body (ds.map (fun d => some (.frz d)) ++ List.replicate (F.nN - F.np) none) g).bind fun x g1 => match x.1 with
    | .rt d => .ok d g1
    | .nx => .ok .none g1
    | _ => .stuck
  else .stuck
noncomputable def callK (tab : List Fn) (W : Nat) : Nat → Nat → List D → G → R D
  | 0, _, _, _ => .stuck
  | k + 1, f, ds, g => match tab[f]? with
    | some F => runB (callK tab W k) W F ds g
    | none => .stuck
end Mini

set_option maxRecDepth 100000
set_option maxHeartbeats 4000000
namespace Mini
open PySem L2 Evl

/-- where the classes of errors stand, their fields, what the defs give, the wish about exceptions -/
structure Sg where
  cA : Nat → Addr
  cF : Nat → Str
  call : Nat → List D → G → R D
  W : Nat
  E : XK
section
variable (K : PySem.W.Frag) (S : Sg)
abbrev PostS {α : Type} (pm : Option Addr) (Hf H : Hp) (r : R α) (Q : α → G → Hp → Hp → Prop) : Prop := Post K S.cA S.cF pm Hf H r S.E Q
def rdE (e : ME) : TE := fun σ H Q => ∃ pm ρ g Hf, Rel K pm σ ρ g Hf H ∧ PostS K S pm Hf H (evE S.call e ρ g) fun d _ Hf' H' => ∀ v, At K pm Hf' v d → Q v H'
def rdA (e : MA) : TA := fun σ H Q => ∃ pm ρ g Hf, Rel K pm σ ρ g Hf H ∧ PostS K S pm Hf H (evA S.call e ρ g) fun ds _ Hf' H' => ∀ vs, AtL K pm Hf' vs ds → Q vs H'
def rdT (e : ME) : TT := fun σ H Q => ∃ pm ρ g Hf, Rel K pm σ ρ g Hf H ∧ PostS K S pm Hf H ((evE S.call e ρ g).bind asB) fun b _ _ H' => Q b H'
def rdO (e : MO) : TO := fun σ H Q => ∃ pm ρ g Hf, Rel K pm σ ρ g Hf H ∧ PostS K S pm Hf H (evO S.call e ρ g) fun o _ _ H' => Q o H'
/-- two values, one, some, by data -/
def r2 (f : D → D → Option D) : R2 := fun x y H Q => ∃ pm Hf g d e r, Ex Hf H ∧ MAt K pm g Hf H ∧ At K pm Hf x d ∧ At K pm Hf y e ∧ f d e = some r ∧ ∀ Hf' H', Stp pm Hf H Hf' H' → MAt K pm g Hf' H' → ∀ v, At K pm Hf' v r → Q v H'
def r1 (f : D → Option D) : V → Hp → VK → Prop := fun x H Q => ∃ pm Hf g d r, Ex Hf H ∧ MAt K pm g Hf H ∧ At K pm Hf x d ∧ f d = some r ∧ ∀ Hf' H', Stp pm Hf H Hf' H' → MAt K pm g Hf' H' → ∀ v, At K pm Hf' v r → Q v H'
def rN (f : List D → Option D) : List V → Hp → VK → Prop := fun xs H Q => ∃ pm Hf g ds r, Ex Hf H ∧ MAt K pm g Hf H ∧ AtL K pm Hf xs ds ∧ f ds = some r ∧ ∀ Hf' H', Stp pm Hf H Hf' H' → MAt K pm g Hf' H' → ∀ v, At K pm Hf' v r → Q v H'
def spD (f : Nat) : Sp := fun vs H Q E => ∃ pm Hf g ds, Ex Hf H ∧ MAt K pm g Hf H ∧ AtL K pm Hf vs ds ∧ Post K S.cA S.cF pm Hf H (S.call f ds g) E fun d _ Hf' H' => ∀ v, At K pm Hf' v d → Q v H'
end

theorem R.bind_assoc {α β γ : Type} (r : R α) (k : α → G → R β) (l : β → G → R γ) : (r.bind k).bind l = r.bind fun a g => (k a g).bind l := by cases r <;> rfl
theorem R.of_some {α : Type} (a : α) (g : G) : R.of (some a) g = R.ok a g := rfl
theorem Post.shift {K : PySem.W.Frag} {cA : Nat → Addr} {cF : Nat → Str} {α : Type} {pm : Option Addr} {Hf H Hf3 H3 : Hp} {E : XK} {r : R α} {Q : α → G → Hp → Hp → Prop} (h : Post K cA cF pm Hf H r E Q) (s3 : Stp pm Hf H Hf3 H3) : Post K cA cF pm Hf3 H3 r E Q := by
  cases r with
  | ok d g' => exact fun Hf' H' s m => h Hf' H' (s3.trans s) m
  | exc c' d g' => exact fun Hf' H' s m => h Hf' H' (s3.trans s) m
  | stuck => exact h
theorem R.bind_ok {α β : Type} (a : α) (g : G) (k : α → G → R β) : (R.ok a g).bind k = k a g := rfl

section
variable {X : Cx} {S : Sg} {pos : Pos}
theorem PE.weak {e : Expr} {t t' : TE} (h : PE X e t) (w : ∀ σ H Q, t' σ H Q → t σ H Q) : PE X e t' := ⟨fun pins s σ H Q I q => h.run pins s σ H Q I (w σ H Q q)⟩
theorem PT.weak {e : Expr} {t t' : TT} (h : PT X e t) (w : ∀ σ H Q, t' σ H Q → t σ H Q) : PT X e t' := ⟨fun pins s σ H Q I q => h.run pins s σ H Q I (w σ H Q q)⟩
theorem PW.weak {e : Expr} {t t' : TT} (h : PW X e t) (w : ∀ σ H Q, t' σ H Q → t σ H Q) : PW X e t' := ⟨fun wh pins s σ H Q I q => h.run wh pins s σ H Q I (w σ H Q q)⟩
theorem PA.weak {e : List Expr} {t t' : TA} (h : PA X e t) (w : ∀ σ H Q, t' σ H Q → t σ H Q) : PA X e t' := ⟨fun pos pins s σ H Q I q => h.run pos pins s σ H Q I (w σ H Q q)⟩
theorem PS.weak {e : Stmt} {t t' : TS} (h : PS X e t) (w : ∀ D σ H, t' D σ H → t D σ H) : PS X e t' := ⟨fun pins s σ H Q I q => h.run pins s σ H Q I (w Q σ H q)⟩
theorem PSs.weak {e : List Stmt} {t t' : TS} (h : PSs X e t) (w : ∀ D σ H, t' D σ H → t D σ H) : PSs X e t' := ⟨fun pins s σ H Q I q => h.run pins s σ H Q I (w Q σ H q)⟩

/-! ### constants and names -/
theorem rd_val {K : PySem.W.Frag} {e : ME} {σ : St} {H : Hp} {Q : VK} {d : D} {v : V} (h : rdE K S e σ H Q) (he : ∀ ρ g, evE S.call e ρ g = .ok d g) (hv : ∀ pm Hf, At K pm Hf v d) : Q v H := by
  obtain ⟨pm, ρ, g, Hf, rel, h⟩ := h
  rw [he] at h
  exact Post.now h rel.ex rel.mat v (hv _ _)
theorem m_int {i : Int} {j : Nat} : PE X (.Constant (.int i) j pos) (rdE X.K S (.cst (.int i))) := PE.weak pe_int fun σ H Q h => rd_val (v := .int i) h (fun _ _ => rfl) fun _ _ => rfl
theorem m_bl {i : Bool} {j : Nat} : PE X (.Constant (.bool i) j pos) (rdE X.K S (.cst (.bool i))) := PE.weak pe_bl fun σ H Q h => rd_val (v := .bl i) h (fun _ _ => rfl) fun _ _ => rfl
theorem m_non {j : Nat} : PE X (.Constant .none j pos) (rdE X.K S (.cst .none)) := PE.weak pe_non fun σ H Q h => rd_val (v := .non) h (fun _ _ => rfl) fun _ _ => rfl
theorem m_str {i : Str} {j : Nat} : PE X (.Constant (.str i) j pos) (rdE X.K S (.cst (.str i))) := PE.weak pe_str fun σ H Q h => rd_val (v := .str i) h (fun _ _ => rfl) fun _ _ => rfl
theorem m_var (i : Nat) {x : Str} (h : PE X (.Name x pos) (tVar i)) : PE X (.Name x pos) (rdE X.K S (.var i)) := PE.weak h fun σ H Q h => by
  obtain ⟨pm, ρ, g, Hf, rel, h⟩ := h
  show ∃ v, σ[i]? = some (some v) ∧ Q v H
  simp only [evE] at h
  split at h
  · rename_i d e
    obtain ⟨v, h1, h2⟩ := rel.ent i _ e
    exact ⟨v, h1, Post.now h rel.ex rel.mat v h2⟩
  · exact h.elim
/-- a module's constant int -/
theorem m_glob {x : Str} {i : Int} {t : Tok} (hg : Gl X x) (hm : X.mg x = some (.int i t)) (hd : (x == ("__debug__" : Str)) = false := by decide) : PE X (.Name x pos) (rdE X.K S (.cst (.int i))) :=
  PE.weak (pe_glob (v := .int i) hg hm ⟨_, rfl⟩ hd) fun σ H Q h => rd_val (v := .int i) h (fun _ _ => rfl) fun _ _ => rfl
theorem m_globS {x : Str} {i : Str} {t : Tok} (hg : Gl X x) (hm : X.mg x = some (.str i t)) (hd : (x == ("__debug__" : Str)) = false := by decide) : PE X (.Name x pos) (rdE X.K S (.cst (.str i))) :=
  PE.weak (pe_glob (v := .str i) hg hm ⟨_, rfl⟩ hd) fun σ H Q h => rd_val (v := .str i) h (fun _ _ => rfl) fun _ _ => rfl

/-! ### argument lists, displays -/
theorem m_nil : PA X [] (rdA X.K S .nil) := PA.weak pa_nil fun σ H Q h => by
  obtain ⟨pm, ρ, g, Hf, rel, h⟩ := h
  exact Post.now h rel.ex rel.mat [] trivial
theorem m_cons {e : Expr} {es : List Expr} {me : ME} {ms : MA} (ha : PE X e (rdE X.K S me)) (hr : PA X es (rdA X.K S ms)) (hs : starEach (e :: es) X.env = (false, eval e X.env) :: starEach es X.env := by rfl) : PA X (e :: es) (rdA X.K S (.cons me ms)) :=
  PA.weak (pa_cons ha hr hs) fun σ H Q h => by
    obtain ⟨pm, ρ, g, Hf, rel, h⟩ := h
    simp only [evA] at h
    refine ⟨pm, ρ, g, Hf, rel, (Post.bind h).mono fun d g1 Hf1 H1 s1 m1 h1 v a1 => ?_⟩
    refine ⟨pm, ρ, g1, Hf1, rel.step s1 m1, (Post.bind h1).mono fun ds g2 Hf2 H2 s2 m2 h2 vs a2 => ?_⟩
    exact Post.now h2 s2.fh m2 (v :: vs) ⟨At.mono s2.ff d v a1, a2⟩
theorem m_tup {es : List Expr} {k : Nat} {ms : MA} (h : PA X es (rdA X.K S ms)) : PE X (.Tuple es k pos) (rdE X.K S (.tup ms)) := PE.weak (pe_tup h) fun σ H Q h => by
  obtain ⟨pm, ρ, g, Hf, rel, h⟩ := h
  simp only [evE] at h
  refine ⟨pm, ρ, g, Hf, rel, (Post.bind h).mono fun ds g1 Hf1 H1 s1 m1 h1 vs a1 => ?_⟩
  split at h1
  · rename_i hl
    refine ⟨by rw [a1.length]; exact hl, fun p hp => ?_⟩
    exact h1 _ _ (Stp.new s1.fh hp) (m1.new hp s1.fh) (.ref p) ⟨p, vs, rfl, upd_same, AtL.mono (Ex.new (fresh_back s1.fh hp)) _ _ a1⟩
  · exact h1.elim
theorem m_lst {es : List Expr} {ms : MA} (h : PA X es (rdA X.K S ms)) : PE X (.List es pos) (rdE X.K S (.lst ms)) := PE.weak (pe_lst h) fun σ H Q h => by
  obtain ⟨pm, ρ, g, Hf, rel, h⟩ := h
  simp only [evE] at h
  refine ⟨pm, ρ, g, Hf, rel, (Post.bind h).mono fun ds g1 Hf1 H1 s1 m1 h1 vs a1 => ?_⟩
  split at h1
  · rename_i hl
    refine ⟨by rw [a1.length]; exact hl, fun p hp => ?_⟩
    exact h1 _ _ (Stp.new s1.fh hp) (m1.new hp s1.fh) (.ref p) ⟨p, vs, rfl, upd_same, AtL.mono (Ex.new (fresh_back s1.fh hp)) _ _ a1⟩
  · exact h1.elim

/-! ### operators -/
theorem rd_2 {K : PySem.W.Frag} {a b : ME} {f : D → D → Option D} {σ : St} {H : Hp} {Q : VK}
    (h : ∃ pm ρ g Hf, Rel K pm σ ρ g Hf H ∧ PostS K S pm Hf H ((evE S.call a ρ g).bind fun x g1 => (evE S.call b ρ g1).bind fun y g2 => R.of (f x y) g2) fun d _ Hf' H' => ∀ v, At K pm Hf' v d → Q v H') : tOp (r2 K f) (rdE K S a) (rdE K S b) σ H Q := by
  obtain ⟨pm, ρ, g, Hf, rel, h⟩ := h
  refine ⟨pm, ρ, g, Hf, rel, (Post.bind h).mono fun x g1 Hf1 H1 s1 m1 h1 v1 a1 => ?_⟩
  refine ⟨pm, ρ, g1, Hf1, rel.step s1 m1, (Post.bind h1).mono fun y g2 Hf2 H2 s2 m2 h2 v2 a2 => ?_⟩
  cases q : f x y with
  | none => rw [q] at h2; exact h2.elim
  | some r =>
    rw [q] at h2
    exact ⟨pm, Hf2, g2, x, y, r, s2.fh, m2, At.mono s2.ff x v1 a1, a2, q, fun Hf' H' s m v a => h2 Hf' H' s m v a⟩
theorem m_bin {op : Operator} {o : BO} {a b : Expr} {ma mb : ME} (ho : OpR X (binaryOp op) (r2 X.K (binD o))) (ha : PE X a (rdE X.K S ma)) (hb : PE X b (rdE X.K S mb)) : PE X (.BinOp a op b pos) (rdE X.K S (.bin o ma mb)) :=
  PE.weak (pe_op ho ha hb) fun σ H Q h => rd_2 h
def cmpV (o : CO) (x y : D) : Option D := (cmpD o x y).map .bool
theorem rd_cmp {K : PySem.W.Frag} {o : CO} {a b : ME} {σ : St} {H : Hp} {Q : VK} (h : rdE K S (.cmp o a b) σ H Q) : tOp (r2 K (cmpV o)) (rdE K S a) (rdE K S b) σ H Q := by
  obtain ⟨pm, ρ, g, Hf, rel, h⟩ := h
  refine rd_2 ⟨pm, ρ, g, Hf, rel, ?_⟩
  have e2 : evE S.call (.cmp o a b) ρ g = ((evE S.call a ρ g).bind fun x g1 => (evE S.call b ρ g1).bind fun y g2 => R.of (cmpV o x y) g2) := by
    simp only [evE]
    congr 1
    funext x g1
    congr 1
    funext y g2
    unfold cmpV
    cases cmpD o x y <;> rfl
  rw [e2] at h
  exact h
theorem m_cmp {op : CmpOp} {o : CO} {a b : Expr} {ma mb : ME} (ho : OpR X (compareOp op) (r2 X.K (cmpV o))) (ha : PE X a (rdE X.K S ma)) (hb : PE X b (rdE X.K S mb)) (hm : behindInMarks op b = false := by rfl) : PE X (.Compare a [op] [b] pos) (rdE X.K S (.cmp o ma mb)) :=
  PE.weak (pe_cmpR ho ha hb hm) fun σ H Q h => rd_cmp h
/-- a test by its value -/
theorem rdT_val {K : PySem.W.Frag} {e : ME} {σ : St} {H : Hp} {Q : Bool → Hp → Prop} (h : rdT K S e σ H Q) : rdE K S e σ H fun x H' => ∃ k, x = .bl k ∧ Q k H' := by
  obtain ⟨pm, ρ, g, Hf, rel, h⟩ := h
  refine ⟨pm, ρ, g, Hf, rel, (Post.bind h).mono fun d g1 Hf1 H1 s1 m1 h1 v a1 => ?_⟩
  cases d with
  | bool b => exact ⟨b, a1, Post.now h1 s1.fh m1⟩
  | _ => exact h1.elim
theorem t_cmp {op : CmpOp} {o : CO} {a b : Expr} {ma mb : ME} (ho : OpR X (compareOp op) (r2 X.K (cmpV o))) (ha : PE X a (rdE X.K S ma)) (hb : PE X b (rdE X.K S mb)) (hm : behindInMarks op b = false := by rfl) : PT X (.Compare a [op] [b] pos) (rdT X.K S (.cmp o ma mb)) :=
  PT.weak (pt_cmpR ho ha hb hm) fun σ H Q h => rd_cmp (rdT_val h)
theorem t_val {e : Expr} {me : ME} (h : PE X e (rdE X.K S me)) (he : ∀ whole, isTrue e X.env whole = (do let v ← whole; standAt e.pos; holding [v] (truthy v)) := by intro _; rfl) : PT X e (rdT X.K S me) :=
  PT.weak (pt_val h he) fun σ H Q h => rdT_val h
theorem rd_chain {K : PySem.W.Frag} {o o' : CO} {a b c : ME} {σ : St} {H : Hp} {Q : VK} (h : rdE K S (.chain o o' a b c) σ H Q) : tChain (r2 K (cmpV o)) (r2 K (cmpV o')) (rdE K S a) (rdE K S b) (rdE K S c) σ H Q := by
  obtain ⟨pm, ρ, g, Hf, rel, h⟩ := h
  simp only [evE] at h
  refine ⟨pm, ρ, g, Hf, rel, (Post.bind h).mono fun x g1 Hf1 H1 s1 m1 h1 v1 a1 => ?_⟩
  refine ⟨pm, ρ, g1, Hf1, rel.step s1 m1, (Post.bind h1).mono fun y g2 Hf2 H2 s2 m2 h2 v2 a2 => ?_⟩
  cases q : cmpD o x y with
  | none => rw [q] at h2; exact h2.elim
  | some k =>
    rw [q] at h2
    simp only [R.of_some, R.bind_ok] at h2
    refine ⟨pm, Hf2, g2, x, y, .bool k, s2.fh, m2, At.mono s2.ff x v1 a1, a2, by unfold cmpV; rw [q]; rfl, fun Hf3 H3 s3 m3 v3 a3 => ⟨k, a3, ?_⟩⟩
    have s13 := s2.trans s3
    cases k with
    | false =>
      simp only [Bool.false_eq_true, if_false] at h2 ⊢
      exact h2 Hf3 H3 s3 m3 _ rfl
    | true =>
      simp only [if_true] at h2 ⊢
      have h3 := Post.shift h2 s3
      refine ⟨pm, ρ, g2, Hf3, (rel.step (s1.trans s2) m2).step s3 m3, (Post.bind h3).mono fun z g4 Hf4 H4 s4 m4 h4 v4 a4 => ?_⟩
      cases q2 : cmpD o' y z with
      | none => rw [q2] at h4; exact h4.elim
      | some k2 =>
        rw [q2] at h4
        exact ⟨pm, Hf4, g4, y, z, .bool k2, s4.fh, m4, At.mono s4.ff y v2 (At.mono s3.ff y v2 a2), a4, by unfold cmpV; rw [q2]; rfl, fun Hf' H' s m v a => h4 Hf' H' s m v a⟩
end
end Mini

set_option maxRecDepth 100000
set_option maxHeartbeats 4000000
namespace Mini
open PySem L2 Evl

section
variable {X : Cx} {K : PySem.W.Frag}
theorem new_tup {pm : Option Addr} {Hf H : Hp} {g : G} {Q : VK} {xs : List V} {ds : List D} (e : Ex Hf H) (m : MAt K pm g Hf H) (a : AtL K pm Hf xs ds)
    (k : ∀ Hf' H', Stp pm Hf H Hf' H' → MAt K pm g Hf' H' → ∀ v, At K pm Hf' v (.tuple ds) → Q v H') : ∀ p, H p = none → Q (.ref p) (upd H p (.tup xs)) := fun p hp =>
  k _ _ (Stp.new e hp) (m.new hp e) (.ref p) ⟨p, xs, rfl, upd_same, AtL.mono (Ex.new (fresh_back e hp)) _ _ a⟩
theorem new_lst {pm : Option Addr} {Hf H : Hp} {g : G} {Q : VK} {xs : List V} {ds : List D} (e : Ex Hf H) (m : MAt K pm g Hf H) (a : AtL K pm Hf xs ds)
    (k : ∀ Hf' H', Stp pm Hf H Hf' H' → MAt K pm g Hf' H' → ∀ v, At K pm Hf' v (.list ds) → Q v H') : ∀ p, H p = none → Q (.ref p) (upd H p (.lst xs)) := fun p hp =>
  k _ _ (Stp.new e hp) (m.new hp e) (.ref p) ⟨p, xs, rfl, upd_same, AtL.mono (Ex.new (fresh_back e hp)) _ _ a⟩
theorem AtL.nilV {pm : Option Addr} {H : Hp} : ∀ {vs : List V}, AtL K pm H vs [] → vs = []
  | [], _ => rfl
  | _ :: _, h => h.elim
theorem AtL.nilD {pm : Option Addr} {H : Hp} : ∀ {ds : List D}, AtL K pm H [] ds → ds = []
  | [], _ => rfl
  | _ :: _, h => h.elim
theorem AtL.flatten {pm : Option Addr} {H : Hp} {xs : List V} {ds : List D} (h : AtL K pm H xs ds) : ∀ n : Nat, AtL K pm H (List.replicate n xs).flatten (List.replicate n ds).flatten
  | 0 => trivial
  | n + 1 => by
    rw [List.replicate_succ, List.replicate_succ, List.flatten_cons, List.flatten_cons]
    exact AtL.append h (AtL.flatten h n)

theorem o_add : OpR X (binaryOp .Add) (r2 X.K (binD .add)) := by
  intro pins s σ H x y v u Q I rx ry h
  obtain ⟨pm, Hf, g, d, e, r, ex, m, ax, ay, hf, k⟩ := h
  cases d <;> cases e <;> (try (simp only [binD, Option.map_none, reduceCtorEq] at hf; done))
  case int.int i j =>
    simp only [binD, Option.some.injEq] at hf
    subst hf
    exact op_add pins s σ H x y v u Q I rx ry ⟨i, j, ax, ay, k Hf H (Stp.refl ex) m _ rfl⟩
  case str.str i j =>
    simp only [binD] at hf
    split at hf
    · rename_i hl
      cases hf
      exact op_add_str pins s σ H x y v u Q I rx ry ⟨i, j, ax, ay, hl, k Hf H (Stp.refl ex) m _ rfl⟩
    · cases hf
  case tuple.tuple a b =>
    simp only [binD] at hf
    split at hf
    · rename_i hl
      cases hf
      obtain ⟨p, xs, rfl, hp, hx⟩ := ax
      obtain ⟨q, ys, rfl, hq, hy⟩ := ay
      refine op_catA pins s σ H _ _ v u Q I rx ry ⟨p, q, xs, ys, rfl, rfl, st_of (ex _ _ hp), st_of (ex _ _ hq), by rw [hx.length, hy.length]; exact hl, fun e0 => ?_, fun _ e0 => ?_, fun _ _ => new_tup ex m (hx.append hy) k⟩
      · subst e0
        have z := hx.nilD
        subst z
        exact k Hf H (Stp.refl ex) m _ ⟨q, ys, rfl, hq, hy⟩
      · subst e0
        have z := hy.nilD
        subst z
        exact k Hf H (Stp.refl ex) m _ ⟨p, xs, rfl, hp, by rw [List.append_nil]; exact hx⟩
    · cases hf
  case list.list a b =>
    simp only [binD] at hf
    split at hf
    · rename_i hl
      cases hf
      obtain ⟨p, xs, rfl, hp, hx⟩ := ax
      obtain ⟨q, ys, rfl, hq, hy⟩ := ay
      exact op_cat pins s σ H _ _ v u Q I rx ry ⟨p, q, xs, ys, rfl, rfl, ex _ _ hp, ex _ _ hq, by rw [hx.length, hy.length]; exact hl, new_lst ex m (hx.append hy) k⟩
    · cases hf
theorem o_sub : OpR X (binaryOp .Sub) (r2 X.K (binD .sub)) := by
  intro pins s σ H x y v u Q I rx ry h
  obtain ⟨pm, Hf, g, d, e, r, ex, m, ax, ay, hf, k⟩ := h
  cases d <;> cases e <;> (try (simp only [binD, Option.map_none, reduceCtorEq] at hf; done))
  case int.int i j =>
    simp only [binD, Option.some.injEq] at hf
    subst hf
    exact op_sub pins s σ H x y v u Q I rx ry ⟨i, j, ax, ay, k Hf H (Stp.refl ex) m _ rfl⟩
theorem o_mul : OpR X (binaryOp .Mult) (r2 X.K (binD .mul)) := by
  intro pins s σ H x y v u Q I rx ry h
  obtain ⟨pm, Hf, g, d, e, r, ex, m, ax, ay, hf, k⟩ := h
  cases d <;> cases e <;> (try (simp only [binD, Option.map_none, reduceCtorEq] at hf; done))
  case int.int i j =>
    simp only [binD] at hf
    split at hf
    · rename_i hl
      cases hf
      simp only [okMul, Bool.or_eq_true, Bool.and_eq_true, decide_eq_true_eq] at hl
      rcases hl with hl | hl
      · exact op_mul pins s σ H x y v u Q I rx ry ⟨i, j, ax, ay, hl, k Hf H (Stp.refl ex) m _ rfl⟩
      · exact op_mulW pins s σ H x y v u Q I rx ry ⟨i, j, ax, ay, hl, k Hf H (Stp.refl ex) m _ rfl⟩
    · cases hf
  case list.int a i =>
    simp only [binD] at hf
    split at hf
    · rename_i hl
      cases hf
      obtain ⟨p, xs, rfl, hp, hx⟩ := ax
      refine op_rep pins s σ H _ _ v u Q I rx ry ⟨p, i, xs, rfl, ay, ex _ _ hp, by omega, by omega, ?_, new_lst ex m (hx.flatten _) k⟩
      rw [hx.length, sizeLine_eq]
      have : a.length * i.toNat ≤ 1000 * 1000 := Nat.mul_le_mul hl.2.2 (by omega)
      omega
    · cases hf
  case tuple.int a i =>
    simp only [binD] at hf
    split at hf
    · rename_i hl
      cases hf
      obtain ⟨p, xs, rfl, hp, hx⟩ := ax
      refine op_repT pins s σ H _ _ v u Q I rx ry ⟨p, i, xs, rfl, ay, st_of (ex _ _ hp), fun z => ?_, hl.2.1, hl.2.2.1, by rw [hx.length]; exact hl.2.2.2, new_tup ex m (hx.flatten _) k⟩
      subst z
      exact hl.1 hx.nilD
    · cases hf
theorem o_fdiv : OpR X (binaryOp .FloorDiv) (r2 X.K (binD .fdiv)) := by
  intro pins s σ H x y v u Q I rx ry h
  obtain ⟨pm, Hf, g, d, e, r, ex, m, ax, ay, hf, k⟩ := h
  cases d <;> cases e <;> (try (simp only [binD, Option.map_none, reduceCtorEq] at hf; done))
  case int.int i j =>
    simp only [binD] at hf
    split at hf
    · rename_i hl
      cases hf
      exact op_fdivW pins s σ H x y v u Q I rx ry ⟨i, j, ax, ay, hl, k Hf H (Stp.refl ex) m _ rfl⟩
    · cases hf
theorem o_mod : OpR X (binaryOp .Mod) (r2 X.K (binD .mod)) := by
  intro pins s σ H x y v u Q I rx ry h
  obtain ⟨pm, Hf, g, d, e, r, ex, m, ax, ay, hf, k⟩ := h
  cases d <;> cases e <;> (try (simp only [binD, Option.map_none, reduceCtorEq] at hf; done))
  case int.int i j =>
    simp only [binD] at hf
    split at hf
    · rename_i hl
      cases hf
      exact op_mod pins s σ H x y v u Q I rx ry ⟨i, j, ax, ay, hl, k Hf H (Stp.refl ex) m _ rfl⟩
    · split at hf
      · cases hf
      · rename_i hl
        cases hf
        exact op_modN pins s σ H x y v u Q I rx ry ⟨i, j, ax, ay, hl, k Hf H (Stp.refl ex) m _ rfl⟩
theorem o_pow : OpR X (binaryOp .Pow) (r2 X.K (binD .pow)) := by
  intro pins s σ H x y v u Q I rx ry h
  obtain ⟨pm, Hf, g, d, e, r, ex, m, ax, ay, hf, k⟩ := h
  cases d <;> cases e <;> (try (simp only [binD, Option.map_none, reduceCtorEq] at hf; done))
  case int.int i j =>
    simp only [binD] at hf
    split at hf
    · rename_i hl
      cases hf
      exact op_pow pins s σ H x y v u Q I rx ry ⟨i, j, ax, ay, hl, k Hf H (Stp.refl ex) m _ rfl⟩
    · cases hf
/-! comparisons -/
mutual
theorem nod_of : ∀ d : D, d.canLay0 = true → nod d = true
  | .none, _ => rfl
  | .bool _, _ => rfl
  | .int _, _ => rfl
  | .str _, _ => rfl
  | .tuple ds, h => by simp only [nod]; exact nodL_of ds (by simpa [PyData.canLay0] using h)
  | .list ds, h => by simp only [nod]; exact nodL_of ds (by simpa [PyData.canLay0] using h)
  | .dict _, h => by simp [PyData.canLay0] at h
theorem nodL_of : ∀ ds : List D, PyData.canLayAll0 ds = true → nodL ds = true
  | [], _ => rfl
  | d :: ds, h => by
    have h' : d.canLay0 = true ∧ PyData.canLayAll0 ds = true := by simpa [PyData.canLayAll0] using h
    simp only [nodL, nod_of d h'.1, nodL_of ds h'.2, Bool.and_self]
end
theorem nod_shaped {d : D} (h : SeqAt.shaped d = true) : nod d = true := nod_of d (SeqAt.canLay_of_shaped h)
theorem o_eq (hu : X.A.units + 64 < cLine) : OpR X (compareOp .Eq) (r2 X.K (cmpV .eq)) := by
  intro pins s σ H x y v u Q I rx ry h
  obtain ⟨pm, Hf, g, d, e, r, ex, m, ax, ay, hf, k⟩ := h
  simp only [cmpV, cmpD] at hf
  split at hf
  · rename_i hl
    cases hf
    exact op_eqD hu pins s σ H x y v u Q I rx ry ⟨d, e, At.dp d x (nod_shaped hl.1) (At.mono ex d x ax), At.dp e y (nod_shaped hl.2) (At.mono ex e y ay), hl.1, hl.2, k Hf H (Stp.refl ex) m _ rfl⟩
  · cases hf
theorem o_ne (hu : X.A.units + 64 < cLine) : OpR X (compareOp .NotEq) (r2 X.K (cmpV .ne)) := by
  intro pins s σ H x y v u Q I rx ry h
  obtain ⟨pm, Hf, g, d, e, r, ex, m, ax, ay, hf, k⟩ := h
  simp only [cmpV, cmpD] at hf
  split at hf
  · rename_i hl
    cases hf
    exact op_neD hu pins s σ H x y v u Q I rx ry ⟨d, e, At.dp d x (nod_shaped hl.1) (At.mono ex d x ax), At.dp e y (nod_shaped hl.2) (At.mono ex e y ay), hl.1, hl.2, k Hf H (Stp.refl ex) m _ rfl⟩
  · cases hf
theorem intsD_eq : ∀ {ds : List D} {is : List Int}, intsD ds = some is → ds = is.map .int
  | [], _, e => by cases e; rfl
  | .int b :: ds, is, e => by
    simp only [intsD] at e
    cases q : intsD ds with
    | none => rw [q] at e; cases e
    | some cs => rw [q] at e; cases e; rw [List.map_cons, intsD_eq q]
theorem intsD_map : ∀ is : List Int, intsD (is.map .int) = some is
  | [] => rfl
  | i :: is => by simp only [List.map_cons, intsD, intsD_map is]; rfl
theorem alike_ints : ∀ is js : List Int, PySem.W.alikeAll (is.map .int) (js.map .int) = true
  | [], [] => by simp [PySem.W.alikeAll]
  | [], _ :: _ => by simp [PySem.W.alikeAll]
  | _ :: _, [] => by simp [PySem.W.alikeAll]
  | i :: is, j :: js => by
    simp only [List.map_cons, PySem.W.alikeAll, alike_ints is js, Bool.and_true]
    simp [PySem.W.alike]
theorem nod_ints (is : List Int) : nodL (is.map .int) = true := by
  induction is with
  | nil => rfl
  | cons i is ih => simp [nodL, nod, ih]
theorem depth_ints (is : List Int) : PyData.depth (.list (is.map .int)) ≤ 3 := by
  have h : ∀ is : List Int, PyData.depthAll (is.map .int) ≤ 1 := fun is => by
    induction is with
    | nil => simp [PyData.depthAll]
    | cons i is ih =>
      simp only [List.map_cons, PyData.depthAll, PyData.depth]
      omega
  have := h is
  simp only [PyData.depth]
  omega
theorem o_lt (hu : X.A.units + 64 < cLine) : OpR X (compareOp .Lt) (r2 X.K (cmpV .lt)) := by
  intro pins s σ H x y v u Q I rx ry h
  obtain ⟨pm, Hf, g, d, e, r, ex, m, ax, ay, hf, k⟩ := h
  cases d <;> cases e <;> (try (simp only [cmpV, cmpD, ltD, Option.map_none, reduceCtorEq] at hf; done))
  case int.int i j =>
    simp only [cmpV, cmpD, ltD, Option.map_some, Option.some.injEq] at hf
    subst hf
    exact op_lt pins s σ H x y v u Q I rx ry ⟨i, j, ax, ay, k Hf H (Stp.refl ex) m _ rfl⟩
  case list.list ds es =>
    simp only [cmpV, cmpD, ltD] at hf
    cases q1 : intsD ds with
    | none => rw [q1] at hf; cases hf
    | some is =>
      cases q2 : intsD es with
      | none => rw [q1, q2] at hf; cases hf
      | some js =>
        rw [q1, q2] at hf
        cases hf
        have e1 := intsD_eq q1
        have e2 := intsD_eq q2
        subst e1 e2
        obtain ⟨as, ra⟩ := (At.dp _ _ (by simp only [nod]; exact nod_ints is) (At.mono ex _ _ ax)).reads I _ _ _ rx
        obtain ⟨bs, rb⟩ := (At.dp _ _ (by simp only [nod]; exact nod_ints js) (At.mono ex _ _ ay)).reads I _ _ _ ry
        have R := PySem.W.rcLt_alike _ _ X.A s v u as bs ra rb (by simp only [PySem.W.alike]; exact alike_ints is js) (fun z => by cases z) (by
          have h1 := depth_ints is
          have h2 : min (PyData.depth (.list (is.map .int))) (PyData.depth (.list (js.map .int))) ≤ PyData.depth (.list (is.map .int)) := Nat.min_le_left _ _
          omega)
        have z : wpAny (model X.prog X.w) X.A (compareOp .Lt v u) (EP X pins σ Q) X.xe s := R X.prog X.w X.xe (EP X pins σ Q) ⟨.bl _, H, I, rfl, k Hf H (Stp.refl ex) m _ rfl⟩
        exact z
theorem o_le : OpR X (compareOp .LtE) (r2 X.K (cmpV .le)) := by
  intro pins s σ H x y v u Q I rx ry h
  obtain ⟨pm, Hf, g, d, e, r, ex, m, ax, ay, hf, k⟩ := h
  cases d <;> cases e <;> (try (simp only [cmpV, cmpD, Option.map_none, reduceCtorEq] at hf; done))
  case int.int i j =>
    simp only [cmpV, cmpD, Option.map_some, Option.some.injEq] at hf
    subst hf
    exact op_le pins s σ H x y v u Q I rx ry ⟨i, j, ax, ay, k Hf H (Stp.refl ex) m _ rfl⟩
  case str.str i j =>
    simp only [cmpV, cmpD, Option.map_some, Option.some.injEq] at hf
    subst hf
    exact op_le_str pins s σ H x y v u Q I rx ry ⟨i, j, ax, ay, k Hf H (Stp.refl ex) m _ rfl⟩
theorem o_gt : OpR X (compareOp .Gt) (r2 X.K (cmpV .gt)) := by
  intro pins s σ H x y v u Q I rx ry h
  obtain ⟨pm, Hf, g, d, e, r, ex, m, ax, ay, hf, k⟩ := h
  cases d <;> cases e <;> (try (simp only [cmpV, cmpD, Option.map_none, reduceCtorEq] at hf; done))
  case int.int i j =>
    simp only [cmpV, cmpD, Option.map_some, Option.some.injEq] at hf
    subst hf
    exact op_gt pins s σ H x y v u Q I rx ry ⟨i, j, ax, ay, k Hf H (Stp.refl ex) m _ rfl⟩
theorem o_ge : OpR X (compareOp .GtE) (r2 X.K (cmpV .ge)) := by
  intro pins s σ H x y v u Q I rx ry h
  obtain ⟨pm, Hf, g, d, e, r, ex, m, ax, ay, hf, k⟩ := h
  cases d <;> cases e <;> (try (simp only [cmpV, cmpD, Option.map_none, reduceCtorEq] at hf; done))
  case int.int i j =>
    simp only [cmpV, cmpD, Option.map_some, Option.some.injEq] at hf
    subst hf
    exact op_ge pins s σ H x y v u Q I rx ry ⟨i, j, ax, ay, k Hf H (Stp.refl ex) m _ rfl⟩
theorem isNone_of {pm : Option Addr} {H : Hp} {d : D} {x : V} (h : At K pm H x d) : decide (x = .non) = isNone d := by
  cases d with
  | none => cases h; rfl
  | bool b => cases h; rfl
  | int b => cases h; rfl
  | str b => cases h; rfl
  | list b => obtain ⟨_, _, rfl, _⟩ := h; rfl
  | tuple b => obtain ⟨_, _, rfl, _⟩ := h; rfl
  | dict b => obtain ⟨_, _, _, rfl⟩ := h; rfl
theorem o_is : OpR X (compareOp .Is) (r2 X.K (cmpV .is)) := by
  intro pins s σ H x y v u Q I rx ry h
  obtain ⟨pm, Hf, g, d, e, r, ex, m, ax, ay, hf, k⟩ := h
  cases e <;> (try (simp only [cmpV, cmpD, Option.map_none, reduceCtorEq] at hf; done))
  simp only [cmpV, cmpD, Option.map_some, Option.some.injEq] at hf
  subst hf
  exact op_isN pins s σ H x y v u Q I rx ry ⟨ay, by rw [isNone_of ax]; exact k Hf H (Stp.refl ex) m _ rfl⟩
theorem o_isn : OpR X (compareOp .IsNot) (r2 X.K (cmpV .isn)) := by
  intro pins s σ H x y v u Q I rx ry h
  obtain ⟨pm, Hf, g, d, e, r, ex, m, ax, ay, hf, k⟩ := h
  cases e <;> (try (simp only [cmpV, cmpD, Option.map_none, reduceCtorEq] at hf; done))
  simp only [cmpV, cmpD, Option.map_some, Option.some.injEq] at hf
  subst hf
  exact op_notN pins s σ H x y v u Q I rx ry ⟨ay, by rw [isNone_of ax]; exact k Hf H (Stp.refl ex) m _ rfl⟩
theorem flat_of {pm : Option Addr} {H : Hp} {d : D} {x : V} (h : At K pm H x d) (f : flatD d = true) : flatV x = true := by
  cases d with
  | none => cases h; rfl
  | bool b => cases h; rfl
  | int b => cases h; rfl
  | str b => cases h; rfl
  | list b => cases f
  | tuple b => cases f
  | dict b => cases f
theorem eqv_of {pm : Option Addr} {H : Hp} {d e : D} {x y : V} (h : At K pm H x d) (f : flatD d = true) (h' : At K pm H y e) (f' : flatD e = true) : eqV x y = PyData.eqv d e := by
  cases d <;> (try (cases f; done)) <;> (cases e <;> (try (cases f'; done)) <;> (cases h; cases h'; simp [eqV, PyData.eqv]))
theorem flat_all {pm : Option Addr} {H : Hp} : ∀ {ds : List D} {xs : List V}, AtL K pm H xs ds → ds.all flatD = true → xs.all flatV = true
  | [], [], _, _ => rfl
  | d :: ds, x :: xs, h, f => by
    rw [List.all_cons, Bool.and_eq_true] at f
    rw [List.all_cons, flat_of h.1 f.1, flat_all h.2 f.2]; rfl
  | [], _ :: _, h, _ => h.elim
  | _ :: _, [], h, _ => h.elim
theorem inV_of {pm : Option Addr} {H : Hp} {d : D} {x : V} (h : At K pm H x d) (fd : flatD d = true) : ∀ {ds : List D} {xs : List V}, AtL K pm H xs ds → ds.all flatD = true → inV x xs = inD d ds
  | [], [], _, _ => rfl
  | e :: ds, y :: xs, a, f => by
    rw [List.all_cons, Bool.and_eq_true] at f
    have := inV_of h fd a.2 f.2
    unfold inV inD at this ⊢
    rw [List.any_cons, List.any_cons, this, eqv_of a.1 f.1 h fd]
  | [], _ :: _, h, _ => h.elim
  | _ :: _, [], h, _ => h.elim
theorem o_in : OpR X (compareOp .In) (r2 X.K (cmpV .inn)) := by
  intro pins s σ H x y v u Q I rx ry h
  obtain ⟨pm, Hf, g, d, e, r, ex, m, ax, ay, hf, k⟩ := h
  cases e <;> (try (simp only [cmpV, cmpD, Option.map_none, reduceCtorEq] at hf; done))
  all_goals
    simp only [cmpV, cmpD] at hf
    split at hf
    · rename_i hl
      cases hf
      obtain ⟨p, xs, rfl, hp, hx⟩ := ay
      refine op_in_seq pins s σ H x _ v u Q I rx ry ⟨p, xs, rfl, by first | exact .inr (st_of (ex _ _ hp)) | exact .inl (sq_of (ex _ _ hp)), flat_of ax hl.1, flat_all hx hl.2, ?_⟩
      rw [if_neg Bool.false_ne_true, inV_of ax hl.1 hx hl.2]
      exact k Hf H (Stp.refl ex) m _ rfl
    · cases hf
theorem o_nin : OpR X (compareOp .NotIn) (r2 X.K (cmpV .nin)) := by
  intro pins s σ H x y v u Q I rx ry h
  obtain ⟨pm, Hf, g, d, e, r, ex, m, ax, ay, hf, k⟩ := h
  cases e <;> (try (simp only [cmpV, cmpD, Option.map_none, reduceCtorEq] at hf; done))
  all_goals
    simp only [cmpV, cmpD] at hf
    split at hf
    · rename_i hl
      cases hf
      obtain ⟨p, xs, rfl, hp, hx⟩ := ay
      refine op_notIn_seq pins s σ H x _ v u Q I rx ry ⟨p, xs, rfl, by first | exact .inr (st_of (ex _ _ hp)) | exact .inl (sq_of (ex _ _ hp)), flat_of ax hl.1, flat_all hx hl.2, ?_⟩
      rw [if_pos rfl, inV_of ax hl.1 hx hl.2]
      exact k Hf H (Stp.refl ex) m _ rfl
    · cases hf

/-! subscripts, slices -/
theorem atI_of {pm : Option Addr} {H : Hp} {ds : List D} {xs : List V} {i : Int} {d : D} (h : AtL K pm H xs ds) (e : atI ds i = some d) : ∃ v, atI xs i = some v ∧ At K pm H v d := by
  unfold atI at e ⊢
  rw [← h.length] at e
  cases q : ixN xs.length i with
  | none => rw [q] at e; cases e
  | some j =>
    rw [q] at e
    exact h.get e
theorem o_ix : IxR X (r2 X.K ixD) := by
  intro value slice pins s σ H x y v u Q I rx ry h hs
  obtain ⟨pm, Hf, g, d, e, r, ex, m, ax, ay, hf, k⟩ := h
  cases d <;> cases e <;> (try (simp only [ixD, Option.map_none, reduceCtorEq] at hf; done))
  case list.int a i =>
    obtain ⟨p, xs, rfl, hp, hx⟩ := ax
    obtain ⟨z, h1, h2⟩ := atI_of hx (show atI a i = some r from hf)
    exact ix_list value slice pins s σ H _ y v u Q I rx ry ⟨p, xs, i, z, rfl, ay, sq_of (ex _ _ hp), h1, k Hf H (Stp.refl ex) m _ h2⟩ hs
  case tuple.int a i =>
    obtain ⟨p, xs, rfl, hp, hx⟩ := ax
    obtain ⟨z, h1, h2⟩ := atI_of hx (show atI a i = some r from hf)
    exact ix_tup value slice pins s σ H _ y v u Q I rx ry ⟨p, xs, i, z, rfl, ay, st_of (ex _ _ hp), h1, k Hf H (Stp.refl ex) m _ h2⟩ hs
  case str.int w i =>
    simp only [ixD] at hf
    split at hf
    · rename_i hl
      cases q : atI w.cps.toList i with
      | none => rw [q] at hf; cases hf
      | some c =>
        rw [q] at hf
        cases hf
        exact ix_str value slice pins s σ H _ y v u Q I rx ry ⟨w, i, c, ax, ay, sz_of hl, q, k Hf H (Stp.refl ex) m _ rfl⟩ hs
    · cases hf
theorem AtL.cut {pm : Option Addr} {H : Hp} {ds : List D} {xs : List V} (h : AtL K pm H xs ds) (lo hi : Option Int) : AtL K pm H (cutV xs lo hi) (cutD ds lo hi) := by
  unfold cutV cutD
  rw [h.length]
  exact AtL.take _ (AtL.drop _ h)
def rSl (K : PySem.W.Frag) : V → Option Int → Option Int → Hp → VK → Prop := fun x lo hi H Q => ∃ pm Hf g d r, Ex Hf H ∧ MAt K pm g Hf H ∧ At K pm Hf x d ∧ slD d lo hi = some r ∧ ∀ Hf' H', Stp pm Hf H Hf' H' → MAt K pm g Hf' H' → ∀ v, At K pm Hf' v r → Q v H'
theorem cutD_whole {ds : List D} {lo hi : Option Int} (h : HT.sIx ds.length 0 lo = 0 ∧ HT.sIx ds.length ds.length hi = ds.length) : cutD ds lo hi = ds := by
  unfold cutD
  rw [h.1, h.2, List.drop_zero, Nat.sub_zero, List.take_length]
theorem o_sl : SlR X (rSl X.K) := by
  intro pins s σ H x v vl vu lo hi sl Q I rx hs pl pu h
  obtain ⟨pm, Hf, g, d, r, ex, m, ax, hf, k⟩ := h
  cases d <;> (try (simp only [slD, Option.map_none, reduceCtorEq] at hf; done))
  case list a =>
    simp only [slD, Option.some.injEq] at hf
    subst hf
    obtain ⟨p, xs, rfl, hp, hx⟩ := ax
    exact sl_list pins s σ H _ v vl vu lo hi sl Q I rx hs pl pu ⟨p, xs, rfl, sq_of (ex _ _ hp), new_lst ex m (hx.cut lo hi) k⟩
  case tuple a =>
    simp only [slD, Option.some.injEq] at hf
    subst hf
    obtain ⟨p, xs, rfl, hp, hx⟩ := ax
    refine sl_tupA pins s σ H _ v vl vu lo hi sl Q I rx hs pl pu ⟨p, xs, rfl, st_of (ex _ _ hp), fun w => ?_, fun _ => new_tup ex m (hx.cut lo hi) k⟩
    rw [hx.length] at w
    exact k Hf H (Stp.refl ex) m _ ⟨p, xs, rfl, hp, by rw [cutD_whole w]; exact hx⟩
end
end Mini

set_option maxRecDepth 100000
set_option maxHeartbeats 4000000
namespace Mini
open PySem L2 Evl

section
variable {X : Cx} {S : Sg} {pos : Pos}
/-! ### and, or, not, if-else -/
theorem m_not {a : Expr} {ma : ME} (ha : PE X a (rdE X.K S ma)) : PE X (.UnaryOp .Not a pos) (rdE X.K S (.not ma)) := PE.weak (pe_not ha) fun σ H Q h => by
  obtain ⟨pm, ρ, g, Hf, rel, h⟩ := h
  simp only [evE] at h
  refine ⟨pm, ρ, g, Hf, rel, (Post.bind h).mono fun d g1 Hf1 H1 s1 m1 h1 v a1 => ?_⟩
  cases d with
  | bool b => exact ⟨b, a1, h1 Hf1 H1 (Stp.refl s1.fh) m1 _ rfl⟩
  | _ => exact h1.elim
theorem t_not {a : Expr} {ma : ME} (ha : PT X a (rdT X.K S ma)) : PT X (.UnaryOp .Not a pos) (rdT X.K S (.not ma)) := PT.weak (pt_not ha) fun σ H Q h => by
  obtain ⟨pm, ρ, g, Hf, rel, h⟩ := h
  refine ⟨pm, ρ, g, Hf, rel, ?_⟩
  simp only [evE, R.bind_assoc] at h ⊢
  cases q : evE S.call ma ρ g with
  | ok d g1 =>
    rw [q] at h
    cases d with
    | bool b => exact h
    | _ => exact h.elim
  | exc c d g1 => rw [q] at h; exact h
  | stuck => rw [q] at h; exact h
theorem m_and {a b : Expr} {rest : List Expr} {ma mb : ME} (ha : PE X a (rdE X.K S ma)) (hb : PE X (.BoolOp .And (b :: rest) pos) (rdE X.K S mb)) : PE X (.BoolOp .And (a :: b :: rest) pos) (rdE X.K S (.and ma mb)) :=
  PE.weak (pe_and ha hb) fun σ H Q h => by
    obtain ⟨pm, ρ, g, Hf, rel, h⟩ := h
    simp only [evE] at h
    refine ⟨pm, ρ, g, Hf, rel, (Post.bind h).mono fun d g1 Hf1 H1 s1 m1 h1 v a1 => ?_⟩
    cases d with
    | bool k =>
      refine ⟨k, a1, ?_⟩
      cases k with
      | false =>
        rw [if_neg Bool.false_ne_true]
        exact h1 Hf1 H1 (Stp.refl s1.fh) m1 _ rfl
      | true =>
        rw [if_pos rfl]
        refine ⟨pm, ρ, g1, Hf1, rel.step s1 m1, (Post.bind (show PostS X.K S pm Hf1 H1 ((evE S.call mb ρ g1).bind _) _ from h1)).mono fun y g2 Hf2 H2 s2 m2 h2 v2 a2 => ?_⟩
        cases y with
        | bool k2 => exact h2 Hf2 H2 (Stp.refl s2.fh) m2 v2 a2
        | _ => exact h2.elim
    | _ => exact h1.elim
theorem m_or {a b : Expr} {rest : List Expr} {ma mb : ME} (ha : PE X a (rdE X.K S ma)) (hb : PE X (.BoolOp .Or (b :: rest) pos) (rdE X.K S mb)) : PE X (.BoolOp .Or (a :: b :: rest) pos) (rdE X.K S (.or ma mb)) :=
  PE.weak (pe_or ha hb) fun σ H Q h => by
    obtain ⟨pm, ρ, g, Hf, rel, h⟩ := h
    simp only [evE] at h
    refine ⟨pm, ρ, g, Hf, rel, (Post.bind h).mono fun d g1 Hf1 H1 s1 m1 h1 v a1 => ?_⟩
    cases d with
    | bool k =>
      refine ⟨k, a1, ?_⟩
      cases k with
      | true =>
        rw [if_pos rfl]
        exact h1 Hf1 H1 (Stp.refl s1.fh) m1 _ rfl
      | false =>
        rw [if_neg Bool.false_ne_true]
        refine ⟨pm, ρ, g1, Hf1, rel.step s1 m1, (Post.bind (show PostS X.K S pm Hf1 H1 ((evE S.call mb ρ g1).bind _) _ from h1)).mono fun y g2 Hf2 H2 s2 m2 h2 v2 a2 => ?_⟩
        cases y with
        | bool k2 => exact h2 Hf2 H2 (Stp.refl s2.fh) m2 v2 a2
        | _ => exact h2.elim
    | _ => exact h1.elim
theorem m_one {op : BoolOp} {a : Expr} {ma : ME} (ha : PE X a (rdE X.K S ma)) : PE X (.BoolOp op [a] pos) (rdE X.K S ma) := pe_one ha
theorem w_and1 {a : Expr} {ma : ME} (ha : PT X a (rdT X.K S ma)) : PW X (.BoolOp .And [a] pos) (rdT X.K S ma) := pw_and1 ha
theorem w_or1 {a : Expr} {ma : ME} (ha : PT X a (rdT X.K S ma)) : PW X (.BoolOp .Or [a] pos) (rdT X.K S ma) := pw_or1 ha
theorem rdT_and {K : PySem.W.Frag} {ma mb : ME} {σ : St} {H : Hp} {Q : Bool → Hp → Prop} (h : rdT K S (.and ma mb) σ H Q) : tAnd (rdT K S ma) (rdT K S mb) σ H Q := by
  obtain ⟨pm, ρ, g, Hf, rel, h⟩ := h
  simp only [evE, R.bind_assoc] at h
  refine ⟨pm, ρ, g, Hf, rel, ?_⟩
  have h' : PostS K S pm Hf H (((evE S.call ma ρ g).bind asB).bind fun k g2 => if k = true then (evE S.call mb ρ g2).bind asB else .ok false g2) fun b _ _ H' => Q b H' := by
    rw [R.bind_assoc]
    cases q : evE S.call ma ρ g with
    | ok d g1 =>
      rw [q] at h
      cases d with
      | bool b =>
        cases b with
        | true =>
          simp only [R.bind_ok, asB, if_true] at h ⊢
          cases q2 : evE S.call mb ρ g1 with
          | ok y g2 =>
            rw [q2] at h
            cases y with
            | bool b2 => exact h
            | _ => exact h.elim
          | exc c d g1 => rw [q2] at h; exact h
          | stuck => rw [q2] at h; exact h
        | false => exact h
      | _ => exact h.elim
    | exc c d g1 => rw [q] at h; exact h
    | stuck => rw [q] at h; exact h
  refine (Post.bind h').mono fun k g1 Hf1 H1 s1 m1 h1 => ?_
  cases k with
  | true =>
    rw [if_pos rfl]
    exact ⟨pm, ρ, g1, Hf1, rel.step s1 m1, h1⟩
  | false => exact h1 Hf1 H1 (Stp.refl s1.fh) m1
theorem rdT_or {K : PySem.W.Frag} {ma mb : ME} {σ : St} {H : Hp} {Q : Bool → Hp → Prop} (h : rdT K S (.or ma mb) σ H Q) : tOr (rdT K S ma) (rdT K S mb) σ H Q := by
  obtain ⟨pm, ρ, g, Hf, rel, h⟩ := h
  simp only [evE, R.bind_assoc] at h
  refine ⟨pm, ρ, g, Hf, rel, ?_⟩
  have h' : PostS K S pm Hf H (((evE S.call ma ρ g).bind asB).bind fun k g2 => if k = true then .ok true g2 else (evE S.call mb ρ g2).bind asB) fun b _ _ H' => Q b H' := by
    rw [R.bind_assoc]
    cases q : evE S.call ma ρ g with
    | ok d g1 =>
      rw [q] at h
      cases d with
      | bool b =>
        cases b with
        | false =>
          simp only [R.bind_ok, asB, Bool.false_eq_true, if_false] at h ⊢
          cases q2 : evE S.call mb ρ g1 with
          | ok y g2 =>
            rw [q2] at h
            cases y with
            | bool b2 => exact h
            | _ => exact h.elim
          | exc c d g1 => rw [q2] at h; exact h
          | stuck => rw [q2] at h; exact h
        | true => exact h
      | _ => exact h.elim
    | exc c d g1 => rw [q] at h; exact h
    | stuck => rw [q] at h; exact h
  refine (Post.bind h').mono fun k g1 Hf1 H1 s1 m1 h1 => ?_
  cases k with
  | false =>
    rw [if_neg Bool.false_ne_true]
    exact ⟨pm, ρ, g1, Hf1, rel.step s1 m1, h1⟩
  | true => exact h1 Hf1 H1 (Stp.refl s1.fh) m1
theorem w_and {a b : Expr} {rest : List Expr} {ma mb : ME} (ha : PT X a (rdT X.K S ma)) (hb : PW X (.BoolOp .And (b :: rest) pos) (rdT X.K S mb)) : PW X (.BoolOp .And (a :: b :: rest) pos) (rdT X.K S (.and ma mb)) :=
  PW.weak (pw_and ha hb) fun σ H Q h => rdT_and h
theorem w_or {a b : Expr} {rest : List Expr} {ma mb : ME} (ha : PT X a (rdT X.K S ma)) (hb : PW X (.BoolOp .Or (b :: rest) pos) (rdT X.K S mb)) : PW X (.BoolOp .Or (a :: b :: rest) pos) (rdT X.K S (.or ma mb)) :=
  PW.weak (pw_or ha hb) fun σ H Q h => rdT_or h
theorem m_ifx {c a b : Expr} {mc ma mb : ME} (hc : PT X c (rdT X.K S mc)) (ha : PE X a (rdE X.K S ma)) (hb : PE X b (rdE X.K S mb)) : PE X (.IfExp c a b pos) (rdE X.K S (.ifx mc ma mb)) := PE.weak (pe_ifExp hc ha hb) fun σ H Q h => by
  obtain ⟨pm, ρ, g, Hf, rel, h⟩ := h
  simp only [evE] at h
  rw [← R.bind_assoc] at h
  refine ⟨pm, ρ, g, Hf, rel, (Post.bind h).mono fun k g1 Hf1 H1 s1 m1 h1 => ?_⟩
  cases k with
  | true => exact ⟨pm, ρ, g1, Hf1, rel.step s1 m1, h1⟩
  | false => exact ⟨pm, ρ, g1, Hf1, rel.step s1 m1, h1⟩
theorem m_neg {a : Expr} {ma : ME} (ha : PE X a (rdE X.K S ma)) : PE X (.UnaryOp .USub a pos) (rdE X.K S (.neg ma)) := PE.weak (pe_un un_neg ha) fun σ H Q h => by
  obtain ⟨pm, ρ, g, Hf, rel, h⟩ := h
  simp only [evE] at h
  refine ⟨pm, ρ, g, Hf, rel, (Post.bind h).mono fun d g1 Hf1 H1 s1 m1 h1 v a1 => ?_⟩
  cases d with
  | int i => exact ⟨i, a1, h1 Hf1 H1 (Stp.refl s1.fh) m1 _ rfl⟩
  | _ => exact h1.elim
theorem m_chain {op op' : CmpOp} {o o' : CO} {a b c : Expr} {ma mb mc : ME} (ho : OpR X (compareOp op) (r2 X.K (cmpV o))) (ho' : OpR X (compareOp op') (r2 X.K (cmpV o'))) (ha : PE X a (rdE X.K S ma)) (hb : PE X b (rdE X.K S mb)) (hc : PE X c (rdE X.K S mc))
    (hm : lastMarks [op, op'] [b, c] = false := by with_unfolding_all rfl) : PE X (.Compare a [op, op'] [b, c] pos) (rdE X.K S (.chain o o' ma mb mc)) :=
  PE.weak (pe_chain ho ho' ha hb hc hm) fun σ H Q h => rd_chain h
theorem t_chain {op op' : CmpOp} {o o' : CO} {a b c : Expr} {ma mb mc : ME} (ho : OpR X (compareOp op) (r2 X.K (cmpV o))) (ho' : OpR X (compareOp op') (r2 X.K (cmpV o'))) (ha : PE X a (rdE X.K S ma)) (hb : PE X b (rdE X.K S mb)) (hc : PE X c (rdE X.K S mc))
    (hm : lastMarks [op, op'] [b, c] = false := by with_unfolding_all rfl) : PT X (.Compare a [op, op'] [b, c] pos) (rdT X.K S (.chain o o' ma mb mc)) :=
  PT.weak (pt_chain ho ho' ha hb hc hm) fun σ H Q h => rd_chain (rdT_val h)

/-! ### subscripts, slices -/
theorem m_ix {a b : Expr} {ma mb : ME} (ha : PE X a (rdE X.K S ma)) (hb : PE X b (rdE X.K S mb)) (hs : PlainIx b := by exact fun _ _ => rfl) : PE X (.Subscript a b pos) (rdE X.K S (.ix ma mb)) := PE.weak (pe_ix o_ix ha hb hs) fun σ H Q h => rd_2 h
theorem po_no : PO X none (rdO X.K S .no) := ⟨fun pins s σ H Q I h => po_none.run pins s σ H Q I (by
  obtain ⟨pm, ρ, g, Hf, rel, h⟩ := h
  exact Post.now h rel.ex rel.mat)⟩
theorem po_so {e : Expr} {me : ME} (he : PE X e (rdE X.K S me)) : PO X (some e) (rdO X.K S (.so me)) := ⟨fun pins s σ H Q I h => (po_some he).run pins s σ H Q I (by
  obtain ⟨pm, ρ, g, Hf, rel, h⟩ := h
  simp only [evO] at h
  refine ⟨pm, ρ, g, Hf, rel, (Post.bind h).mono fun d g1 Hf1 H1 s1 m1 h1 v a1 => ?_⟩
  cases d with
  | int i => exact ⟨i, a1, h1 Hf1 H1 (Stp.refl s1.fh) m1⟩
  | _ => exact h1.elim)⟩
theorem m_sl {a : Expr} {lo hi : Option Expr} {p2 : Pos} {ma : ME} {ml mh : MO} (ha : PE X a (rdE X.K S ma)) (hl : PO X lo (rdO X.K S ml)) (hh : PO X hi (rdO X.K S mh)) : PE X (.Subscript a (.Slice lo hi none p2) pos) (rdE X.K S (.sl ma ml mh)) :=
  PE.weak (pe_slice o_sl ha hl hh) fun σ H Q h => by
    obtain ⟨pm, ρ, g, Hf, rel, h⟩ := h
    simp only [evE] at h
    refine ⟨pm, ρ, g, Hf, rel, (Post.bind h).mono fun d g1 Hf1 H1 s1 m1 h1 v a1 => ?_⟩
    refine ⟨pm, ρ, g1, Hf1, rel.step s1 m1, (Post.bind h1).mono fun l g2 Hf2 H2 s2 m2 h2 => ?_⟩
    refine ⟨pm, ρ, g2, Hf2, (rel.step s1 m1).step s2 m2, (Post.bind h2).mono fun u g3 Hf3 H3 s3 m3 h3 => ?_⟩
    cases q : slD d l u with
    | none => rw [q] at h3; exact h3.elim
    | some r =>
      rw [q] at h3
      exact ⟨pm, Hf3, g3, d, r, s3.fh, m3, At.mono s3.ff d v (At.mono s2.ff d v a1), q, fun Hf' H' s m v a => h3 Hf' H' s m v a⟩

/-! ### calls -/
theorem m_call {k : Nat} {f : Nat} {fA : Addr} {fd : FuncData} {ps : List Str} {x : Str} {p : Pos} {e : Expr} {es : List Expr} {ms : MA} (F : FnOk X.prog X.w X.K X.mg X.base (L2.CX X.prog X.w) k fA fd ps (spD X.K S f)) (hr : Room k X.A) (hg : Gl X x) (hm : X.mg x = some (.ref fA))
    (hk : PySem.W.keepIn X.K (.ref fA) = true) (hb : Binds X.K fd ps []) (hx : Passes (L2.CX X.prog X.w) X S.E) (ha : PA X (e :: es) (rdA X.K S ms)) (hdb : (x == ("__debug__" : Str)) = false := by decide)
    (he : starEach (e :: es) X.env = (false, eval e X.env) :: starEach es X.env := by rfl) (hpl : (backTo pos (starEach es X.env)).any (·.1) = false := by rfl) : PE X (.Call (.Name x p) (e :: es) [] pos) (rdE X.K S (.call f ms)) :=
  PE.weak (pe_call (dvs := []) F hr hg hm hk hb .nil hx ha hdb he hpl) fun σ H Q h => by
    obtain ⟨pm, ρ, g, Hf, rel, h⟩ := h
    simp only [evE] at h
    refine ⟨pm, ρ, g, Hf, rel, (Post.bind h).mono fun ds g1 Hf1 H1 s1 m1 h1 vs a1 => ?_⟩
    show spD X.K S f (vs ++ []) H1 Q S.E
    rw [List.append_nil]
    exact ⟨pm, Hf1, g1, ds, s1.fh, m1, a1, h1⟩
theorem rd_N {K : PySem.W.Frag} {b : BI} {ms : MA} {σ : St} {H : Hp} {Q : VK} (h : rdE K S (.blt b ms) σ H Q) : tCB (rN K (bltD b)) (rdA K S ms) σ H Q := by
  obtain ⟨pm, ρ, g, Hf, rel, h⟩ := h
  simp only [evE] at h
  refine ⟨pm, ρ, g, Hf, rel, (Post.bind h).mono fun ds g1 Hf1 H1 s1 m1 h1 vs a1 => ?_⟩
  cases q : bltD b ds with
  | none => rw [q] at h1; exact h1.elim
  | some r =>
    rw [q] at h1
    exact ⟨pm, Hf1, g1, ds, r, s1.fh, m1, a1, q, fun Hf' H' s m v a => h1 Hf' H' s m v a⟩
theorem m_bltB {b : BI} {id : String} {x : Str} {p : Pos} {e : Expr} {es : List Expr} {ms : MA} (hc : CallR X (.builtin id) (rN X.K (bltD b))) (hg : Gl X x) (hm : X.mg x = none) (hv : bootBuiltins x = some (.builtin id)) (ha : PA X (e :: es) (rdA X.K S ms)) (hn : x ≠ "__name__" := by decide) (hdb : (x == ("__debug__" : Str)) = false := by decide)
    (he : starEach (e :: es) X.env = (false, eval e X.env) :: starEach es X.env := by rfl) (hpl : (backTo pos (starEach es X.env)).any (·.1) = false := by rfl) : PE X (.Call (.Name x p) (e :: es) [] pos) (rdE X.K S (.blt b ms)) :=
  PE.weak (pe_callB hc hg hm hv ha hn hdb he hpl) fun σ H Q h => rd_N h
theorem m_bltT {b : BI} {T : String} {x : Str} {p : Pos} {e : Expr} {es : List Expr} {ms : MA} (hc : CallR X (.type T) (rN X.K (bltD b))) (hg : Gl X x) (hm : X.mg x = none) (hv : bootBuiltins x = some (.type T)) (ha : PA X (e :: es) (rdA X.K S ms)) (hn : x ≠ "__name__" := by decide) (hdb : (x == ("__debug__" : Str)) = false := by decide)
    (he : starEach (e :: es) X.env = (false, eval e X.env) :: starEach es X.env := by rfl) (hpl : (backTo pos (starEach es X.env)).any (·.1) = false := by rfl) : PE X (.Call (.Name x p) (e :: es) [] pos) (rdE X.K S (.blt b ms)) :=
  PE.weak (pe_callTy hc hg hm hv ha hn hdb he hpl) fun σ H Q h => rd_N h
/-- of the module math -/
theorem m_bltM {b : BI} {id : String} {x : Str} {p : Pos} {e : Expr} {es : List Expr} {ms : MA} (hc : CallR X (.builtin id) (rN X.K (bltD b))) (hg : Gl X x) (hm : X.mg x = some (.builtin id)) (ha : PA X (e :: es) (rdA X.K S ms)) (hdb : (x == ("__debug__" : Str)) = false := by decide)
    (he : starEach (e :: es) X.env = (false, eval e X.env) :: starEach es X.env := by rfl) (hpl : (backTo pos (starEach es X.env)).any (·.1) = false := by rfl) : PE X (.Call (.Name x p) (e :: es) [] pos) (rdE X.K S (.blt b ms)) :=
  PE.weak (pe_callBfun hc hg hm ha hdb he hpl) fun σ H Q h => rd_N h
end

/-! ### the built-ins -/
section
variable {X : Cx}
theorem atl1 {K : PySem.W.Frag} {pm : Option Addr} {H : Hp} {xs : List V} {d : D} (h : AtL K pm H xs [d]) : ∃ x, xs = [x] ∧ At K pm H x d := by
  match xs, h with
  | [x], h => exact ⟨x, rfl, h.1⟩
  | _ :: _ :: _, h => exact h.2.elim
theorem atl2 {K : PySem.W.Frag} {pm : Option Addr} {H : Hp} {xs : List V} {d e : D} (h : AtL K pm H xs [d, e]) : ∃ x y, xs = [x, y] ∧ At K pm H x d ∧ At K pm H y e := by
  match xs, h with
  | [x], h => exact h.2.elim
  | [x, y], h => exact ⟨x, y, rfl, h.1, h.2.1⟩
  | _ :: _ :: _ :: _, h => exact h.2.2.elim
theorem b_len : CallR X (.builtin "len") (rN X.K (bltD .len)) := by
  intro pins s σ H xs us Q I r h
  obtain ⟨pm, Hf, g, ds, r', ex, m, a, hf, k⟩ := h
  match ds, hf with
  | [.tuple b], hf =>
    obtain ⟨x, rfl, p, ys, rfl, hp, hx⟩ := atl1 a
    cases hf
    exact call_len pins s σ H _ us Q I r ⟨_, ys.length, rfl, .inr ⟨ys, st_of (ex _ _ hp), rfl⟩, k Hf H (Stp.refl ex) m _ (by rw [hx.length]; rfl)⟩
  | [.list b], hf =>
    obtain ⟨x, rfl, p, ys, rfl, hp, hx⟩ := atl1 a
    cases hf
    exact call_len pins s σ H _ us Q I r ⟨_, ys.length, rfl, .inl ⟨ys, sq_of (ex _ _ hp), rfl⟩, k Hf H (Stp.refl ex) m _ (by rw [hx.length]; rfl)⟩
  | [.str b], hf =>
    obtain ⟨x, rfl, hx⟩ := atl1 a
    simp only [bltD] at hf
    split at hf
    · rename_i hl
      cases hf
      cases hx
      exact call_len pins s σ H _ us Q I r ⟨_, b.length, rfl, ⟨hl, rfl⟩, k Hf H (Stp.refl ex) m _ rfl⟩
    · cases hf
theorem b_int : CallR X (.type "int") (rN X.K (bltD .int)) := by
  intro pins s σ H xs us Q I r h
  obtain ⟨pm, Hf, g, ds, r', ex, m, a, hf, k⟩ := h
  match ds, hf with
  | [.int b], hf =>
    obtain ⟨x, rfl, hx⟩ := atl1 a
    cases hf
    exact call_int1 pins s σ H _ us Q I r (.inl ⟨b, by rw [show x = V.int b from hx], k Hf H (Stp.refl ex) m _ rfl⟩)
theorem b_tuple : CallR X (.type "tuple") (rN X.K (bltD .tuple)) := by
  intro pins s σ H xs us Q I r h
  obtain ⟨pm, Hf, g, ds, r', ex, m, a, hf, k⟩ := h
  match ds, hf with
  | [.tuple b], hf =>
    obtain ⟨x, rfl, p, ys, rfl, hp, hx⟩ := atl1 a
    cases hf
    exact call_tuple_of pins s σ H _ us Q I r ⟨p, ys, rfl, .inr ⟨st_of (ex _ _ hp), k Hf H (Stp.refl ex) m _ ⟨p, ys, rfl, hp, hx⟩⟩⟩
  | [.list b], hf =>
    obtain ⟨x, rfl, p, ys, rfl, hp, hx⟩ := atl1 a
    cases hf
    exact call_tuple_of pins s σ H _ us Q I r ⟨p, ys, rfl, .inl ⟨sq_of (ex _ _ hp), new_tup ex m hx k⟩⟩
theorem b_list : CallR X (.type "list") (rN X.K (bltD .list)) := by
  intro pins s σ H xs us Q I r h
  obtain ⟨pm, Hf, g, ds, r', ex, m, a, hf, k⟩ := h
  match ds, hf with
  | [.tuple b], hf =>
    obtain ⟨x, rfl, p, ys, rfl, hp, hx⟩ := atl1 a
    cases hf
    exact call_list_of pins s σ H _ us Q I r ⟨p, ys, rfl, .inr (st_of (ex _ _ hp)), new_lst ex m hx k⟩
  | [.list b], hf =>
    obtain ⟨x, rfl, p, ys, rfl, hp, hx⟩ := atl1 a
    cases hf
    exact call_list_of pins s σ H _ us Q I r ⟨p, ys, rfl, .inl (sq_of (ex _ _ hp)), new_lst ex m hx k⟩
theorem boolsD_at {K : PySem.W.Frag} {pm : Option Addr} {H : Hp} : ∀ {ds : List D} {xs : List V} {bs : List Bool}, AtL K pm H xs ds → boolsD ds = some bs → xs = bs.map V.bl
  | [], [], _, _, e => by cases e; rfl
  | .bool b :: ds, x :: xs, bs, a, e => by
    simp only [boolsD] at e
    cases q : boolsD ds with
    | none => rw [q] at e; cases e
    | some cs =>
      rw [q] at e
      cases e
      rw [List.map_cons, ← boolsD_at a.2 q, show x = V.bl b from a.1]
  | [], _ :: _, _, h, _ => h.elim
  | _ :: _, [], _, h, _ => h.elim
theorem intsD_at {K : PySem.W.Frag} {pm : Option Addr} {H : Hp} : ∀ {ds : List D} {xs : List V} {bs : List Int}, AtL K pm H xs ds → intsD ds = some bs → xs = bs.map V.int
  | [], [], _, _, e => by cases e; rfl
  | .int b :: ds, x :: xs, bs, a, e => by
    simp only [intsD] at e
    cases q : intsD ds with
    | none => rw [q] at e; cases e
    | some cs =>
      rw [q] at e
      cases e
      rw [List.map_cons, ← intsD_at a.2 q, show x = V.int b from a.1]
  | [], _ :: _, _, h, _ => h.elim
  | _ :: _, [], _, h, _ => h.elim
theorem b_all (hc : X.calm = true) : CallR X (.builtin "all") (rN X.K (bltD .all)) := by
  intro pins s σ H xs us Q I r h
  obtain ⟨pm, Hf, g, ds, r', ex, m, a, hf, k⟩ := h
  match ds, hf with
  | [.list b], hf =>
    obtain ⟨x, rfl, p, ys, rfl, hp, hx⟩ := atl1 a
    simp only [bltD] at hf
    cases q : boolsD b with
    | none => rw [q] at hf; cases hf
    | some bs =>
      rw [q] at hf
      cases hf
      rw [boolsD_at hx q] at hp
      exact cr_all hc pins s σ H _ us Q I r ⟨p, bs, rfl, sq_of (ex _ _ hp), k Hf H (Stp.refl ex) m _ rfl⟩
theorem b_any (hc : X.calm = true) : CallR X (.builtin "any") (rN X.K (bltD .any)) := by
  intro pins s σ H xs us Q I r h
  obtain ⟨pm, Hf, g, ds, r', ex, m, a, hf, k⟩ := h
  match ds, hf with
  | [.list b], hf =>
    obtain ⟨x, rfl, p, ys, rfl, hp, hx⟩ := atl1 a
    simp only [bltD] at hf
    cases q : boolsD b with
    | none => rw [q] at hf; cases hf
    | some bs =>
      rw [q] at hf
      cases hf
      rw [boolsD_at hx q] at hp
      exact cr_any hc pins s σ H _ us Q I r ⟨p, bs, rfl, sq_of (ex _ _ hp), k Hf H (Stp.refl ex) m _ rfl⟩
theorem b_gcd : CallR X (.builtin "math.gcd") (rN X.K (bltD .gcd)) := by
  intro pins s σ H xs us Q I r h
  obtain ⟨pm, Hf, g, ds, r', ex, m, a, hf, k⟩ := h
  match ds, hf with
  | [.int b, .int c], hf =>
    obtain ⟨x, y, rfl, hx, hy⟩ := atl2 a
    cases hf
    exact cr_gcd pins s σ H _ us Q I r ⟨b, c, by rw [show x = V.int b from hx, show y = V.int c from hy], k Hf H (Stp.refl ex) m _ rfl⟩
theorem b_abs : CallR X (.builtin "abs") (rN X.K (bltD .abs)) := by
  intro pins s σ H xs us Q I r h
  obtain ⟨pm, Hf, g, ds, r', ex, m, a, hf, k⟩ := h
  match ds, hf with
  | [.int b], hf =>
    obtain ⟨x, rfl, hx⟩ := atl1 a
    cases hf
    exact call_abs pins s σ H _ us Q I r ⟨b, by rw [show x = V.int b from hx], k Hf H (Stp.refl ex) m _ rfl⟩
theorem b_max2 (hc : X.calm = true) : CallR X (.builtin "max") (rN X.K (bltD .max2)) := by
  intro pins s σ H xs us Q I r h
  obtain ⟨pm, Hf, g, ds, r', ex, m, a, hf, k⟩ := h
  match ds, hf with
  | [.int b, .int c], hf =>
    obtain ⟨x, y, rfl, hx, hy⟩ := atl2 a
    cases hf
    exact call_max2 hc pins s σ H _ us Q I r ⟨b, c, by rw [show x = V.int b from hx, show y = V.int c from hy], k Hf H (Stp.refl ex) m _ rfl⟩
theorem b_min2 (hc : X.calm = true) : CallR X (.builtin "min") (rN X.K (bltD .min2)) := by
  intro pins s σ H xs us Q I r h
  obtain ⟨pm, Hf, g, ds, r', ex, m, a, hf, k⟩ := h
  match ds, hf with
  | [.int b, .int c], hf =>
    obtain ⟨x, y, rfl, hx, hy⟩ := atl2 a
    cases hf
    exact call_min2 hc pins s σ H _ us Q I r ⟨b, c, by rw [show x = V.int b from hx, show y = V.int c from hy], k Hf H (Stp.refl ex) m _ rfl⟩
theorem foldl_min_le : ∀ (l : List Int) (i : Int), l.foldl min i ≤ i ∧ (∀ y ∈ l, l.foldl min i ≤ y) ∧ (l.foldl min i = i ∨ l.foldl min i ∈ l)
  | [], i => ⟨Int.le_refl _, (fun y h => by cases h), .inl rfl⟩
  | x :: l, i => by
    obtain ⟨h1, h2, h3⟩ := foldl_min_le l (min i x)
    rw [List.foldl_cons]
    refine ⟨by omega, fun y hy => ?_, ?_⟩
    · rcases List.mem_cons.mp hy with rfl | hy
      · omega
      · exact h2 y hy
    · rcases h3 with h3 | h3
      · rw [h3]
        by_cases z : i ≤ x
        · left; omega
        · right; rw [show min i x = x by omega]; exact List.mem_cons_self
      · right; exact List.mem_cons_of_mem _ h3
theorem b_min1 (hc : X.calm = true) : CallR X (.builtin "min") (rN X.K (bltD .min1)) := by
  intro pins s σ H xs us Q I r h
  obtain ⟨pm, Hf, g, ds, r', ex, m, a, hf, k⟩ := h
  match ds, hf with
  | [.list b], hf =>
    obtain ⟨x, rfl, p, ys, rfl, hp, hx⟩ := atl1 a
    simp only [bltD] at hf
    cases q : intsD b with
    | none => rw [q] at hf; cases hf
    | some is =>
      rw [q] at hf
      cases is with
      | nil => cases hf
      | cons i is =>
        cases hf
        rw [intsD_at hx q] at hp
        refine cr_min hc pins s σ H _ us Q I r ⟨p, i :: is, rfl, sq_of (ex _ _ hp), by simp, fun w hw hl => ?_⟩
        have e : w = is.foldl min i := by
          obtain ⟨h1, h2, h3⟩ := foldl_min_le is i
          have l1 : is.foldl min i ≤ w := by
            rcases List.mem_cons.mp hw with rfl | hw
            · exact h1
            · exact h2 _ hw
          have l2 : w ≤ is.foldl min i := by
            rcases h3 with h3 | h3
            · rw [h3]; exact hl _ List.mem_cons_self
            · exact hl _ (List.mem_cons_of_mem _ h3)
          omega
        rw [e]
        exact k Hf H (Stp.refl ex) m _ rfl
theorem b_sum (hc : X.calm = true) : CallR X (.builtin "sum") (rN X.K (bltD .sum)) := by
  intro pins s σ H xs us Q I r h
  obtain ⟨pm, Hf, g, ds, r', ex, m, a, hf, k⟩ := h
  match ds, hf with
  | [.list b], hf =>
    obtain ⟨x, rfl, p, ys, rfl, hp, hx⟩ := atl1 a
    simp only [bltD] at hf
    cases q : intsD b with
    | none => rw [q] at hf; cases hf
    | some is =>
      rw [q] at hf
      cases hf
      rw [intsD_at hx q] at hp
      exact cr_sum hc pins s σ H _ us Q I r ⟨p, is, rfl, sq_of (ex _ _ hp), k Hf H (Stp.refl ex) m _ rfl⟩
end
end Mini

set_option maxRecDepth 100000
set_option maxHeartbeats 4000000
namespace Mini
open PySem L2 Evl

/-! ### isinstance -/
def tyN : TY → String
  | .int => "int"
  | .bool => "bool"
  | .str => "str"
  | .tuple => "tuple"
  | .list => "list"
def dTy : D → String
  | .none => "NoneType"
  | .bool _ => "bool"
  | .int _ => "int"
  | .str _ => "str"
  | .tuple _ => "tuple"
  | .list _ => "list"
  | .dict _ => "dict"
theorem kit_none (t : TY) : kitB "NoneType" (tyN t) = some false := by cases t <;> decide +kernel
theorem kit_bool (t : TY) : kitB "bool" (tyN t) = some (isiD t (.bool true)) := by cases t <;> decide +kernel
theorem kit_int (t : TY) : kitB "int" (tyN t) = some (isiD t (.int 0)) := by cases t <;> decide +kernel
theorem kit_str (t : TY) : kitB "str" (tyN t) = some (isiD t (.str (Str.ofString ""))) := by cases t <;> decide +kernel
theorem kit_tuple (t : TY) : kitB "tuple" (tyN t) = some (isiD t (.tuple [])) := by cases t <;> decide +kernel
theorem kit_list (t : TY) : kitB "list" (tyN t) = some (isiD t (.list [])) := by cases t <;> decide +kernel
theorem kit_D (t : TY) : ∀ d : D, nod d = true → kitB (dTy d) (tyN t) = some (isiD t d)
  | .none, _ => by rw [show dTy .none = "NoneType" from rfl, kit_none]; cases t <;> rfl
  | .bool b, _ => by rw [show dTy (.bool b) = "bool" from rfl, kit_bool]; cases t <;> rfl
  | .int b, _ => by rw [show dTy (.int b) = "int" from rfl, kit_int]; cases t <;> rfl
  | .str b, _ => by rw [show dTy (.str b) = "str" from rfl, kit_str]; cases t <;> rfl
  | .tuple b, _ => by rw [show dTy (.tuple b) = "tuple" from rfl, kit_tuple]; cases t <;> rfl
  | .list b, _ => by rw [show dTy (.list b) = "list" from rfl, kit_list]; cases t <;> rfl
  | .dict b, h => by simp [nod] at h
section
variable {X : Cx} {S : Sg} {pos : Pos}
theorem tyx_of {K : PySem.W.Frag} {pm : Option Addr} {H : Hp} {d : D} {x : V} (h : At K pm H x d) (n : nod d = true) : TyX K H x (.type (dTy d)) := by
  cases d with
  | none => cases h; exact .base .non
  | bool b => cases h; exact .base (.bl _)
  | int b => cases h; exact .base (.int _)
  | str b => cases h; exact .base (.str _)
  | list b => obtain ⟨_, _, rfl, e, _⟩ := h; exact .base (.lst e)
  | tuple b => obtain ⟨_, _, rfl, e, _⟩ := h; exact .base (.tup e)
  | dict b => simp [nod] at n
theorem m_isi (t : TY) {x : Str} {a : Expr} {p p2 : Pos} {ma : ME} (ha : PE X a (rdE X.K S ma)) (hg : Gl X "isinstance") (hm : X.mg "isinstance" = none) (hx : x = Str.ofString (tyN t)) (hg2 : Gl X x) (hm2 : X.mg x = none)
    (he : starEach [a, .Name x p2] X.env = (false, eval a X.env) :: starEach [.Name x p2] X.env := by rfl) (hpl : (backTo pos (starEach [.Name x p2] X.env)).any (·.1) = false := by rfl) :
    PE X (.Call (.Name "isinstance" p) [a, .Name x p2] [] pos) (rdE X.K S (.isi t ma)) := by
  have hb : bootBuiltins x = some (.type (tyN t)) := by rw [hx]; cases t <;> decide +kernel
  have h1 : x ≠ "__name__" := by rw [hx]; cases t <;> decide +kernel
  have h2 : (x == ("__debug__" : Str)) = false := by rw [hx]; cases t <;> decide +kernel
  refine PE.weak (pe_callB (r := rIsi X.K) (t := tCons (rdE X.K S ma) (tCons (tC (.ty (tyN t))) tNil)) call_isi hg hm (by decide +kernel) (pa_cons ha (pa_cons (pe_bltn hg2 hm2 hb rfl h1 h2) pa_nil) he) (by decide +kernel) (by decide +kernel) he hpl) fun σ H Q h => ?_
  obtain ⟨pm, ρ, g, Hf, rel, h⟩ := h
  simp only [evE] at h
  refine ⟨pm, ρ, g, Hf, rel, (Post.bind h).mono fun d g1 Hf1 H1 s1 m1 h1 v a1 => ?_⟩
  split at h1
  · rename_i hn
    exact ⟨v, .ty (tyN t), .type (dTy d), .type (tyN t), isiD t d, rfl, .ty _, tyx_of (At.mono s1.fh d v a1) hn, kit_ty (kit_D t d hn), h1 Hf1 H1 (Stp.refl s1.fh) m1 _ rfl⟩
  · exact h1.elim

/-! ### m's entries -/
theorem valV_at {κ : Type} [DecidableEq κ] {K : PySem.W.Frag} {pm : Option Addr} {H : Hp} {k : κ} : ∀ {kvs : List (κ × V)} {kds : List (κ × D)}, kvs.map (·.1) = kds.map (·.1) → AtL K pm H (kvs.map (·.2)) (kds.map (·.2)) →
    (∀ d, lookD kds k = some d → ∃ v, valV kvs k = some v ∧ At K pm H v d) ∧ (lookD kds k = none → valV kvs k = none)
  | [], [], _, _ => ⟨(fun d e => by cases e), fun _ => rfl⟩
  | [], _ :: _, e, _ => by cases e
  | _ :: _, [], e, _ => by cases e
  | (k1, v1) :: kvs, (k2, d2) :: kds, e, a => by
    rw [List.map_cons, List.map_cons] at e
    injection e with e1 e2
    have e1 : k1 = k2 := e1
    subst e1
    obtain ⟨i1, i2⟩ := valV_at (k := k) e2 a.2
    by_cases z : k1 = k
    · have ez : lookD ((k1, d2) :: kds) k = some d2 := by simp [lookD, List.find?_cons, z]
      rw [ez]
      refine ⟨fun d q => ?_, fun q => by cases q⟩
      cases q
      exact ⟨v1, valV_pos z, a.1⟩
    · have ez : lookD ((k1, d2) :: kds) k = lookD kds k := by simp [lookD, List.find?_cons, z]
      rw [ez, valV_neg (p := (k1, v1)) z]
      exact ⟨i1, i2⟩
theorem lookD_inr (k : Str) : ∀ (g : G), lookD (g.map (fun x => ((Sum.inr x.1 : Key), x.2))) (Sum.inr k) = lookD g k
  | [] => rfl
  | (k1, d1) :: g => by
    have ih := lookD_inr k g
    by_cases z : k1 = k
    · simp [lookD, List.find?_cons, z]
    · have zz : ¬ (Sum.inr k1 : Key) = Sum.inr k := fun q => z (Sum.inr.inj q)
      unfold lookD at ih ⊢
      simp only [List.map_cons, List.find?_cons, decide_eq_false z, decide_eq_false zz]
      exact ih
theorem putD_at {κ : Type} [DecidableEq κ] {K : PySem.W.Frag} {pm : Option Addr} {H : Hp} {k : κ} {v : V} {d : D} {kvs : List (κ × V)} {kds : List (κ × D)} (e : kvs.map (·.1) = kds.map (·.1)) (a : AtL K pm H (kvs.map (·.2)) (kds.map (·.2))) (h : At K pm H v d) :
    (L2.putK kvs k v).map (·.1) = (putD kds k d).map (·.1) ∧ AtL K pm H ((L2.putK kvs k v).map (·.2)) ((putD kds k d).map (·.2)) := by
  have an : ∀ (kvs : List (κ × V)) (kds : List (κ × D)), kvs.map (·.1) = kds.map (·.1) → (kvs.any fun kv => decide (kv.1 = k)) = (kds.any fun kv => decide (kv.1 = k)) := fun kvs kds e => by
    have h1 : (kvs.any fun kv => decide (kv.1 = k)) = (kvs.map (·.1)).any fun z => decide (z = k) := by rw [List.any_map]; rfl
    have h2 : (kds.any fun kv => decide (kv.1 = k)) = (kds.map (·.1)).any fun z => decide (z = k) := by rw [List.any_map]; rfl
    rw [h1, h2, e]
  unfold L2.putK putD
  rw [an kvs kds e]
  split
  · have m : ∀ (kvs : List (κ × V)) (kds : List (κ × D)), kvs.map (·.1) = kds.map (·.1) → AtL K pm H (kvs.map (·.2)) (kds.map (·.2)) →
        (kvs.map (fun kv => if kv.1 = k then (kv.1, v) else kv)).map (·.1) = (kds.map (fun kv => if kv.1 = k then (kv.1, d) else kv)).map (·.1) ∧
        AtL K pm H ((kvs.map (fun kv => if kv.1 = k then (kv.1, v) else kv)).map (·.2)) ((kds.map (fun kv => if kv.1 = k then (kv.1, d) else kv)).map (·.2)) := by
      intro kvs
      induction kvs with
      | nil => intro kds e a; cases kds with
        | nil => exact ⟨rfl, trivial⟩
        | cons _ _ => cases e
      | cons p kvs ih => intro kds e a; cases kds with
        | nil => cases e
        | cons q kds =>
          rw [List.map_cons, List.map_cons] at e
          injection e with e1 e2
          obtain ⟨i1, i2⟩ := ih kds e2 a.2
          by_cases z : p.1 = k
          · have z2 : q.1 = k := e1 ▸ z
            simp only [List.map_cons, z, z2, if_true]
            exact ⟨by rw [i1], h, i2⟩
          · have z2 : ¬ q.1 = k := fun w => z (e1.trans w)
            simp only [List.map_cons, if_neg z, if_neg z2]
            exact ⟨by rw [i1, e1], a.1, i2⟩
    exact m kvs kds e a
  · rw [List.map_append, List.map_append, List.map_append, List.map_append, e]
    exact ⟨rfl, AtL.append a ⟨h, trivial⟩⟩
theorem m_mget {a : Expr} {k : Str} {j : Nat} {p2 : Pos} {ma : ME} (hu : X.A.units + 1 < cLine) (ha : PE X a (rdE X.K S ma)) : PE X (.Subscript a (.Constant (.str k) j p2) pos) (rdE X.K S (.mget ma k)) :=
  PE.weak (pe_dget hu ha pe_str (fun _ _ => rfl)) fun σ H Q h => by
    obtain ⟨pm, ρ, g, Hf, rel, h⟩ := h
    simp only [evE] at h
    refine ⟨pm, ρ, g, Hf, rel, (Post.bind h).mono fun d g1 Hf1 H1 s1 m1 h1 v a1 => ?_⟩
    show ∃ a v', v = .ref a ∧ DGet H1 a (.str k) (some v') ∧ Q v' H1
    split at h1
    · obtain ⟨_, p, hp, rfl⟩ := a1
      subst hp
      cases q : lookD g1 k with
      | none => rw [q] at h1; exact h1.elim
      | some r =>
        rw [q] at h1
        obtain ⟨_, kvs, m2, m3, m4⟩ := id m1.m0
        have e3 : kvs.map (·.1) = (g1.map (fun x => ((Sum.inr x.1 : Key), x.2))).map (·.1) := by rw [m3, List.map_map]; rfl
        have e4 : (g1.map (fun x => ((Sum.inr x.1 : Key), x.2))).map (·.2) = g1.map (·.2) := by rw [List.map_map]; rfl
        obtain ⟨v', q1, q2⟩ := (valV_at (k := (Sum.inr k : Key)) e3 (by rw [e4]; exact m4)).1 r (by rw [lookD_inr]; exact q)
        have dg : DGet H1 p (kV (Sum.inr k)) (valV kvs (Sum.inr k)) := DGet.k m2
        rw [q1] at dg
        exact ⟨p, v', rfl, dg, h1 Hf1 H1 (Stp.refl s1.fh) m1 v' q2⟩
    · exact h1.elim

/-! ### dicts of one's own, with tuple keys -/
theorem keyOf_at {K : PySem.W.Frag} {pm : Option Addr} {H : Hp} : ∀ {ds : List D} {xs : List V} {k : List Key}, AtL K pm H xs ds → keyOf ds = some k → xs = k.map kV
  | [], [], _, _, e => by cases e; rfl
  | .int i :: ds, x :: xs, k, a, e => by
    simp only [keyOf] at e
    cases q : keyOf ds with
    | none => rw [q] at e; cases e
    | some r =>
      rw [q] at e
      cases e
      rw [List.map_cons, ← keyOf_at a.2 q, show x = V.int i from a.1]; rfl
  | .str i :: ds, x :: xs, k, a, e => by
    simp only [keyOf] at e
    cases q : keyOf ds with
    | none => rw [q] at e; cases e
    | some r =>
      rw [q] at e
      cases e
      rw [List.map_cons, ← keyOf_at a.2 q, show x = V.str i from a.1]; rfl
  | [], _ :: _, _, h, _ => h.elim
  | _ :: _, [], _, h, _ => h.elim
theorem asKey_at {K : PySem.W.Frag} {pm : Option Addr} {H : Hp} {d : D} {x : V} {k : List Key} (h : At K pm H x d) (e : asKey d = some k) : ∃ b, x = .ref b ∧ H b = some (.tup (k.map kV)) := by
  cases d <;> (try (simp only [asKey, reduceCtorEq] at e; done))
  case tuple ds =>
    obtain ⟨b, xs, rfl, hb, hx⟩ := h
    rw [keyOf_at hx e] at hb
    exact ⟨b, rfl, hb⟩
theorem ownD_at {K : PySem.W.Frag} {pm : Option Addr} {σ : St} {ρ : Env1} {g : G} {Hf H : Hp} {i : Nat} {kvs : List (List Key × D)} (r : Rel K pm σ ρ g Hf H) (e : ρ[i]? = some (some (.ownD kvs))) :
    ∃ (p : Addr) (kws : List (List Key × V)), σ[i]? = some (some (.ref p)) ∧ pm ≠ some p ∧ Hf p = none ∧ H p = some (.dT kws) ∧ kws.map (·.1) = kvs.map (·.1) ∧ AtL K pm Hf (kws.map (·.2)) (kvs.map (·.2)) := by
  obtain ⟨v, h1, p, kws, rfl, h2⟩ := r.ent i _ e
  exact ⟨p, kws, h1, h2⟩
theorem m_dget (i : Nat) {x : Str} {e f : Expr} {px apos : Pos} {me mf : ME} (hu : X.A.units + 1 < cLine) (ho : PE X (.Name x px) (tVar i)) (he : PE X e (rdE X.K S me)) (hf : PE X f (rdE X.K S mf)) (m : M2 X (.Name x px) "get" apos e f pos := by exact ⟨rfl, rfl, rfl, rfl⟩) :
    PE X (.Call (.Attribute (.Name x px) "get" apos) [e, f] [] pos) (rdE X.K S (.dget i me mf)) := PE.weak (pe_dget2 hu ho he hf m) fun σ H Q h => by
  obtain ⟨pm, ρ, g, Hf, rel, h⟩ := h
  simp only [evE] at h
  split at h
  · rename_i kvs hρ
    obtain ⟨p, kws, hσ, n1, n2, hp, hk, ha⟩ := ownD_at rel hρ
    refine ⟨.ref p, hσ, p, rfl, .inr ⟨kws, .inl hp⟩, pm, ρ, g, Hf, rel, (Post.bind h).mono fun d g1 Hf1 H1 s1 m1 h1 v a1 => ?_⟩
    refine ⟨pm, ρ, g1, Hf1, rel.step s1 m1, (Post.bind h1).mono fun d2 g2 Hf2 H2 s2 m2 h2 v2 a2 => ?_⟩
    cases q : asKey d with
    | none => rw [q] at h2; exact h2.elim
    | some k =>
      rw [q] at h2
      have s12 := s1.trans s2
      obtain ⟨b, rfl, hb⟩ := asKey_at a1 q
      have hp2 : H2 p = some (.dT kws) := s12.hh p _ n1 (fun _ z => by cases z) hp
      obtain ⟨l1, l2⟩ := valV_at (k := k) hk (AtL.mono s12.ff _ _ ha)
      refine ⟨valV kws k, DGet.t hp2 (s2.fh _ _ (s2.ff _ _ hb)), ?_⟩
      cases w : lookD kvs k with
      | none =>
        rw [l2 w]
        simp only [R.of_some, R.bind_ok, w] at h2
        exact h2 Hf2 H2 (Stp.refl s2.fh) m2 _ a2
      | some r =>
        obtain ⟨v3, w1, w2⟩ := l1 r w
        rw [w1]
        simp only [R.of_some, R.bind_ok, w] at h2
        exact h2 Hf2 H2 (Stp.refl s2.fh) m2 _ w2
  · exact h.elim
theorem m_dix (i : Nat) {x : Str} {e : Expr} {px : Pos} {me : ME} (hu : X.A.units + 1 < cLine) (ho : PE X (.Name x px) (tVar i)) (he : PE X e (rdE X.K S me)) (hs : NoSl e := by exact fun _ _ => rfl) :
    PE X (.Subscript (.Name x px) e pos) (rdE X.K S (.dix i me)) := PE.weak (pe_dget hu ho he hs) fun σ H Q h => by
  obtain ⟨pm, ρ, g, Hf, rel, h⟩ := h
  simp only [evE] at h
  split at h
  · rename_i kvs hρ
    obtain ⟨p, kws, hσ, n1, n2, hp, hk, ha⟩ := ownD_at rel hρ
    refine ⟨.ref p, hσ, pm, ρ, g, Hf, rel, (Post.bind h).mono fun d g1 Hf1 H1 s1 m1 h1 v a1 => ?_⟩
    cases q : asKey d with
    | none => rw [q] at h1; exact h1.elim
    | some k =>
      rw [q] at h1
      obtain ⟨b, rfl, hb⟩ := asKey_at a1 q
      have hp2 : H1 p = some (.dT kws) := s1.hh p _ n1 (fun _ z => by cases z) hp
      obtain ⟨l1, l2⟩ := valV_at (k := k) hk (AtL.mono s1.ff _ _ ha)
      cases w : lookD kvs k with
      | none =>
        simp only [R.of_some, R.bind_ok, w] at h1
        exact h1.elim
      | some r =>
        obtain ⟨v3, w1, w2⟩ := l1 r w
        simp only [R.of_some, R.bind_ok, w] at h1
        have dg := DGet.t (k := k) hp2 (s1.fh _ _ hb)
        rw [w1] at dg
        exact ⟨p, v3, rfl, dg, h1 Hf1 H1 (Stp.refl s1.fh) m1 _ w2⟩
  · rename_i kvs hρ
    obtain ⟨v0, hσ, p, o, kws, rfl, hp, hk, ha⟩ := rel.ent i _ hρ
    refine ⟨.ref p, hσ, pm, ρ, g, Hf, rel, (Post.bind h).mono fun d g1 Hf1 H1 s1 m1 h1 v a1 => ?_⟩
    cases q : asKey d with
    | none => rw [q] at h1; exact h1.elim
    | some k =>
      rw [q] at h1
      obtain ⟨b, rfl, hb⟩ := asKey_at a1 q
      have hp2 : H1 p = some (.frz o (.dT kws)) := s1.fh _ _ (s1.ff _ _ hp)
      obtain ⟨l1, l2⟩ := valV_at (k := k) hk (AtL.mono s1.ff _ _ ha)
      cases w : lookD kvs k with
      | none =>
        simp only [R.of_some, R.bind_ok, w] at h1
        exact h1.elim
      | some r =>
        obtain ⟨v3, w1, w2⟩ := l1 r w
        simp only [R.of_some, R.bind_ok, w] at h1
        have dg : DGet H1 p (.ref b) (valV kws k) := .inr ⟨kws, k, b, .inr ⟨o, hp2⟩, rfl, s1.fh _ _ hb, rfl⟩
        rw [w1] at dg
        exact ⟨p, v3, rfl, dg, h1 Hf1 H1 (Stp.refl s1.fh) m1 _ w2⟩
  · exact h.elim
end
end Mini

set_option maxRecDepth 100000
set_option maxHeartbeats 4000000
namespace Mini
open PySem L2 Evl

/-! ### lent lists -/
section
variable {K : PySem.W.Frag}
mutual
theorem At.free {pm pm' : Option Addr} {H : Hp} : ∀ (d : D) (v : V), nod d = true → At K pm H v d → At K pm' H v d
  | .none, _, _, h => h
  | .bool _, _, _, h => h
  | .int _, _, _, h => h
  | .str _, _, _, h => h
  | .tuple ds, _, n, h => by
    obtain ⟨a, xs, r, h1, h2⟩ := h
    exact ⟨a, xs, r, h1, AtL.free ds xs (by simpa [nod] using n) h2⟩
  | .list ds, _, n, h => by
    obtain ⟨a, xs, r, h1, h2⟩ := h
    exact ⟨a, xs, r, h1, AtL.free ds xs (by simpa [nod] using n) h2⟩
  | .dict _, _, n, _ => by simp [nod] at n
theorem AtL.free {pm pm' : Option Addr} {H : Hp} : ∀ (ds : List D) (vs : List V), nodL ds = true → AtL K pm H vs ds → AtL K pm' H vs ds
  | [], [], _, h => h
  | d :: ds, v :: vs, n, h => by
    have n' : nod d = true ∧ nodL ds = true := by simpa [nodL] using n
    exact ⟨At.free d v n'.1 h.1, AtL.free ds vs n'.2 h.2⟩
  | [], _ :: _, _, h => h
  | _ :: _, [], _, h => h
end
end
section
variable {X : Cx} {S : Sg} {pos : Pos}
/-! ### targets -/
def gD (K : PySem.W.Frag) : MT → TG
  | .nm i => gName i
  | .tp is => gTup K is.length (is.foldr (fun i t => gCons (gName i) t) gNil)
theorem pg_nm {i : Nat} {x : Str} (h : PG X (.Name x pos) (gName i)) : PG X (.Name x pos) (gD X.K (.nm i)) := h
theorem setAll_ok {K : PySem.W.Frag} {pm : Option Addr} {Hf H : Hp} : ∀ (is : List Nat) (ds : List D) (vs : List V) (ρ ρ' : Env1) (σ : St) (Q : St → Hp → Prop), setAll is ds ρ = some ρ' → AtL K pm Hf vs ds → σ.length = ρ.length →
    (∀ σ', σ'.length = ρ'.length → (∀ j, j ∉ is → σ'[j]? = σ[j]? ∧ ρ'[j]? = ρ[j]?) → (∀ (j : Nat), j ∈ is → j < ρ.length → ∃ v d, σ'[j]? = some (some v) ∧ ρ'[j]? = some (some (.frz d)) ∧ At K pm Hf v d) → Q σ' H) →
    (is.foldr (fun i t => gCons (gName i) t) gNil) vs σ H Q
  | [], [], [], ρ, ρ', σ, Q, e, _, hl, k => by
    cases e
    exact ⟨rfl, k σ hl (fun j _ => ⟨rfl, rfl⟩) (fun j hj => by cases hj)⟩
  | i :: is, d :: ds, v :: vs, ρ, ρ', σ, Q, e, a, hl, k => by
    refine ⟨v, vs, rfl, ?_⟩
    show (is.foldr (fun i t => gCons (gName i) t) gNil) vs (σ.set i (some v)) H Q
    refine setAll_ok is ds vs (ρ.set i (some (.frz d))) ρ' (σ.set i (some v)) Q e a.2 (by rw [List.length_set, List.length_set]; exact hl) fun σ' h1 h2 h3 => k σ' h1 (fun j hj => ?_) fun j hj hlt => ?_
    · rw [List.mem_cons, not_or] at hj
      obtain ⟨q1, q2⟩ := h2 j hj.2
      rw [List.getElem?_set_ne (fun z => hj.1 z.symm)] at q1 q2
      exact ⟨q1, q2⟩
    · by_cases hm : j ∈ is
      · exact h3 j hm (by rw [List.length_set]; exact hlt)
      · have hji : j = i := by
          rcases List.mem_cons.mp hj with z | z
          · exact z
          · exact absurd z hm
        subst hji
        obtain ⟨q1, q2⟩ := h2 j hm
        rw [List.getElem?_set_self (by rw [hl]; exact hlt)] at q1
        rw [List.getElem?_set_self hlt] at q2
        exact ⟨v, d, q1, q2, a.1⟩
  | [], _ :: _, _, _, _, _, _, e, _, _, _ => by cases e
  | _ :: _, [], _, _, _, _, _, e, _, _, _ => by cases e
  | _, [], _ :: _, _, _, _, _, _, a, _, _ => a.elim
  | _, _ :: _, [], _, _, _, _, _, a, _, _ => a.elim
/-- a slot is stored to: what it held is forgotten -/
theorem Rel.put {K : PySem.W.Frag} {pm : Option Addr} {σ σ' : St} {ρ ρ' : Env1} {g : G} {Hf H : Hp} (r : Rel K pm σ ρ g Hf H) (is : List Nat) (hl : σ'.length = ρ'.length) (h2 : ∀ j, j ∉ is → σ'[j]? = σ[j]? ∧ ρ'[j]? = ρ[j]?)
    (h3 : ∀ (j : Nat), j ∈ is → j < ρ.length → ∃ v d, σ'[j]? = some (some v) ∧ ρ'[j]? = some (some (.frz d)) ∧ At K pm Hf v d) (hll : ρ'.length = ρ.length) : Rel K pm σ' ρ' g Hf H := by
  have old : ∀ (j : Nat) (e : Ent), ρ'[j]? = some (some e) → isOwn e = true → j ∉ is := fun j e q o hm => by
    have hlt : j < ρ.length := by rw [← hll]; exact (List.getElem?_eq_some_iff.mp q).1
    obtain ⟨v, d, _, q2, _⟩ := h3 j hm hlt
    rw [q] at q2; cases q2
    cases o
  refine ⟨r.ex, r.mat, hl, fun j e q => ?_, fun i j e e' v ne qi qj oi oj si sj => ?_⟩
  · by_cases hm : j ∈ is
    · have hlt : j < ρ.length := by rw [← hll]; exact (List.getElem?_eq_some_iff.mp q).1
      obtain ⟨v, d, q1, q2, q3⟩ := h3 j hm hlt
      rw [q] at q2; cases q2
      exact ⟨v, q1, q3⟩
    · obtain ⟨q1, q2⟩ := h2 j hm
      rw [q2] at q
      obtain ⟨v, w1, w2⟩ := r.ent j e q
      exact ⟨v, by rw [q1]; exact w1, w2⟩
  · obtain ⟨a1, a2⟩ := h2 i (old i e qi oi)
    obtain ⟨b1, b2⟩ := h2 j (old j e' qj oj)
    rw [a2] at qi; rw [b2] at qj; rw [a1] at si; rw [b1] at sj
    exact r.dis i j e e' v ne qi qj oi oj si sj
theorem setAll_len : ∀ {is : List Nat} {ds : List D} {ρ ρ' : Env1}, setAll is ds ρ = some ρ' → ρ'.length = ρ.length
  | [], [], _, _, e => by cases e; rfl
  | i :: is, d :: ds, ρ, ρ', e => by
    have := setAll_len (is := is) (ds := ds) e
    rw [this, List.length_set]
  | [], _ :: _, _, _, e => by cases e
  | _ :: _, [], _, _, e => by cases e
def tgt : MT → List Nat
  | .nm i => [i]
  | .tp is => is
theorem setT_len {t : MT} {d : D} {ρ ρ' : Env1} (e : setT t d ρ = some ρ') : ρ'.length = ρ.length := by
  cases t with
  | nm i => cases e; rw [List.length_set]
  | tp is =>
    cases d <;> (try (simp only [setT, reduceCtorEq] at e; done))
    exact setAll_len e
/-- a target takes a value -/
theorem setT_ok {K : PySem.W.Frag} {pm : Option Addr} {g : G} {Hf H : Hp} {t : MT} {d : D} {v : V} {ρ ρ' : Env1} {σ : St} {Q : St → Hp → Prop} (e : setT t d ρ = some ρ') (r : Rel K pm σ ρ g Hf H) (a : At K pm Hf v d)
    (k : ∀ σ', Rel K pm σ' ρ' g Hf H → (∀ j, j ∉ tgt t → σ'[j]? = σ[j]? ∧ ρ'[j]? = ρ[j]?) → (∀ (j : Nat) (e : Ent), ρ'[j]? = some (some e) → isOwn e = true → σ'[j]? = σ[j]? ∧ ρ'[j]? = ρ[j]?) → Q σ' H) : gD K t v σ H Q := by
  have own : ∀ {is : List Nat} {σ' : St}, (∀ j, j ∉ is → σ'[j]? = σ[j]? ∧ ρ'[j]? = ρ[j]?) → (∀ (j : Nat), j ∈ is → j < ρ.length → ∃ v d, σ'[j]? = some (some v) ∧ ρ'[j]? = some (some (.frz d)) ∧ At K pm Hf v d) →
      ∀ (j : Nat) (e : Ent), ρ'[j]? = some (some e) → isOwn e = true → σ'[j]? = σ[j]? ∧ ρ'[j]? = ρ[j]? := fun {is σ'} h2 h3 j e' q o => by
    by_cases hm : j ∈ is
    · have hlt : j < ρ.length := by rw [← setT_len e]; exact (List.getElem?_eq_some_iff.mp q).1
      obtain ⟨v, d, _, q2, _⟩ := h3 j hm hlt
      rw [q] at q2; cases q2
      cases o
    · exact h2 j hm
  cases t with
  | nm i =>
    cases e
    show Q (σ.set i (some v)) H
    have h2 : ∀ j, j ∉ [i] → (σ.set i (some v))[j]? = σ[j]? ∧ (ρ.set i (some (.frz d)))[j]? = ρ[j]? := fun j hj => by
      have ne : i ≠ j := fun z => hj (by rw [z]; exact List.mem_singleton.mpr rfl)
      exact ⟨List.getElem?_set_ne ne, List.getElem?_set_ne ne⟩
    have h3 : ∀ (j : Nat), j ∈ [i] → j < ρ.length → ∃ v' d', (σ.set i (some v))[j]? = some (some v') ∧ (ρ.set i (some (.frz d)))[j]? = some (some (.frz d')) ∧ At K pm Hf v' d' := fun j hj hlt => by
      have e := List.mem_singleton.mp hj
      subst e
      exact ⟨v, d, List.getElem?_set_self (by rw [r.len]; exact hlt), List.getElem?_set_self hlt, a⟩
    exact k _ (r.put [i] (by rw [List.length_set, List.length_set]; exact r.len) h2 h3 (List.length_set ..)) h2 (own h2 h3)
  | tp is =>
    cases d <;> (try (simp only [setT, reduceCtorEq] at e; done))
    rename_i ds
    obtain ⟨p, xs, rfl, hp, hx⟩ := a
    have hlen : ∀ {is : List Nat} {ds : List D} {ρ ρ' : Env1}, setAll is ds ρ = some ρ' → ds.length = is.length := by
      intro is
      induction is with
      | nil => intro ds ρ ρ' e; cases ds with
        | nil => rfl
        | cons _ _ => cases e
      | cons i is ih => intro ds ρ ρ' e; cases ds with
        | nil => cases e
        | cons d ds => rw [List.length_cons, List.length_cons, ih (ds := ds) e]
    refine ⟨p, xs, rfl, st_of (r.ex _ _ hp), by rw [hx.length]; exact hlen e, ?_⟩
    exact setAll_ok is ds xs ρ ρ' σ Q e hx r.len fun σ' h1 h2 h3 => k σ' (r.put is h1 h2 h3 (setAll_len e)) h2 (own h2 h3)

/-! ### what is walked -/
structure IterOk (K : PySem.W.Frag) (pm : Option Addr) (Hf : Hp) (J : It) (ds : List D) : Prop where
  go : ∀ i Hf' H', Ex Hf Hf' → Ex Hf' H' → i < ds.length → J.go i H'
  stop : ∀ Hf' H', Ex Hf Hf' → Ex Hf' H' → J.stop ds.length H'
  yld : ∀ i Hf' H' x H'' g, Ex Hf Hf' → Ex Hf' H' → MAt K pm g Hf' H' → i < ds.length → J.yld i H' x H'' → ∃ d Hf'', ds[i]? = some d ∧ Stp pm Hf' H' Hf'' H'' ∧ MAt K pm g Hf'' H'' ∧ At K pm Hf'' x d
def rdI (K : PySem.W.Frag) (S : Sg) (e : MI) : TI := fun σ H R => ∃ pm ρ g Hf, Rel K pm σ ρ g Hf H ∧ PostS K S pm Hf H (evI S.call e ρ g) fun ds _ Hf' H' => ∀ J, IterOk K pm Hf' J ds → R J H'
theorem PI.weak {tg e : Expr} {t t' : TI} (h : PI X tg e t) (w : ∀ σ H Q, t' σ H Q → t σ H Q) : PI X tg e t' := ⟨fun pins s σ H Q I q => h.run pins s σ H Q I (w σ H Q q)⟩
theorem iter_list {K : PySem.W.Frag} {pm : Option Addr} {Hf : Hp} {a : Addr} {xs : List V} {ds : List D} (h : Hf a = some (.lst xs)) (hx : AtL K pm Hf xs ds) : IterOk K pm Hf (Itl K a) ds where
  go := fun i Hf' H' e1 e2 hi => by
    have hl : i < xs.length := by rw [hx.length]; exact hi
    exact ⟨xs, xs[i], sq_of (e2 _ _ (e1 _ _ h)), by simp [hl]⟩
  stop := fun Hf' H' e1 e2 => ⟨xs, sq_of (e2 _ _ (e1 _ _ h)), by rw [hx.length]; exact Nat.le_refl _⟩
  yld := fun i Hf' H' x H'' g e1 e2 m hi y => by
    obtain ⟨rfl, y⟩ := y
    obtain ⟨d, q1, q2⟩ := hx.getV (y xs (sq_of (e2 _ _ (e1 _ _ h))))
    exact ⟨d, Hf', q1, Stp.refl e2, m, At.mono e1 d x q2⟩
theorem iter_tup {K : PySem.W.Frag} {pm : Option Addr} {Hf : Hp} {a : Addr} {xs : List V} {ds : List D} (h : Hf a = some (.tup xs)) (hx : AtL K pm Hf xs ds) : IterOk K pm Hf (Itt K a) ds where
  go := fun i Hf' H' e1 e2 hi => by
    have hl : i < xs.length := by rw [hx.length]; exact hi
    exact ⟨xs, xs[i], st_of (e2 _ _ (e1 _ _ h)), by simp [hl]⟩
  stop := fun Hf' H' e1 e2 => ⟨xs, st_of (e2 _ _ (e1 _ _ h)), by rw [hx.length]; exact Nat.le_refl _⟩
  yld := fun i Hf' H' x H'' g e1 e2 m hi y => by
    obtain ⟨rfl, y⟩ := y
    obtain ⟨d, q1, q2⟩ := hx.getV (y xs (st_of (e2 _ _ (e1 _ _ h))))
    exact ⟨d, Hf', q1, Stp.refl e2, m, At.mono e1 d x q2⟩
theorem rngD_get {lo : Int} {n i : Nat} (h : i < n) : (rngD lo n)[i]? = some (.int (lo + (i : Int))) := by
  unfold rngD
  rw [List.getElem?_map, List.getElem?_range h]; rfl
theorem rngD_len {lo : Int} {n : Nat} : (rngD lo n).length = n := by unfold rngD; simp
theorem iter_rng {K : PySem.W.Frag} {pm : Option Addr} {Hf : Hp} {lo : Int} {n : Nat} : IterOk K pm Hf (Itr lo n) (rngD lo n) where
  go := fun i Hf' H' e1 e2 hi => by rw [rngD_len] at hi; exact hi
  stop := fun Hf' H' e1 e2 => by rw [rngD_len]; exact Nat.le_refl n
  yld := fun i Hf' H' x H'' g e1 e2 m hi y => by
    rw [rngD_len] at hi
    obtain ⟨rfl, rfl⟩ := y
    exact ⟨_, Hf', rngD_get hi, Stp.refl e2, m, rfl⟩
theorem zipD_len : ∀ (as bs : List D), (zipD as bs).length = min as.length bs.length
  | [], _ => by simp [zipD]
  | _ :: _, [] => by simp [zipD]
  | a :: as, b :: bs => by
    simp only [zipD, List.length_cons, zipD_len as bs]
    omega
theorem zipD_get : ∀ {as bs : List D} {i : Nat} {a b : D}, as[i]? = some a → bs[i]? = some b → (zipD as bs)[i]? = some (.tuple [a, b])
  | a :: as, b :: bs, 0, _, _, h1, h2 => by simp at h1 h2; subst h1 h2; rfl
  | a :: as, b :: bs, i + 1, _, _, h1, h2 => by
    have := zipD_get (as := as) (bs := bs) (i := i) (by simpa using h1) (by simpa using h2)
    simpa [zipD] using this
  | [], _, _, _, _, h1, _ => by simp at h1
  | _ :: _, [], _, _, _, _, h2 => by simp at h2
theorem iter_zipT {K : PySem.W.Frag} {pm : Option Addr} {Hf : Hp} {a b : Addr} {xs ys : List V} {ds es : List D} (h : Hf a = some (.tup xs)) (hx : AtL K pm Hf xs ds) (h' : Hf b = some (.tup ys)) (hy : AtL K pm Hf ys es) : IterOk K pm Hf (RZ.ItzT K a b) (zipD ds es) where
  go := fun i Hf' H' e1 e2 hi => by
    rw [zipD_len] at hi
    have h1 : i < xs.length := by rw [hx.length]; omega
    have h2 : i < ys.length := by rw [hy.length]; omega
    exact ⟨xs, ys, xs[i], ys[i], st_of (e2 _ _ (e1 _ _ h)), st_of (e2 _ _ (e1 _ _ h')), by simp [h1], by simp [h2]⟩
  stop := fun Hf' H' e1 e2 => ⟨xs, ys, st_of (e2 _ _ (e1 _ _ h)), st_of (e2 _ _ (e1 _ _ h')), by rw [zipD_len, hx.length, hy.length]; omega⟩
  yld := fun i Hf' H' x H'' g e1 e2 m hi y => by
    obtain ⟨T, u, w, rfl, hT, rfl, y1, y2⟩ := y
    obtain ⟨d1, q1, q2⟩ := hx.getV (y1 xs (st_of (e2 _ _ (e1 _ _ h))))
    obtain ⟨d2, r1, r2⟩ := hy.getV (y2 ys (st_of (e2 _ _ (e1 _ _ h'))))
    have en := Ex.new (o := .tup [u, w]) (fresh_back e2 hT)
    exact ⟨_, _, zipD_get q1 r1, Stp.new e2 hT, m.new hT e2, T, _, rfl, upd_same, At.mono (e1.trans en) d1 u q2, At.mono (e1.trans en) d2 w r2, trivial⟩
theorem i_seqL {tg e : Expr} {me : ME} (h : PE X e (rdE X.K S me)) : PI X tg e (rdI X.K S (.seqL me)) := PI.weak (pi_list h) fun σ H Q h => by
  obtain ⟨pm, ρ, g, Hf, rel, h⟩ := h
  simp only [evI] at h
  refine ⟨pm, ρ, g, Hf, rel, (Post.bind h).mono fun d g1 Hf1 H1 s1 m1 h1 v a1 => ?_⟩
  cases d with
  | list xs =>
    obtain ⟨p, vs, rfl, hp, hv⟩ := a1
    exact ⟨p, rfl, ⟨vs, sq_of (s1.fh _ _ hp)⟩, Post.now h1 s1.fh m1 _ (iter_list hp hv)⟩
  | _ => exact h1.elim
theorem i_seqT {tg e : Expr} {me : ME} (h : PE X e (rdE X.K S me)) : PI X tg e (rdI X.K S (.seqT me)) := PI.weak (pi_tup h) fun σ H Q h => by
  obtain ⟨pm, ρ, g, Hf, rel, h⟩ := h
  simp only [evI] at h
  refine ⟨pm, ρ, g, Hf, rel, (Post.bind h).mono fun d g1 Hf1 H1 s1 m1 h1 v a1 => ?_⟩
  cases d with
  | tuple xs =>
    obtain ⟨p, vs, rfl, hp, hv⟩ := a1
    exact ⟨p, rfl, ⟨vs, st_of (s1.fh _ _ hp)⟩, Post.now h1 s1.fh m1 _ (iter_tup hp hv)⟩
  | _ => exact h1.elim
theorem i_rng1 {tg a : Expr} {p : Pos} {ma : ME} (hg : Gl X "range") (hm : X.mg "range" = none) (ha : PE X a (rdE X.K S ma)) (hs : starEach [a] X.env = [(false, eval a X.env)] := by rfl) : PI X tg (.Call (.Name "range" p) [a] [] pos) (rdI X.K S (.rng1 ma)) :=
  PI.weak (pi_range1 hg hm (pa_cons ha pa_nil hs) hs) fun σ H Q h => by
    obtain ⟨pm, ρ, g, Hf, rel, h⟩ := h
    simp only [evI] at h
    refine ⟨pm, ρ, g, Hf, rel, (Post.bind h).mono fun d g1 Hf1 H1 s1 m1 h1 v a1 => ?_⟩
    cases d with
    | int j =>
      have h1 : PostS X.K S pm Hf1 H1 (if -(2 ^ 62) ≤ j ∧ j < 2 ^ 62 then R.ok (rngD 0 j.toNat) g1 else R.stuck) _ := h1
      split at h1
      · rename_i hj
        refine ⟨j, by rw [show v = V.int j from a1], hj.1, hj.2, Post.now h1 s1.fh m1 _ iter_rng⟩
      · exact h1.elim
    | _ => exact h1.elim
theorem i_rng2 {tg a b : Expr} {p : Pos} {ma mb : ME} (hg : Gl X "range") (hm : X.mg "range" = none) (ha : PE X a (rdE X.K S ma)) (hb : PE X b (rdE X.K S mb))
    (hs : starEach [a, b] X.env = [(false, eval a X.env), (false, eval b X.env)] := by rfl) (hs2 : starEach [b] X.env = [(false, eval b X.env)] := by rfl) : PI X tg (.Call (.Name "range" p) [a, b] [] pos) (rdI X.K S (.rng2 ma mb)) :=
  PI.weak (pi_range2 hg hm (pa_cons ha (pa_cons hb pa_nil hs2) (by rw [hs, hs2])) hs hs2) fun σ H Q h => by
    obtain ⟨pm, ρ, g, Hf, rel, h⟩ := h
    simp only [evI] at h
    refine ⟨pm, ρ, g, Hf, rel, (Post.bind h).mono fun d g1 Hf1 H1 s1 m1 h1 v a1 => ?_⟩
    refine ⟨pm, ρ, g1, Hf1, rel.step s1 m1, (Post.bind h1).mono fun d2 g2 Hf2 H2 s2 m2 h2 v2 a2 => ?_⟩
    cases d with
    | int i => cases d2 with
      | int j =>
        have h2 : PostS X.K S pm Hf2 H2 (if -(2 ^ 62) ≤ i ∧ i < 2 ^ 62 ∧ -(2 ^ 62) ≤ j ∧ j < 2 ^ 62 then R.ok (rngD i (j - i).toNat) g2 else R.stuck) _ := h2
        split at h2
        · rename_i hj
          refine ⟨i, j, by rw [show v = V.int i from a1, show v2 = V.int j from a2], hj, Post.now h2 s2.fh m2 _ iter_rng⟩
        · exact h2.elim
      | _ => exact h2.elim
    | _ => exact h2.elim
theorem i_zipT {e e2 : Expr} {p tpos : Pos} {elts : List Expr} {kk : Nat} {ma mb : ME} (hg : Gl X "zip") (hm : X.mg "zip" = none) (ha : PE X e (rdE X.K S ma)) (hb : PE X e2 (rdE X.K S mb))
    (hs : starEach [e, e2] X.env = (false, eval e X.env) :: starEach [e2] X.env := by rfl) (hs2 : starEach [e2] X.env = [(false, eval e2 X.env)] := by rfl) (hpl : (backTo pos (starEach [e2] X.env)).any (·.1) = false := by rfl) :
    PI X (.Tuple elts kk tpos) (.Call (.Name "zip" p) [e, e2] [] pos) (rdI X.K S (.zipT ma mb)) :=
  PI.weak (RZ.pi_zipA hg hm (pa_cons ha (pa_cons hb pa_nil hs2) hs) hs hpl) fun σ H Q h => by
    obtain ⟨pm, ρ, g, Hf, rel, h⟩ := h
    simp only [evI] at h
    refine ⟨pm, ρ, g, Hf, rel, (Post.bind h).mono fun d g1 Hf1 H1 s1 m1 h1 v a1 => ?_⟩
    refine ⟨pm, ρ, g1, Hf1, rel.step s1 m1, (Post.bind h1).mono fun d2 g2 Hf2 H2 s2 m2 h2 v2 a2 => ?_⟩
    cases d with
    | tuple xs => cases d2 with
      | tuple ys =>
        obtain ⟨p1, vs, rfl, hp1, hv⟩ := a1
        obtain ⟨p2, ws, rfl, hp2, hw⟩ := a2
        have hp1' := s2.ff _ _ hp1
        exact ⟨p1, p2, vs, ws, rfl, .inr ⟨st_of (s2.fh _ _ hp1'), st_of (s2.fh _ _ hp2), Post.now h2 s2.fh m2 _ (iter_zipT hp1' (AtL.mono s2.ff _ _ hv) hp2 hw)⟩⟩
      | _ => exact h2.elim
    | _ => exact h2.elim
end
end Mini

set_option maxRecDepth 100000
set_option maxHeartbeats 4000000
namespace Mini
open PySem L2 Evl

/-! ### owned objects in a step -/
theorem Stp.keepN {pm : Option Addr} {Hf H Hf' H' : Hp} {b : Addr} {o : HO} (s : Stp pm Hf H Hf' H') (h1 : Hf b = none) (h2 : H b = some o) (h3 : ∀ xs, o ≠ .tup xs := by intro _ z; cases z) : Hf' b = none := by
  cases q : Hf' b with
  | none => rfl
  | some o2 =>
    rcases s.fr b o2 q with z | z | ⟨xs, z⟩
    · rw [h1] at z; cases z
    · rw [h2] at z; cases z
    · rw [h2] at z; exact absurd (Option.some.inj z) (h3 xs)
theorem Stp.mut {pm : Option Addr} {Hf H Hf' H' : Hp} {p : Addr} {o : HO} (s : Stp pm Hf H Hf' H') (h : H p = none) (hf : Hf' p = none) : Stp pm Hf H Hf' (upd H' p o) := by
  refine ⟨s.ff, Ex.mut s.fh hf, s.fr, fun b u n nt q => ?_, fun b q => ?_, fun b xs q => ?_, s.pp⟩
  · rw [upd_ne (ne_of_none q h)]
    exact s.hh b u n nt q
  · have ne : b ≠ p := fun z => by rw [z] at q; exact q h
    rw [upd_ne ne]
    exact s.nn b q
  · unfold upd at q
    split at q
    · rename_i w; right; rw [w]; exact h
    · exact s.tp b xs q
theorem Stp.firm {pm : Option Addr} {Hf H Hf' H' : Hp} {p : Addr} {o : HO} (s : Stp pm Hf H Hf' H') (h : H p = none) (hf : Hf' p = none) (ho : H' p = some o) : Stp pm Hf H (upd Hf' p o) H' := by
  refine ⟨s.ff.trans (Ex.new hf), fun b u q => ?_, fun b u q => ?_, s.hh, s.nn, s.tp, fun b e q w => ?_⟩
  · unfold upd at q
    split at q
    · rename_i z; rw [z, ← q]; exact ho
    · exact s.fh b u q
  · unfold upd at q
    split at q
    · rename_i z; right; left; rw [z]; exact h
    · exact s.fr b u q
  · have ne : b ≠ p := fun z => by rw [z] at q; exact q h
    rw [upd_ne ne]
    exact s.pp b e q w
theorem MAt.mut {K : PySem.W.Frag} {pm : Option Addr} {g : G} {Hf H : Hp} {p : Addr} {o : HO} (m : MAt K pm g Hf H) (n : pm ≠ some p) (nt : ∀ u, H p = some u → NotTab u) : MAt K pm g Hf (upd H p o) := by
  refine ⟨?_, m.tb.mut nt, m.tf⟩
  cases pm with
  | none => exact m.m0
  | some q =>
    obtain ⟨m1, kvs, m2, m3, m4⟩ := m.m0
    have ne : q ≠ p := fun z => n (by rw [z])
    exact ⟨m1, kvs, by rw [upd_ne ne]; exact m2, m3, m4⟩
theorem MAt.firm {K : PySem.W.Frag} {pm : Option Addr} {g : G} {Hf H : Hp} {p : Addr} {o : HO} (m : MAt K pm g Hf H) (n : pm ≠ some p) (hf : Hf p = none) (nt : ∀ u, H p = some u → NotTab u) : MAt K pm g (upd Hf p o) H := by
  refine ⟨?_, m.tb, fun P q l => by
    obtain ⟨ps, hP⟩ := m.tb.at l
    rw [upd_ne (fun z => (nt _ (by rw [← z]; exact hP)).1 ps rfl)]
    exact m.tf P q l⟩
  cases pm with
  | none => exact m.m0
  | some q =>
    obtain ⟨m1, kvs, m2, m3, m4⟩ := m.m0
    have ne : q ≠ p := fun z => n (by rw [z])
    exact ⟨by rw [upd_ne ne]; exact m1, kvs, m2, m3, AtL.mono (Ex.new hf) _ _ m4⟩
theorem MAt.ne {K : PySem.W.Frag} {pm : Option Addr} {g : G} {Hf H : Hp} {p : Addr} (m : MAt K pm g Hf H) (h : H p = none) : pm ≠ some p := fun e => by
  subst e
  obtain ⟨_, kvs, m2, _⟩ := m.m0
  rw [h] at m2; cases m2
theorem nt_of {H : Hp} {p : Addr} {v : HO} (h : H p = some v) (n : NotTab v) : ∀ u, H p = some u → NotTab u := fun u e => by rw [h] at e; cases e; exact n

/-! ### wiped slots -/
theorem wipe_at (σ : St) (k : Nat) : ∀ vs : List Nat, (wipe σ vs)[k]? = if k ∈ vs then (σ[k]?).map (fun _ => none) else σ[k]?
  | [] => by simp [wipe]
  | v :: vs => by
    unfold wipe
    have ih := wipe_at σ k vs
    by_cases e : v = k
    · subst e
      rw [if_pos List.mem_cons_self]
      by_cases hl : v < σ.length
      · rw [List.getElem?_set_self (by rw [wipe_length]; exact hl)]
        simp [hl]
      · rw [List.getElem?_eq_none (by rw [List.length_set, wipe_length]; omega), List.getElem?_eq_none (by omega)]; rfl
    · rw [List.getElem?_set_ne e, ih]
      have : (k ∈ v :: vs) ↔ k ∈ vs := by simp [List.mem_cons, Ne.symm e]
      simp only [this]
theorem wipe1_length (ρ : Env1) : ∀ vs : List Nat, (wipe1 vs ρ).length = ρ.length
  | [] => rfl
  | v :: vs => by unfold wipe1; rw [List.length_set, wipe1_length ρ vs]
theorem wipe1_some {ρ : Env1} {i : Nat} {x : Ent} : ∀ {vs : List Nat}, (wipe1 vs ρ)[i]? = some (some x) → ρ[i]? = some (some x) ∧ i ∉ vs
  | [], h => ⟨h, by simp⟩
  | v :: vs, h => by
    unfold wipe1 at h
    by_cases hi : v = i
    · subst hi
      by_cases hv : v < (wipe1 vs ρ).length
      · rw [List.getElem?_set_self hv] at h; cases h
      · rw [List.getElem?_eq_none (by simpa using hv)] at h; cases h
    · rw [List.getElem?_set_ne hi] at h
      obtain ⟨h1, h2⟩ := wipe1_some h
      exact ⟨h1, by simp only [List.mem_cons, not_or]; exact ⟨fun e => hi e.symm, h2⟩⟩
theorem wipe_same {σ σ2 : St} {vs : List Nat} (hl : σ2.length = σ.length) (h : ∀ j, j ∉ vs → σ2[j]? = (wipe σ vs)[j]?) : wipe σ2 vs = wipe σ vs := by
  apply List.ext_getElem?
  intro k
  rw [wipe_at, wipe_at]
  by_cases hk : k ∈ vs
  · rw [if_pos hk, if_pos hk]
    by_cases hlt : k < σ.length
    · have hlt2 : k < σ2.length := by omega
      rw [List.getElem?_eq_getElem hlt, List.getElem?_eq_getElem hlt2]; rfl
    · rw [List.getElem?_eq_none (by omega), List.getElem?_eq_none (by omega)]
  · rw [if_neg hk, if_neg hk, h k hk, wipe_at, if_neg hk]
theorem Rel.wipe {K : PySem.W.Frag} {pm : Option Addr} {σ : St} {ρ : Env1} {g : G} {Hf H : Hp} (r : Rel K pm σ ρ g Hf H) (vs : List Nat) : Rel K pm (L2.wipe σ vs) (wipe1 vs ρ) g Hf H := by
  have w : ∀ {i : Nat}, i ∉ vs → (L2.wipe σ vs)[i]? = σ[i]? := fun {i} hi => by rw [wipe_at, if_neg hi]
  refine ⟨r.ex, r.mat, by rw [wipe_length, wipe1_length]; exact r.len, fun i e q => ?_, fun i j e e' v ne qi qj oi oj si sj => ?_⟩
  · obtain ⟨q1, q2⟩ := wipe1_some q
    obtain ⟨v, w1, w2⟩ := r.ent i e q1
    exact ⟨v, by rw [w q2]; exact w1, w2⟩
  · obtain ⟨a1, a2⟩ := wipe1_some qi
    obtain ⟨b1, b2⟩ := wipe1_some qj
    rw [w a2] at si; rw [w b2] at sj
    exact r.dis i j e e' v ne a1 b1 oi oj si sj

/-- no exception is wished for -/
abbrev Sg.no (S : Sg) : Sg := { S with E := E0 }
theorem bind_ok_iff {α β : Type} {r : R α} {k : α → G → R β} {b : β} {g : G} (h : r.bind k = .ok b g) : ∃ a g1, r = .ok a g1 ∧ k a g1 = .ok b g := by
  cases r with
  | ok a g1 => exact ⟨a, g1, rfl, h⟩
  | exc c d g1 => cases h
  | stuck => cases h
theorem of_ok_iff {α : Type} {o : Option α} {g g' : G} {a : α} (h : R.of o g = .ok a g') : o = some a ∧ g' = g := by
  cases o with
  | none => cases h
  | some b => cases h; exact ⟨rfl, rfl⟩
section
variable {X : Cx} {S : Sg} {pos : Pos}
def lcF (call : Nat → List D → G → R D) (own : List Nat) (t : MT) (test elt : ME) (ρ : Env1) (x : D) (g : G) : R (Option D) :=
  (R.of (setT t x (wipe1 own ρ)) g).bind fun ρ1 g1 => (evE call test ρ1 g1).bind fun b g2 => (asB b g2).bind fun k g3 =>
    if k = true then (evE call elt ρ1 g3).bind fun d g4 => .ok (some d) g4 else .ok none g3
/-- one turn of a comprehension's loop -/
theorem lc_turn {K : PySem.W.Frag} {own : List Nat} {t : MT} {test elt : ME} {σ : St} {ρ : Env1} {pm : Option Addr} {Hf' Hc H' Hf2 H1 Hf1 : Hp} {g' g2 : G} {x : V} {d : D} {o : Option D} {Dl : Addr} {acc : List V} {dacc : List D} {Nx : Hp → Prop}
    (hin : ∀ j ∈ tgt t, j ∈ own) (rel : Rel K pm σ ρ g' Hf' Hc) (st : Stp pm Hf1 H1 Hf' Hc) (hD : H1 Dl = none) (npm : pm ≠ some Dl) (fD : Hf' Dl = none) (hDc : Hc Dl = some (.lst acc)) (ha : AtL K pm Hf' acc dacc) (hz : dacc.length < 1000000)
    (s2 : Stp pm Hf' Hc Hf2 H') (m2 : MAt K pm g' Hf2 H') (ax : At K pm Hf2 x d) (hF : lcF S.call own t test elt ρ d g' = .ok o g2)
    (k : ∀ Hf3 H3 acc', Stp pm Hf1 H1 Hf3 H3 → MAt K pm g2 Hf3 H3 → Hf3 Dl = none → H3 Dl = some (.lst acc') → AtL K pm Hf3 acc' (dacc ++ (match o with | some d => [d] | none => [])) → Nx H3) :
    gD K t x (wipe σ own) H' fun σ2 H2 => wipe σ2 own = wipe σ own ∧ rdT K S.no test σ2 H2 fun b H3 =>
      if b = true then rdE K S.no elt σ2 H3 fun y H4 => ∃ acc, H4 Dl = some (.lst acc) ∧ acc.length < sizeLine ∧ Nx (upd H4 Dl (.lst (acc ++ [y]))) else Nx H3 := by
  unfold lcF at hF
  obtain ⟨ρ1, g3, h0, hF0⟩ := bind_ok_iff hF
  obtain ⟨h1, eg⟩ := of_ok_iff h0
  subst eg
  rw [← R.bind_assoc] at hF0
  obtain ⟨b, g4, h2, hF1⟩ := bind_ok_iff hF0
  refine setT_ok h1 ((rel.step s2 m2).wipe own) ax fun σ2 rel2 oth _ => ⟨?_, pm, ρ1, g3, Hf2, rel2, ?_⟩
  · refine wipe_same ?_ fun j hj => (oth j fun z => hj (hin j z)).1
    have l1 := rel2.len
    have l2 := rel.len
    rw [setT_len h1, wipe1_length] at l1
    omega
  · rw [show (evE S.no.call test ρ1 g3).bind asB = R.ok b g4 from h2]
    intro Hf3 H3 s3 m3
    have s23 := s2.trans s3
    have e3 : H3 Dl = some (.lst acc) := s23.hh _ _ npm (fun _ z => by cases z) hDc
    have f3 : Hf3 Dl = none := s23.keepN fD hDc
    cases b with
    | false =>
      rw [if_neg Bool.false_ne_true] at hF1
      cases hF1
      refine iteF ?_
      exact k Hf3 H3 acc (st.trans s23) m3 f3 e3 (by rw [List.append_nil]; exact AtL.mono s23.ff _ _ ha)
    | true =>
      rw [if_pos rfl] at hF1
      obtain ⟨y, g5, h3, hF2⟩ := bind_ok_iff hF1
      cases hF2
      refine iteT ?_
      refine ⟨pm, ρ1, g4, Hf3, rel2.step s3 m3, ?_⟩
      rw [show evE S.no.call elt ρ1 g4 = R.ok y g2 from h3]
      intro Hf4 H4 s4 m4 v av
      have s24 := s23.trans s4
      have e4 : H4 Dl = some (.lst acc) := s24.hh _ _ npm (fun _ z => by cases z) hDc
      have f4 : Hf4 Dl = none := s24.keepN fD hDc
      refine ⟨acc, e4, ?_, ?_⟩
      · rw [ha.length, sizeLine_eq]; omega
      · exact k Hf4 _ _ ((st.trans s24).mut hD f4) (m4.mut npm (nt_of e4 (nt_lst _))) f4 upd_same (AtL.append (AtL.mono s24.ff _ _ ha) ⟨av, trivial⟩)
/-- .. over a second floor -/
theorem lc_turn2 {K : PySem.W.Frag} {own : List Nat} {t : MT} {test elt : ME} {σ : St} {ρ : Env1} {pm : Option Addr} {Hf' Hc H' Hf2 H1 Hf1 HfZ : Hp} {g' g2 : G} {x : V} {d : D} {o : Option D} {Dl : Addr} {acc : List V} {dacc : List D} {Nx : Hp → Prop}
    (hin : ∀ j ∈ tgt t, j ∈ own) (rel : Rel K pm σ ρ g' Hf' Hc) (st : Stp pm Hf1 H1 Hf' Hc) (exZ : Ex HfZ Hf') (hD : H1 Dl = none) (npm : pm ≠ some Dl) (fD : Hf' Dl = none) (hDc : Hc Dl = some (.lst acc)) (ha : AtL K pm Hf' acc dacc) (hz : dacc.length < 1000000)
    (s2 : Stp pm Hf' Hc Hf2 H') (m2 : MAt K pm g' Hf2 H') (ax : At K pm Hf2 x d) (hF : lcF S.call own t test elt ρ d g' = .ok o g2)
    (k : ∀ Hf3 H3 acc', Stp pm Hf1 H1 Hf3 H3 → Ex HfZ Hf3 → MAt K pm g2 Hf3 H3 → Hf3 Dl = none → H3 Dl = some (.lst acc') → AtL K pm Hf3 acc' (dacc ++ (match o with | some d => [d] | none => [])) → Nx H3) :
    gD K t x (wipe σ own) H' fun σ2 H2 => wipe σ2 own = wipe σ own ∧ rdT K S.no test σ2 H2 fun b H3 =>
      if b = true then rdE K S.no elt σ2 H3 fun y H4 => ∃ acc, H4 Dl = some (.lst acc) ∧ acc.length < sizeLine ∧ Nx (upd H4 Dl (.lst (acc ++ [y]))) else Nx H3 := by
  unfold lcF at hF
  obtain ⟨ρ1, g3, h0, hF0⟩ := bind_ok_iff hF
  obtain ⟨h1, eg⟩ := of_ok_iff h0
  subst eg
  rw [← R.bind_assoc] at hF0
  obtain ⟨b, g4, h2, hF1⟩ := bind_ok_iff hF0
  refine setT_ok h1 ((rel.step s2 m2).wipe own) ax fun σ2 rel2 oth _ => ⟨?_, pm, ρ1, g3, Hf2, rel2, ?_⟩
  · refine wipe_same ?_ fun j hj => (oth j fun z => hj (hin j z)).1
    have l1 := rel2.len
    have l2 := rel.len
    rw [setT_len h1, wipe1_length] at l1
    omega
  · rw [show (evE S.no.call test ρ1 g3).bind asB = R.ok b g4 from h2]
    intro Hf3 H3 s3 m3
    have s23 := s2.trans s3
    have e3 : H3 Dl = some (.lst acc) := s23.hh _ _ npm (fun _ z => by cases z) hDc
    have f3 : Hf3 Dl = none := s23.keepN fD hDc
    cases b with
    | false =>
      rw [if_neg Bool.false_ne_true] at hF1
      cases hF1
      refine iteF ?_
      exact k Hf3 H3 acc (st.trans s23) (exZ.trans s23.ff) m3 f3 e3 (by rw [List.append_nil]; exact AtL.mono s23.ff _ _ ha)
    | true =>
      rw [if_pos rfl] at hF1
      obtain ⟨y, g5, h3, hF2⟩ := bind_ok_iff hF1
      cases hF2
      refine iteT ?_
      refine ⟨pm, ρ1, g4, Hf3, rel2.step s3 m3, ?_⟩
      rw [show evE S.no.call elt ρ1 g4 = R.ok y g2 from h3]
      intro Hf4 H4 s4 m4 v av
      have s24 := s23.trans s4
      have e4 : H4 Dl = some (.lst acc) := s24.hh _ _ npm (fun _ z => by cases z) hDc
      have f4 : Hf4 Dl = none := s24.keepN fD hDc
      refine ⟨acc, e4, ?_, ?_⟩
      · rw [ha.length, sizeLine_eq]; omega
      · exact k Hf4 _ _ ((st.trans s24).mut hD f4) (exZ.trans s24.ff) (m4.mut npm (nt_of e4 (nt_lst _))) f4 upd_same (AtL.append (AtL.mono s24.ff _ _ ha) ⟨av, trivial⟩)
theorem drop_cons {α : Type} {l : List α} {i : Nat} {a : α} (h : l[i]? = some a) : l.drop i = a :: l.drop (i + 1) := by
  obtain ⟨h1, h2⟩ := List.getElem?_eq_some_iff.mp h
  rw [← h2]
  exact List.drop_eq_getElem_cons h1
theorem rd_lc {K : PySem.W.Frag} {own : List Nat} {t : MT} {mi : MI} {test elt : ME} {σ : St} {H : Hp} {Q : VK} (hin : ∀ j ∈ tgt t, j ∈ own) (h : rdE K S (.lc own t mi test elt) σ H Q) : tLc (rdI K S mi) (gD K t) (rdT K S.no test) (rdE K S.no elt) own σ H Q := by
  obtain ⟨pm, ρ, g, Hf, rel, h⟩ := h
  simp only [evE] at h
  refine ⟨pm, ρ, g, Hf, rel, (Post.bind h).mono fun ds g1 Hf1 H1 s1 m1 h1 J hJ Dl hD => ?_⟩
  split at h1
  · rename_i hlen
    have h1 : PostS K S pm Hf1 H1 ((R.noX (loopC (lcF S.call own t test elt ρ) ds g1)).bind fun ds g2 => .ok (PyData.list ds) g2) fun d _ Hf' H' => ∀ v, At K pm Hf' v d → Q v H' := h1
    have rel1 := rel.step s1 m1
    have npm := m1.ne hD
    cases hl : loopC (lcF S.call own t test elt ρ) ds g1 with
    | exc c d g' => rw [hl] at h1; exact h1.elim
    | stuck => rw [hl] at h1; exact h1.elim
    | ok out gE =>
      rw [hl] at h1
      refine ⟨fun i m Hc => m = ds.length - i ∧ i ≤ ds.length ∧ ∃ (Hf' : Hp) (g' : G) (acc : List V) (dacc rest : List D), Stp pm Hf1 H1 Hf' Hc ∧ MAt K pm g' Hf' Hc ∧ Hf' Dl = none ∧ Hc Dl = some (.lst acc) ∧ AtL K pm Hf' acc dacc ∧ dacc.length ≤ i ∧
        loopC (lcF S.call own t test elt ρ) (ds.drop i) g' = .ok rest gE ∧ dacc ++ rest = out, ⟨ds.length, by simp, Nat.zero_le _, Hf1, g1, [], [], out, Stp.own s1.fh hD, m1.own hD, fresh_back s1.fh hD, upd_same, trivial, Nat.zero_le _, hl, rfl⟩, ?_⟩
      rintro i m Hc ⟨rfl, hi, Hf', g', acc, dacc, rest, st, mt, fD, hDc, ha, hz, hl', he⟩
      by_cases hlt : i < ds.length
      · refine .inr ⟨hJ.go i Hf' Hc st.ff st.fh hlt, fun H' => i + 1 ≤ ds.length ∧ ∃ (Hf' : Hp) (g' : G) (acc : List V) (dacc rest : List D), Stp pm Hf1 H1 Hf' H' ∧ MAt K pm g' Hf' H' ∧ Hf' Dl = none ∧ H' Dl = some (.lst acc) ∧ AtL K pm Hf' acc dacc ∧ dacc.length ≤ i + 1 ∧
          loopC (lcF S.call own t test elt ρ) (ds.drop (i + 1)) g' = .ok rest gE ∧ dacc ++ rest = out, fun H' p => ⟨ds.length - (i + 1), by omega, rfl, p⟩, fun x H' y => ?_⟩
        obtain ⟨d, Hf2, hd, s2, m2, ax⟩ := hJ.yld i Hf' Hc x H' g' st.ff st.fh mt hlt y
        rw [drop_cons hd] at hl'
        simp only [loopC] at hl'
        obtain ⟨o, g2, hF, hl2⟩ := bind_ok_iff hl'
        obtain ⟨ds', g3, hL, hl3⟩ := bind_ok_iff hl2
        cases hl3
        refine lc_turn hin (rel1.step st mt) st hD npm fD hDc ha (by omega) s2 m2 ax hF fun Hf3 H3 acc' q1 q2 q3 q4 q5 => ⟨hlt, Hf3, g2, acc', _, ds', q1, q2, q3, q4, q5, ?_, hL, ?_⟩
        · rw [List.length_append]
          cases o <;> simp <;> omega
        · rw [← he, List.append_assoc]
          cases o <;> rfl
      · have e : i = ds.length := by omega
        subst e
        rw [List.drop_length] at hl'
        cases hl'
        rw [List.append_nil] at he
        subst he
        refine .inl ⟨hJ.stop Hf' Hc st.ff st.fh, ?_⟩
        exact h1 _ _ (st.firm hD fD hDc) (mt.firm npm fD (nt_of hDc (nt_lst _))) (.ref Dl) ⟨Dl, acc, rfl, upd_same, AtL.mono (Ex.new fD) _ _ ha⟩
  · exact h1.elim
theorem pts_no {X : Cx} {S : Sg} : PTs X [] (rdT X.K S (.cst (.bool true))) := ⟨fun pins s σ H Q I h => pts_nil.run pins s σ H Q I (by
  obtain ⟨pm, ρ, g, Hf, rel, h⟩ := h
  exact Post.now (show PostS X.K S pm Hf H (.ok true g) _ from h) rel.ex rel.mat)⟩
theorem m_lc (own : List (Str × Nat)) {elt tg iter : Expr} {ifs : List Expr} {scope : Scope} {t : MT} {mi : MI} {test melt : ME} (hc : X.calm = true) (hN : X.N.Nodup) (hi : PI X tg iter (rdI X.K S mi)) (ok : BlkOk X.N X.env.scope scope own)
    (hg : ∀ (s : Shared) (H : Hp) (C : Addr) (cl : List (Str × Addr)) (fp : List Addr), PG (X.blk s H scope (compEnvC scope cl C X.env) fp) tg (gD X.K t)) (ht : ∀ (s : Shared) (H : Hp) (C : Addr) (cl : List (Str × Addr)) (fp : List Addr), PTs (X.blk s H scope (compEnvC scope cl C X.env) fp) ifs (rdT X.K S.no test))
    (he : ∀ (s : Shared) (H : Hp) (C : Addr) (cl : List (Str × Addr)) (fp : List Addr), PE (X.blk s H scope (compEnvC scope cl C X.env) fp) elt (rdE X.K S.no melt)) (hin : ∀ j ∈ tgt t, j ∈ own.map (·.2) := by decide) (hs : ∀ x, foldedSetIterable iter X.env x = pure x := by intro _; rfl) :
    PE X (.ListComp elt [⟨tg, iter, ifs, 0⟩] scope pos) (rdE X.K S (.lc (own.map (·.2)) t mi test melt)) :=
  PE.weak (pe_lc (own := own) hc hN hi ok hg ht he hs) fun σ H Q h => rd_lc hin h
end
end Mini

set_option maxRecDepth 100000
set_option maxHeartbeats 4000000
namespace Mini
open PySem L2 Evl

/-- the slots of a block, later, while a new list grows -/
theorem Rel.late {K : PySem.W.Frag} {pm : Option Addr} {σ σ2 : St} {ρ ρ1 : Env1} {gA g2 g' : G} {Hf1 H1 Hf2 H2 Hf' Hc : Hp} (rA : Rel K pm σ ρ gA Hf1 H1) (st : Stp pm Hf1 H1 Hf' Hc) (r2 : Rel K pm σ2 ρ1 g2 Hf2 H2) (e2 : Ex Hf2 Hf') (m : MAt K pm g' Hf' Hc)
    (own : ∀ (j : Nat) (e : Ent), ρ1[j]? = some (some e) → isOwn e = true → σ2[j]? = σ[j]? ∧ ρ1[j]? = ρ[j]?) : Rel K pm σ2 ρ1 g' Hf' Hc := by
  refine ⟨st.fh, m, r2.len, fun i e q => ?_, r2.dis⟩
  cases h : isOwn e with
  | true =>
    obtain ⟨o1, o2⟩ := own i e q h
    rw [o2] at q
    obtain ⟨v, w1, w2⟩ := rA.ent i e q
    exact ⟨v, by rw [o1]; exact w1, w2.step st⟩
  | false =>
    obtain ⟨v, w1, w2⟩ := r2.ent i e q
    refine ⟨v, w1, ?_⟩
    cases e with
    | frz d => exact At.mono e2 d v w2
    | ownL ds => cases h
    | ownD kvs => cases h
    | scr ns => obtain ⟨a, e1, e3⟩ := w2; exact ⟨a, e1, SqL_mono e2 e3⟩
    | lckD kvs => obtain ⟨p, o, kws, e1, h1, h2, h3⟩ := w2; exact ⟨p, o, kws, e1, e2 _ _ h1, h2, AtL.mono e2 _ _ h3⟩
section
variable {X : Cx} {S : Sg} {pos : Pos}
def lc2F (call : Nat → List D → G → R D) (own own1 : List Nat) (t : MT) (test : ME) (t1 : MT) (it1 : MI) (test1 elt : ME) (ρ : Env1) (x : D) (g : G) : R (List D) :=
  (R.of (setT t x (wipe1 own ρ)) g).bind fun ρ1 g1 => (evE call test ρ1 g1).bind fun b g2 => (asB b g2).bind fun k g3 =>
    if k = true then (evI call it1 ρ1 g3).bind fun ys g4 => loopC (lcF call own1 t1 test1 elt ρ1) ys g4 else .ok [] g3
theorem rd_lc2 {K : PySem.W.Frag} {own own1 : List Nat} {t t1 : MT} {mi mi1 : MI} {test test1 elt : ME} {σ : St} {H : Hp} {Q : VK} (hin : ∀ j ∈ tgt t, j ∈ own) (hin1 : ∀ j ∈ tgt t1, j ∈ own1) (h : rdE K S (.lc2 own own1 t mi test t1 mi1 test1 elt) σ H Q) :
    tLc2 (rdI K S mi) (gD K t) (rdT K S.no test) (rdI K S.no mi1) (gD K t1) (rdT K S.no test1) (rdE K S.no elt) own own1 σ H Q := by
  obtain ⟨pm, ρ, g, Hf, rel, h⟩ := h
  simp only [evE] at h
  refine ⟨pm, ρ, g, Hf, rel, (Post.bind h).mono fun ds g1 Hf1 H1 s1 m1 h1 J hJ Dl hD => ?_⟩
  have h1 : PostS K S pm Hf1 H1 ((R.noX (loopC2 (lc2F S.call own own1 t test t1 mi1 test1 elt ρ) ds g1)).bind fun ds g2 => if ds.length < 1000000 then .ok (PyData.list ds) g2 else .stuck) fun d _ Hf' H' => ∀ v, At K pm Hf' v d → Q v H' := h1
  have rel1 := rel.step s1 m1
  have npm := m1.ne hD
  cases hl : loopC2 (lc2F S.call own own1 t test t1 mi1 test1 elt ρ) ds g1 with
  | exc c d g' => rw [hl] at h1; exact h1.elim
  | stuck => rw [hl] at h1; exact h1.elim
  | ok out gE =>
    rw [hl] at h1
    have h1 : PostS K S pm Hf1 H1 (if out.length < 1000000 then .ok (PyData.list out) gE else .stuck) fun d _ Hf' H' => ∀ v, At K pm Hf' v d → Q v H' := h1
    split at h1
    · rename_i hlen
      refine ⟨fun i m Hc => m = ds.length - i ∧ i ≤ ds.length ∧ ∃ (Hf' : Hp) (g' : G) (acc : List V) (dacc rest : List D), Stp pm Hf1 H1 Hf' Hc ∧ MAt K pm g' Hf' Hc ∧ Hf' Dl = none ∧ Hc Dl = some (.lst acc) ∧ AtL K pm Hf' acc dacc ∧
        loopC2 (lc2F S.call own own1 t test t1 mi1 test1 elt ρ) (ds.drop i) g' = .ok rest gE ∧ dacc ++ rest = out, ⟨ds.length, by simp, Nat.zero_le _, Hf1, g1, [], [], out, Stp.own s1.fh hD, m1.own hD, fresh_back s1.fh hD, upd_same, trivial, hl, rfl⟩, ?_⟩
      rintro i m Hc ⟨rfl, hi, Hf', g', acc, dacc, rest, st, mt, fD, hDc, ha, hl', he⟩
      by_cases hlt : i < ds.length
      · refine .inr ⟨hJ.go i Hf' Hc st.ff st.fh hlt, fun H' => i + 1 ≤ ds.length ∧ ∃ (Hf' : Hp) (g' : G) (acc : List V) (dacc rest : List D), Stp pm Hf1 H1 Hf' H' ∧ MAt K pm g' Hf' H' ∧ Hf' Dl = none ∧ H' Dl = some (.lst acc) ∧ AtL K pm Hf' acc dacc ∧
          loopC2 (lc2F S.call own own1 t test t1 mi1 test1 elt ρ) (ds.drop (i + 1)) g' = .ok rest gE ∧ dacc ++ rest = out, fun H' p => ⟨ds.length - (i + 1), by omega, rfl, p⟩, fun x H' y => ?_⟩
        obtain ⟨d, Hf2, hd, s2, m2, ax⟩ := hJ.yld i Hf' Hc x H' g' st.ff st.fh mt hlt y
        rw [drop_cons hd] at hl'
        simp only [loopC2] at hl'
        obtain ⟨o, g2, hF, hl2⟩ := bind_ok_iff hl'
        obtain ⟨ds', g3, hL, hl3⟩ := bind_ok_iff hl2
        cases hl3
        unfold lc2F at hF
        obtain ⟨ρ1, g5, h0, hF0⟩ := bind_ok_iff hF
        obtain ⟨hset, eg⟩ := of_ok_iff h0
        subst eg
        rw [← R.bind_assoc] at hF0
        obtain ⟨b, g4, h2, hF1⟩ := bind_ok_iff hF0
        have relw := ((rel1.step st mt).step s2 m2).wipe own
        refine setT_ok hset relw ax fun σ2 rel2 oth ownE => ⟨?_, pm, ρ1, g5, Hf2, rel2, ?_⟩
        · refine wipe_same ?_ fun j hj => (oth j fun z => hj (hin j z)).1
          have l1 := rel2.len
          have l2 := rel.len
          rw [setT_len hset, wipe1_length] at l1
          omega
        · have ownE2 : ∀ (j : Nat) (e : Ent), ρ1[j]? = some (some e) → isOwn e = true → σ2[j]? = σ[j]? ∧ ρ1[j]? = ρ[j]? := fun j e q o => by
            obtain ⟨z1, z2⟩ := ownE j e q o
            rw [z2] at q
            obtain ⟨y1, y2⟩ := wipe1_some q
            exact ⟨by rw [z1, wipe_at, if_neg y2], by rw [z2, q, y1]⟩
          rw [show (evE S.no.call test ρ1 g5).bind asB = R.ok b g4 from h2]
          intro Hf3 H3 s3 m3
          have s23 := s2.trans s3
          have e3 : H3 Dl = some (.lst acc) := s23.hh _ _ npm (fun _ z => by cases z) hDc
          have f3 : Hf3 Dl = none := s23.keepN fD hDc
          have st3 := st.trans s23
          cases b with
          | false =>
            rw [if_neg Bool.false_ne_true] at hF1
            cases hF1
            refine iteF ?_
            exact ⟨hlt, Hf3, g2, acc, dacc, ds', st3, m3, f3, e3, AtL.mono s23.ff _ _ ha, hL, by simpa using he⟩
          | true =>
            rw [if_pos rfl] at hF1
            obtain ⟨ys, g6, h6, hF2⟩ := bind_ok_iff hF1
            refine iteT ?_
            refine ⟨pm, ρ1, g4, Hf3, rel2.step s3 m3, ?_⟩
            rw [show evI S.no.call mi1 ρ1 g4 = R.ok ys g6 from h6]
            intro Hf4 H4 s4 m4 J1 hJ1
            have s24 := s23.trans s4
            have e4 : H4 Dl = some (.lst acc) := s24.hh _ _ npm (fun _ z => by cases z) hDc
            have f4 : Hf4 Dl = none := s24.keepN fD hDc
            have st4 := st.trans s24
            have rel4 := (rel2.step s3 m3).step s4 m4
            refine ⟨fun j k Hj => k = ys.length - j ∧ j ≤ ys.length ∧ ∃ (Hfj : Hp) (gj : G) (accj : List V) (daccj restj : List D), Stp pm Hf1 H1 Hfj Hj ∧ Ex Hf4 Hfj ∧ MAt K pm gj Hfj Hj ∧ Hfj Dl = none ∧ Hj Dl = some (.lst accj) ∧ AtL K pm Hfj accj daccj ∧
              loopC (lcF S.call own1 t1 test1 elt ρ1) (ys.drop j) gj = .ok restj g2 ∧ daccj ++ restj = dacc ++ o, ⟨ys.length, by simp, Nat.zero_le _, Hf4, g6, acc, dacc, o, st4, Ex.refl _, m4, f4, e4, AtL.mono s24.ff _ _ ha, hF2, rfl⟩, ?_⟩
            rintro j k Hj ⟨rfl, hj, Hfj, gj, accj, daccj, restj, stj, exj, mj, fj, hDj, haj, hlj, hej⟩
            have hzj : daccj.length < 1000000 ∧ (daccj ++ restj).length < 1000000 := by
              have q : (daccj ++ restj ++ ds').length < 1000000 := by rw [hej, List.append_assoc, he]; exact hlen
              simp only [List.length_append] at q ⊢
              omega
            by_cases hjt : j < ys.length
            · refine .inr ⟨hJ1.go j Hfj Hj exj stj.fh hjt, fun H' => j + 1 ≤ ys.length ∧ ∃ (Hfj : Hp) (gj : G) (accj : List V) (daccj restj : List D), Stp pm Hf1 H1 Hfj H' ∧ Ex Hf4 Hfj ∧ MAt K pm gj Hfj H' ∧ Hfj Dl = none ∧ H' Dl = some (.lst accj) ∧ AtL K pm Hfj accj daccj ∧
                loopC (lcF S.call own1 t1 test1 elt ρ1) (ys.drop (j + 1)) gj = .ok restj g2 ∧ daccj ++ restj = dacc ++ o, fun H' p => ⟨ys.length - (j + 1), by omega, rfl, p⟩, fun x1 Hx y1 => ?_⟩
              obtain ⟨d1, Hf5, hd1, s5, m5, ax1⟩ := hJ1.yld j Hfj Hj x1 Hx gj exj stj.fh mj hjt y1
              rw [drop_cons hd1] at hlj
              simp only [loopC] at hlj
              obtain ⟨o1, g7, hFj, hlj2⟩ := bind_ok_iff hlj
              obtain ⟨dsj, g8, hLj, hlj3⟩ := bind_ok_iff hlj2
              cases hlj3
              have relj : Rel K pm σ2 ρ1 gj Hfj Hj := Rel.late rel1 stj rel4 exj mj ownE2
              refine lc_turn2 hin1 relj stj exj hD npm fj hDj haj hzj.1 s5 m5 ax1 hFj fun Hf6 H6 acc6 q1 q0 q2 q3 q4 q5 => ⟨hjt, Hf6, g7, acc6, _, dsj, q1, q0, q2, q3, q4, q5, hLj, ?_⟩
              rw [← hej, List.append_assoc]
              cases o1 <;> rfl
            · have ej : j = ys.length := by omega
              subst ej
              rw [List.drop_length] at hlj
              cases hlj
              rw [List.append_nil] at hej
              subst hej
              exact .inl ⟨hJ1.stop Hfj Hj exj stj.fh, hlt, Hfj, g2, accj, _, ds', stj, mj, fj, hDj, haj, hL, by rw [List.append_assoc]; exact he⟩
      · have e : i = ds.length := by omega
        subst e
        rw [List.drop_length] at hl'
        cases hl'
        rw [List.append_nil] at he
        subst he
        refine .inl ⟨hJ.stop Hf' Hc st.ff st.fh, ?_⟩
        exact h1 _ _ (st.firm hD fD hDc) (mt.firm npm fD (nt_of hDc (nt_lst _))) (.ref Dl) ⟨Dl, acc, rfl, upd_same, AtL.mono (Ex.new fD) _ _ ha⟩
    · exact h1.elim
theorem m_lc2 (own : List (Str × Nat)) {vs1 : List Nat} {elt tg iter tg1 iter1 : Expr} {ifs ifs1 : List Expr} {scope : Scope} {t t1 : MT} {mi mi1 : MI} {test test1 melt : ME} (hc : X.calm = true) (hN : X.N.Nodup) (hi : PI X tg iter (rdI X.K S mi)) (ok : BlkOk X.N X.env.scope scope own)
    (hg : ∀ (s : Shared) (H : Hp) (C : Addr) (cl : List (Str × Addr)) (fp : List Addr), PG (X.blk s H scope (compEnvC scope cl C X.env) fp) tg (gD X.K t)) (ht : ∀ (s : Shared) (H : Hp) (C : Addr) (cl : List (Str × Addr)) (fp : List Addr), PTs (X.blk s H scope (compEnvC scope cl C X.env) fp) ifs (rdT X.K S.no test))
    (hi1 : ∀ (s : Shared) (H : Hp) (C : Addr) (cl : List (Str × Addr)) (fp : List Addr), PI (X.blk s H scope (compEnvC scope cl C X.env) fp) tg1 iter1 (rdI X.K S.no mi1))
    (hg1 : ∀ (s : Shared) (H : Hp) (C : Addr) (cl : List (Str × Addr)) (fp : List Addr), PG (X.blk s H scope (compEnvC scope cl C X.env) fp) tg1 (gD X.K t1)) (ht1 : ∀ (s : Shared) (H : Hp) (C : Addr) (cl : List (Str × Addr)) (fp : List Addr), PTs (X.blk s H scope (compEnvC scope cl C X.env) fp) ifs1 (rdT X.K S.no test1))
    (he : ∀ (s : Shared) (H : Hp) (C : Addr) (cl : List (Str × Addr)) (fp : List Addr), PE (X.blk s H scope (compEnvC scope cl C X.env) fp) elt (rdE X.K S.no melt)) (hv : ∀ i ∈ vs1, i ∈ own.map (·.2) := by decide) (hin : ∀ j ∈ tgt t, j ∈ own.map (·.2) := by decide) (hin1 : ∀ j ∈ tgt t1, j ∈ vs1 := by decide)
    (hs : ∀ x, foldedSetIterable iter X.env x = pure x := by intro _; rfl) (hs1 : ∀ env x, foldedSetIterable iter1 env x = pure x := by intro _ _; rfl) :
    PE X (.ListComp elt [⟨tg, iter, ifs, 0⟩, ⟨tg1, iter1, ifs1, 0⟩] scope pos) (rdE X.K S (.lc2 (own.map (·.2)) vs1 t mi test t1 mi1 test1 melt)) :=
  PE.weak (pe_lc2 (own := own) hc hN hi ok hv hg ht hi1 hg1 ht1 he hs hs1) fun σ H Q h => rd_lc2 hin hin1 h

/-! ### a lent list -/
open Classical in
noncomputable def lendH (ms : List Nat) (ρ : Env1) (σ : St) (Hf H : L2.Hp) : L2.Hp := fun a => match Hf a with
  | some o => some o
  | none => if (∃ (i : Nat) (ds : List D), i ∈ ms ∧ ρ[i]? = some (some (Ent.ownL ds)) ∧ σ[i]? = some (some (V.ref a))) then H a else none
theorem lendH_some {ms : List Nat} {ρ : Env1} {σ : St} {Hf H : L2.Hp} {a : Addr} {o : HO} (h : Hf a = some o) : lendH ms ρ σ Hf H a = some o := by unfold lendH; rw [h]
theorem lendH_of {ms : List Nat} {ρ : Env1} {σ : St} {Hf H : L2.Hp} {a : Addr} {o : HO} (h : lendH ms ρ σ Hf H a = some o) : Hf a = some o ∨ H a = some o := by
  unfold lendH at h
  split at h
  · rename_i u e; left; rw [e, h]
  · split at h
    · right; exact h
    · cases h
theorem lendH_own {ms : List Nat} {ρ : Env1} {σ : St} {Hf H : L2.Hp} {a : Addr} {i : Nat} {ds : List D} (n : Hf a = none) (h1 : i ∈ ms) (h2 : ρ[i]? = some (some (Ent.ownL ds))) (h3 : σ[i]? = some (some (V.ref a))) : lendH ms ρ σ Hf H a = H a := by
  unfold lendH
  rw [n]
  simp only
  rw [if_pos ⟨i, ds, h1, h2, h3⟩]
theorem lendH_tab {K : PySem.W.Frag} {pm : Option Addr} {σ : St} {ρ : Env1} {g : G} {Hf H : Hp} {ms : List Nat} (rel : Rel K pm σ ρ g Hf H) {P : Addr} {q : Str} (l : LamAt K P q) : lendH ms ρ σ Hf H P = none := by
  obtain ⟨ps, hP⟩ := rel.mat.tb.at l
  unfold lendH
  rw [rel.mat.tf P q l]
  simp only
  split
  · rename_i h
    obtain ⟨i, ds, _, h2, h3⟩ := h
    obtain ⟨v, w1, p, xs, rfl, _, _, hp, _⟩ := rel.ent i _ h2
    rw [w1] at h3
    cases h3
    rw [hP] at hp
    cases hp
  · rfl
theorem pk_core {K : PySem.W.Frag} {pm : Option Addr} {σ : St} {ρ : Env1} {g : G} {Hf H : Hp} {d : PyData} {ms : List Nat} (rel : Rel K pm σ ρ g Hf H) (hs : scalD d = true) {P : Hp → Prop} (hP : ∀ Hf' H', Stp pm Hf H Hf' H' → MAt K pm g Hf' H' → P H') :
    Rel K none σ (lend ms ρ) [] (lendH ms ρ σ Hf H) H ∧ ∀ Hf' H', Stp none (lendH ms ρ σ Hf H) H Hf' H' → TabK K H' → P H' := by
  have e0 : Ex Hf (lendH ms ρ σ Hf H) := fun a o z => lendH_some z
  have e1 : Ex (lendH ms ρ σ Hf H) H := fun a o z => (lendH_of z).elim (fun w => rel.ex a o w) fun w => w
  refine ⟨⟨e1, ⟨rfl, rel.mat.tb, fun P q l => lendH_tab rel l⟩, by unfold lend; rw [List.length_mapIdx]; exact rel.len, fun i e z => ?_, fun i j e e' v ne qi qj oi oj si sj => ?_⟩, fun Hf' H' s tbl => ?_⟩
  · unfold lend at z
    rw [List.getElem?_mapIdx] at z
    cases w : ρ[i]? with
    | none => rw [w] at z; cases z
    | some o =>
      rw [w] at z
      cases o with
      | none => simp only [Option.map_some, Option.some.injEq, reduceCtorEq] at z
      | some e2 =>
        cases e2 with
        | frz d2 =>
          simp only [Option.map_some, Option.some.injEq] at z
          split at z
          · rename_i hn
            cases z
            obtain ⟨v, w1, w2⟩ := rel.ent i _ w
            exact ⟨v, w1, At.mono e0 d2 v (At.free d2 v hn w2)⟩
          · cases z
        | ownL ds =>
          simp only [Option.map_some, Option.some.injEq] at z
          split at z
          · rename_i hn
            cases z
            obtain ⟨v, w1, p, xs, rfl, n1, n2, hp, ha⟩ := rel.ent i _ w
            refine ⟨_, w1, p, xs, rfl, ?_, AtL.mono e0 _ _ (AtL.free _ _ hn.2 ha)⟩
            rw [lendH_own n2 hn.1 w w1]
            exact hp
          · cases z
        | ownD kvs => simp only [Option.map_some, Option.some.injEq, reduceCtorEq] at z
        | scr ns => simp only [Option.map_some, Option.some.injEq, reduceCtorEq] at z
        | lckD kvs => simp only [Option.map_some, Option.some.injEq, reduceCtorEq] at z
  · have no : ∀ (i : Nat) (e : Ent), (lend ms ρ)[i]? = some (some e) → isOwn e = false := fun i e z => by
      unfold lend at z
      rw [List.getElem?_mapIdx] at z
      cases w : ρ[i]? with
      | none => rw [w] at z; cases z
      | some o =>
        rw [w] at z
        simp only [Option.map_some, Option.some.injEq] at z
        split at z
        · split at z
          · cases z; rfl
          · cases z
        · split at z
          · cases z; rfl
          · cases z
        · cases z
    rw [no i e qi] at oi; cases oi
  · have hh : ∀ b o, (∀ ps, o ≠ .tbl ps) → H b = some o → H' b = some o := fun b o nt z => s.hh b o (fun z => nomatch z) nt z
    refine hP Hf H' ⟨Ex.refl _, (e0.trans s.ff).trans s.fh, fun _ _ z => .inl z, fun b o _ nt z => hh b o nt z, s.nn, s.tp, fun b _ _ z => z⟩ ⟨?_, tbl, rel.mat.tf⟩
    have mm := rel.mat.m0
    cases pm with
    | none => exact mm
    | some p =>
      obtain ⟨m1, kvs, m2, m3, m4⟩ := mm
      exact ⟨m1, kvs, hh _ _ (fun _ z => by cases z) m2, m3, m4⟩
theorem m_pk (ms : List Nat) {e : Expr} {me : ME} (h : PE X e (rdE X.K S me)) : PE X e (rdE X.K S (.pk ms me)) := PE.weak h fun σ H Q h => by
  obtain ⟨pm, ρ, g, Hf, rel, h⟩ := h
  simp only [evE] at h
  cases q : evE S.call me (lend ms ρ) [] with
  | exc c d g1 => rw [q] at h; exact h.elim
  | stuck => rw [q] at h; exact h.elim
  | ok d g1 =>
    rw [q] at h
    have h : PostS X.K S pm Hf H (if scalD d = true then .ok d g else .stuck) fun d _ Hf' H' => ∀ v, At X.K pm Hf' v d → Q v H' := h
    split at h
    · rename_i hs
      obtain ⟨rel', k⟩ := pk_core (ms := ms) (P := fun H' => ∀ v, (∀ pm' Hf', At X.K pm' Hf' v d) → Q v H') rel hs fun Hf' H' s m v a => h Hf' H' s m v (a _ _)
      refine ⟨none, lend ms ρ, [], _, rel', ?_⟩
      rw [q]
      intro Hf' H' s m v a
      refine k Hf' H' s m.tb v fun pm' Hf2 => ?_
      cases d <;> first | exact a | cases hs
    · exact h.elim
theorem t_pk (ms : List Nat) {e : Expr} {me : ME} (h : PT X e (rdT X.K S me)) : PT X e (rdT X.K S (.pk ms me)) := PT.weak h fun σ H Q h => by
  obtain ⟨pm, ρ, g, Hf, rel, h⟩ := h
  simp only [evE] at h
  cases q : evE S.call me (lend ms ρ) [] with
  | exc c d g1 => rw [q] at h; exact h.elim
  | stuck => rw [q] at h; exact h.elim
  | ok d g1 =>
    rw [q] at h
    have h : PostS X.K S pm Hf H ((if scalD d = true then R.ok d g else .stuck).bind asB) fun b _ Hf' H' => Q b H' := h
    split at h
    · rename_i hs
      cases d with
      | bool b =>
        obtain ⟨rel', k⟩ := pk_core (ms := ms) (P := fun H' => Q b H') rel hs fun Hf' H' s m => h Hf' H' s m
        refine ⟨none, lend ms ρ, [], _, rel', ?_⟩
        rw [q]
        exact fun Hf' H' s m => k Hf' H' s m.tb
      | _ => exact h.elim
    · exact h.elim
end
end Mini

set_option maxRecDepth 100000
set_option maxHeartbeats 4000000
namespace Mini
open PySem L2 Evl

/-! ### statements -/
structure RelA (K : PySem.W.Frag) (pm : Option Addr) (H0 : Hp) (σ : St) (ρ : Env1) (g : G) (Hf H : Hp) : Prop where
  rel : Rel K pm σ ρ g Hf H
  fresh : ∀ (i : Nat) (e : Ent) (a : Addr), ρ[i]? = some (some e) → isOwn e = true → σ[i]? = some (some (V.ref a)) → H0 a = none
def EndS (K : PySem.W.Frag) (pm : Option Addr) (H0 : Hp) (D : Ends) (x : Fl × Env1) (g' : G) (Hf' H' : Hp) : Prop :=
  match x.1 with
  | .nx => ∀ σ', RelA K pm H0 σ' x.2 g' Hf' H' → D.nx σ' H'
  | .rt d => ∀ v, At K pm Hf' v d → D.rt v H'
  | .bk => ∀ σ', RelA K pm H0 σ' x.2 g' Hf' H' → D.bk σ' H'
  | .ct => ∀ σ', RelA K pm H0 σ' x.2 g' Hf' H' → D.ct σ' H'
/-- .. what was firm is firm -/
def EndF (K : PySem.W.Frag) (pm : Option Addr) (H0 Hf : Hp) (D : Ends) (x : Fl × Env1) (g' : G) (Hf' H' : Hp) : Prop := Ex Hf Hf' → EndS K pm H0 D x g' Hf' H'
def rdS (K : PySem.W.Frag) (S : Sg) (ms : MS) : TS := fun D σ H => ∃ pm Hf0 H0 ρ g Hf, RelA K pm H0 σ ρ g Hf H ∧ Stp pm Hf0 H0 Hf H ∧ PostS K S pm Hf0 H0 (exS S.call S.W ms ρ g) (EndF K pm H0 Hf D)
theorem Post.up {K : PySem.W.Frag} {cA : Nat → Addr} {cF : Nat → Str} {pm : Option Addr} {Hf0 H0 Hf Hf1 : Hp} {E : XK} {r : R (Fl × Env1)} {D : Ends} (h : Post K cA cF pm Hf0 H0 r E (EndF K pm H0 Hf D)) (e : Ex Hf Hf1) : Post K cA cF pm Hf0 H0 r E (EndF K pm H0 Hf1 D) :=
  h.mono fun _ _ _ _ _ _ q z => q (e.trans z)

/-- a later part, from the same floor -/
theorem Post.bindA {K : PySem.W.Frag} {cA : Nat → Addr} {cF : Nat → Str} {α β : Type} {pm : Option Addr} {Hf H : Hp} {E : XK} {r : R α} {k : α → G → R β} {Q : β → G → Hp → Hp → Prop} (h : Post K cA cF pm Hf H (r.bind k) E Q) :
    Post K cA cF pm Hf H r E (fun a g' _ _ => Post K cA cF pm Hf H (k a g') E Q) := by
  cases r with
  | ok a g' => exact fun _ _ _ _ => h
  | exc c d g' => exact h
  | stuck => exact h
section
variable {X : Cx} {S : Sg} {pos : Pos} {K : PySem.W.Frag}
/-- an expression of a statement -/
theorem exprS {pm : Option Addr} {Hf0 H0 Hf H : Hp} {e : ME} {β : Type} {ρ : Env1} {g : G} {σ : St} {k : D → G → R β} {Q : β → G → Hp → Hp → Prop} {Q2 : VK} (rel : RelA K pm H0 σ ρ g Hf H) (st : Stp pm Hf0 H0 Hf H) (h : PostS K S pm Hf0 H0 ((evE S.call e ρ g).bind k) Q)
    (w : ∀ d g1 Hf1 H1 v, RelA K pm H0 σ ρ g1 Hf1 H1 → Stp pm Hf0 H0 Hf1 H1 → Ex Hf Hf1 → At K pm Hf1 v d → PostS K S pm Hf0 H0 (k d g1) Q → Q2 v H1) : rdE K S e σ H Q2 :=
  ⟨pm, ρ, g, Hf, rel.rel, (Post.shift (Post.bindA h) st).mono fun d g1 Hf1 H1 s1 m1 h1 v a => w d g1 Hf1 H1 v ⟨rel.rel.step s1 m1, rel.fresh⟩ (st.trans s1) s1.ff a h1⟩
theorem testS {pm : Option Addr} {Hf0 H0 Hf H : Hp} {e : ME} {β : Type} {ρ : Env1} {g : G} {σ : St} {k : Bool → G → R β} {Q : β → G → Hp → Hp → Prop} {Q2 : Bool → Hp → Prop} (rel : RelA K pm H0 σ ρ g Hf H) (st : Stp pm Hf0 H0 Hf H) (h : PostS K S pm Hf0 H0 ((evE S.call e ρ g).bind fun x g1 => (asB x g1).bind k) Q)
    (w : ∀ b g1 Hf1 H1, RelA K pm H0 σ ρ g1 Hf1 H1 → Stp pm Hf0 H0 Hf1 H1 → Ex Hf Hf1 → PostS K S pm Hf0 H0 (k b g1) Q → Q2 b H1) : rdT K S e σ H Q2 := by
  rw [← R.bind_assoc] at h
  exact ⟨pm, ρ, g, Hf, rel.rel, (Post.shift (Post.bindA h) st).mono fun b g1 Hf1 H1 s1 m1 h1 => w b g1 Hf1 H1 ⟨rel.rel.step s1 m1, rel.fresh⟩ (st.trans s1) s1.ff h1⟩
theorem exprS' {pm : Option Addr} {Hf0 H0 Hf H : Hp} {e : ME} {β : Type} {ρ : Env1} {g : G} {σ : St} {k : D → G → R β} {Q : β → G → Hp → Hp → Prop} {Q2 : VK} {d0 : D} {v0 : V} (rel : RelA K pm H0 σ ρ g Hf H) (st : Stp pm Hf0 H0 Hf H) (a0 : At K pm Hf v0 d0) (h : PostS K S pm Hf0 H0 ((evE S.call e ρ g).bind k) Q)
    (w : ∀ d g1 Hf1 H1 v, RelA K pm H0 σ ρ g1 Hf1 H1 → Stp pm Hf0 H0 Hf1 H1 → Ex Hf Hf1 → At K pm Hf1 v0 d0 → At K pm Hf1 v d → PostS K S pm Hf0 H0 (k d g1) Q → Q2 v H1) : rdE K S e σ H Q2 :=
  ⟨pm, ρ, g, Hf, rel.rel, (Post.shift (Post.bindA h) st).mono fun d g1 Hf1 H1 s1 m1 h1 v a => w d g1 Hf1 H1 v ⟨rel.rel.step s1 m1, rel.fresh⟩ (st.trans s1) s1.ff (At.mono s1.ff _ _ a0) a h1⟩
theorem exprS'' {pm : Option Addr} {Hf0 H0 Hf H : Hp} {e : ME} {β : Type} {ρ : Env1} {g : G} {σ : St} {k : D → G → R β} {Q : β → G → Hp → Hp → Prop} {Q2 : VK} {d0 d00 : D} {v0 v00 : V} (rel : RelA K pm H0 σ ρ g Hf H) (st : Stp pm Hf0 H0 Hf H) (a0 : At K pm Hf v0 d0) (a00 : At K pm Hf v00 d00) (h : PostS K S pm Hf0 H0 ((evE S.call e ρ g).bind k) Q)
    (w : ∀ d g1 Hf1 H1 v, RelA K pm H0 σ ρ g1 Hf1 H1 → Stp pm Hf0 H0 Hf1 H1 → Ex Hf Hf1 → At K pm Hf1 v0 d0 → At K pm Hf1 v00 d00 → At K pm Hf1 v d → PostS K S pm Hf0 H0 (k d g1) Q → Q2 v H1) : rdE K S e σ H Q2 :=
  ⟨pm, ρ, g, Hf, rel.rel, (Post.shift (Post.bindA h) st).mono fun d g1 Hf1 H1 s1 m1 h1 v a => w d g1 Hf1 H1 v ⟨rel.rel.step s1 m1, rel.fresh⟩ (st.trans s1) s1.ff (At.mono s1.ff _ _ a0) (At.mono s1.ff _ _ a00) a h1⟩
theorem s_nil : PSs X [] (rdS X.K S .skip) := PSs.weak pss_nil fun D σ H h => by
  obtain ⟨pm, Hf0, H0, ρ, g, Hf, rel, st, h⟩ := h
  exact h Hf H st rel.rel.mat (Ex.refl _) σ rel
theorem s_pass : PS X (.Pass pos) (rdS X.K S .skip) := PS.weak ps_pass fun D σ H h => by
  obtain ⟨pm, Hf0, H0, ρ, g, Hf, rel, st, h⟩ := h
  exact h Hf H st rel.rel.mat (Ex.refl _) σ rel
theorem s_one {st : Stmt} {a : MS} (h : PS X st (rdS X.K S a)) : PSs X [st] (rdS X.K S a) := pss_one h
theorem s_seq {st : Stmt} {rest : List Stmt} {a b : MS} (h1 : PS X st (rdS X.K S a)) (h2 : PSs X rest (rdS X.K S b)) : PSs X (st :: rest) (rdS X.K S (.seq a b)) := PSs.weak (pss_cons h1 h2) fun D σ H h => by
  obtain ⟨pm, Hf0, H0, ρ, g, Hf, rel, st, h⟩ := h
  simp only [exS] at h
  refine ⟨pm, Hf0, H0, ρ, g, Hf, rel, st, (Post.bindA h).mono fun x g1 Hf1 H1 s1 m1 h1 => ?_⟩
  obtain ⟨f, ρ1⟩ := x
  cases f with
  | nx => exact fun e1 σ' r => ⟨pm, Hf0, H0, ρ1, g1, Hf1, r, s1, Post.up h1 e1⟩
  | rt d => exact h1 Hf1 H1 s1 m1
  | bk => exact h1 Hf1 H1 s1 m1
  | ct => exact h1 Hf1 H1 s1 m1
/-- a word of ours, nothing of the text's -/
theorem s_frz (i : Nat) {sts : List Stmt} {b : MS} (h : PSs X sts (rdS X.K S b)) : PSs X sts (rdS X.K S (.seq (.frz i) b)) := PSs.weak h fun D σ H h => by
  obtain ⟨pm, Hf0, H0, ρ, g, Hf, rel, st, h⟩ := h
  simp only [exS] at h
  split at h
  · rename_i xs hρ
    obtain ⟨v, hv, p, ws, rfl, n1, n2, hp, ha⟩ := rel.rel.ent i _ hρ
    have hi : i < ρ.length := (List.getElem?_eq_some_iff.mp hρ).1
    have f0 : H0 p = none := rel.fresh i _ p hρ rfl hv
    have st2 : Stp pm Hf0 H0 (upd Hf p (.lst ws)) H := st.firm f0 n2 hp
    have en : Ex Hf (upd Hf p (.lst ws)) := Ex.new n2
    have eo : ∀ (j : Nat) (e : Ent), (ρ.set i (some (.frz (.list xs))))[j]? = some (some e) → isOwn e = true → i ≠ j ∧ ρ[j]? = some (some e) := fun j e q o => by
      by_cases hj : i = j
      · subst hj
        rw [List.getElem?_set_self hi] at q
        cases q
        cases o
      · rw [List.getElem?_set_ne hj] at q
        exact ⟨hj, q⟩
    refine ⟨pm, Hf0, H0, _, g, upd Hf p (.lst ws), ⟨⟨st2.fh, rel.rel.mat.firm n1 n2 (nt_of hp (nt_lst _)), by rw [List.length_set]; exact rel.rel.len, fun j e q => ?_, fun j k e e' v ne qj qk oj ok sj sk => ?_⟩, fun j e a q o s => ?_⟩, st2, Post.up h en⟩
    · by_cases hj : i = j
      · subst hj
        rw [List.getElem?_set_self hi] at q
        cases q
        exact ⟨_, hv, p, ws, rfl, upd_same, AtL.mono en _ _ ha⟩
      · rw [List.getElem?_set_ne hj] at q
        obtain ⟨v2, w1, w2⟩ := rel.rel.ent j e q
        refine ⟨v2, w1, ?_⟩
        have nep : ∀ (p2 : Addr), isOwn e = true → v2 = V.ref p2 → p2 ≠ p := fun p2 o z zz => by
          subst z zz
          exact rel.rel.dis i j _ e _ hj hρ q rfl o hv w1
        cases e with
        | frz d => exact At.mono en d v2 w2
        | ownL ds =>
          obtain ⟨p2, xs2, e1, e2, e3, e4, e5⟩ := w2
          exact ⟨p2, xs2, e1, e2, by rw [upd_ne (nep p2 rfl e1)]; exact e3, e4, AtL.mono en _ _ e5⟩
        | ownD kvs =>
          obtain ⟨p2, xs2, e1, e2, e3, e4, e6, e5⟩ := w2
          exact ⟨p2, xs2, e1, e2, by rw [upd_ne (nep p2 rfl e1)]; exact e3, e4, e6, AtL.mono en _ _ e5⟩
        | scr ns => obtain ⟨a, e1, e3⟩ := w2; exact ⟨a, e1, SqL_mono en e3⟩
        | lckD kvs => obtain ⟨p, o, kws, e1, h1, h2, h3⟩ := w2; exact ⟨p, o, kws, e1, en _ _ h1, h2, AtL.mono en _ _ h3⟩
    · obtain ⟨_, q1⟩ := eo j e qj oj
      obtain ⟨_, q2⟩ := eo k e' qk ok
      exact rel.rel.dis j k e e' v ne q1 q2 oj ok sj sk
    · obtain ⟨_, q1⟩ := eo j e q o
      exact rel.fresh j e a q1 o s
  · exact h.elim
theorem s_expr {e : Expr} {me : ME} (he : PE X e (rdE X.K S me)) (hs : swapsWith e none pos.line X.env = pure false := by rfl) : PS X (.Expr e pos) (rdS X.K S (.expr me)) := PS.weak (ps_expr he hs) fun D σ H h => by
  obtain ⟨pm, Hf0, H0, ρ, g, Hf, rel, st, h⟩ := h
  simp only [exS] at h
  exact exprS rel st h fun d g1 Hf1 H1 v r1 s1 e1 a1 h1 => h1 Hf1 H1 s1 r1.rel.mat e1 σ r1
theorem s_ret {e : Expr} {me : ME} (he : PE X e (rdE X.K S me)) : PS X (.Return (some e) pos) (rdS X.K S (.ret me)) := PS.weak (ps_ret he) fun D σ H h => by
  obtain ⟨pm, Hf0, H0, ρ, g, Hf, rel, st, h⟩ := h
  simp only [exS] at h
  exact exprS rel st h fun d g1 Hf1 H1 v r1 s1 e1 a1 h1 => h1 Hf1 H1 s1 r1.rel.mat e1 v a1
theorem s_brk : PS X (.Break pos) (rdS X.K S .brk) := PS.weak ps_break fun D σ H h => by
  obtain ⟨pm, Hf0, H0, ρ, g, Hf, rel, st, h⟩ := h
  exact h Hf H st rel.rel.mat (Ex.refl _) σ rel
theorem s_cont : PS X (.Continue pos) (rdS X.K S .cont) := PS.weak ps_continue fun D σ H h => by
  obtain ⟨pm, Hf0, H0, ρ, g, Hf, rel, st, h⟩ := h
  exact h Hf H st rel.rel.mat (Ex.refl _) σ rel
theorem s_never {st : Stmt} : PS X st (rdS X.K S .never) := PS.weak ps_never fun D σ H h => by
  obtain ⟨pm, Hf0, H0, ρ, g, Hf, rel, st, h⟩ := h
  exact h
/-- a target takes a value, in a statement -/
theorem setS {pm : Option Addr} {Hf0 H0 Hf H : Hp} {t : MT} {d : D} {v : V} {ρ : Env1} {g : G} {σ : St} {De : Ends} {Q : Fl × Env1 → G → Hp → Hp → Prop} (rel : RelA K pm H0 σ ρ g Hf H) (st : Stp pm Hf0 H0 Hf H) (a : At K pm Hf v d) {k : Env1 → G → R (Fl × Env1)}
    (h : PostS K S pm Hf0 H0 ((R.of (setT t d ρ) g).bind k) Q) {Q2 : St → Hp → Prop} (w : ∀ ρ1 σ1, RelA K pm H0 σ1 ρ1 g Hf H → PostS K S pm Hf0 H0 (k ρ1 g) Q → Q2 σ1 H) : gD K t v σ H Q2 := by
  cases q : setT t d ρ with
  | none => rw [q] at h; exact h.elim
  | some ρ1 =>
    rw [q] at h
    exact setT_ok q rel.rel a fun σ1 r1 _ own => w ρ1 σ1 ⟨r1, fun i e p z o s => by
      obtain ⟨o1, o2⟩ := own i e z o
      rw [o2] at z; rw [o1] at s
      exact rel.fresh i e p z o s⟩ h
theorem rdS_asg {t : MT} {me : ME} {D : Ends} {σ : St} {H : Hp} (h : rdS K S (.asg t me) D σ H) : tAsg (rdE K S me) (gD K t) D σ H := by
  obtain ⟨pm, Hf0, H0, ρ, g, Hf, rel, st, h⟩ := h
  simp only [exS] at h
  exact exprS rel st h fun d g1 Hf1 H1 v r1 s1 e1 a1 h1 => setS (De := D) r1 s1 a1 h1 fun ρ1 σ1 r2 h2 => h2 Hf1 H1 s1 r2.rel.mat e1 σ1 r2
theorem s_set (i : Nat) {x : Str} {e : Expr} {me : ME} {pos' : Pos} (hN : X.N.Nodup) (he : PE X e (rdE X.K S me)) (hi : X.N[i]? = some x := by rfl) (hx : Loc X.env.scope x := by first | exact Or.inl rfl | exact Or.inr rfl) (hs : swapsWith e (some (.Name x pos')) pos.line X.env = pure false := by rfl)
    (hf : X.fn x = true ∨ X.env.scope.names.lookup x = some .local := by first | exact .inl rfl | exact .inr rfl) : PS X (.Assign [.Name x pos'] e pos) (rdS X.K S (.asg (.nm i) me)) := PS.weak (ps_set hN hi hx he hs hf) fun D σ H h => rdS_asg (t := .nm i) h
theorem s_asg {tg e : Expr} {me : ME} {t : MT} (he : PE X e (rdE X.K S me)) (hg : PG X tg (gD X.K t)) (hs : swapsWithSole [tg] e pos.line X.env = pure false := by rfl) (hw : swappedStores [tg] e X.env = pure none := by rfl)
    (h1 : (assignEach [tg] X.env).map (·.2) = [assign tg X.env] := by rfl) : PS X (.Assign [tg] e pos) (rdS X.K S (.asg t me)) := PS.weak (ps_asg he hg hs hw h1) fun D σ H h => rdS_asg h
/-- name = [..] -/
theorem s_setLc (i : Nat) (own : List (Str × Nat)) {y : Str} {py : Pos} {elt tg iter : Expr} {ifs : List Expr} {scope : Scope} {lpos : Pos} {t : MT} {mi : MI} {test melt : ME} (hc : X.calm = true) (hN : X.N.Nodup) (hy : X.N[i]? = some y) (hyl : X.env.scope.names.lookup y = some .local)
    (hsw : swapsWith (.ListComp elt [⟨tg, iter, ifs, 0⟩] scope lpos) (some (.Name y py)) pos.line X.env = pure true) (hi : PI X tg iter (rdI X.K S mi)) (ok : BlkOk X.N X.env.scope scope own)
    (hg : ∀ (s : Shared) (H : Hp) (C : Addr) (cl : List (Str × Addr)) (fp : List Addr), PG (X.blk s H scope (compEnvC scope cl C X.env) fp) tg (gD X.K t)) (ht : ∀ (s : Shared) (H : Hp) (C : Addr) (cl : List (Str × Addr)) (fp : List Addr), PTs (X.blk s H scope (compEnvC scope cl C X.env) fp) ifs (rdT X.K S.no test))
    (he : ∀ (s : Shared) (H : Hp) (C : Addr) (cl : List (Str × Addr)) (fp : List Addr), PE (X.blk s H scope (compEnvC scope cl C X.env) fp) elt (rdE X.K S.no melt)) (hin : ∀ j ∈ tgt t, j ∈ own.map (·.2) := by decide) (hs : ∀ x, foldedSetIterable iter X.env x = pure x := by intro _; rfl) :
    PS X (.Assign [.Name y py] (.ListComp elt [⟨tg, iter, ifs, 0⟩] scope lpos) pos) (rdS X.K S (.asg (.nm i) (.lc (own.map (·.2)) t mi test melt))) :=
  PS.weak (ps_setLc hc hN hy hyl hsw hi ok hg ht he hs) fun D σ H h => rd_lc (Q := fun v H' => gName i v σ H' D.nx) hin (rdS_asg (t := .nm i) h)
theorem s_setLc2 (i : Nat) (own : List (Str × Nat)) {vs1 : List Nat} {y : Str} {py : Pos} {elt tg iter tg1 iter1 : Expr} {ifs ifs1 : List Expr} {scope : Scope} {lpos : Pos} {t t1 : MT} {mi mi1 : MI} {test test1 melt : ME} (hc : X.calm = true) (hN : X.N.Nodup) (hy : X.N[i]? = some y) (hyl : X.env.scope.names.lookup y = some .local)
    (hsw : swapsWith (.ListComp elt [⟨tg, iter, ifs, 0⟩, ⟨tg1, iter1, ifs1, 0⟩] scope lpos) (some (.Name y py)) pos.line X.env = pure true) (hi : PI X tg iter (rdI X.K S mi)) (ok : BlkOk X.N X.env.scope scope own)
    (hg : ∀ (s : Shared) (H : Hp) (C : Addr) (cl : List (Str × Addr)) (fp : List Addr), PG (X.blk s H scope (compEnvC scope cl C X.env) fp) tg (gD X.K t)) (ht : ∀ (s : Shared) (H : Hp) (C : Addr) (cl : List (Str × Addr)) (fp : List Addr), PTs (X.blk s H scope (compEnvC scope cl C X.env) fp) ifs (rdT X.K S.no test))
    (hi1 : ∀ (s : Shared) (H : Hp) (C : Addr) (cl : List (Str × Addr)) (fp : List Addr), PI (X.blk s H scope (compEnvC scope cl C X.env) fp) tg1 iter1 (rdI X.K S.no mi1))
    (hg1 : ∀ (s : Shared) (H : Hp) (C : Addr) (cl : List (Str × Addr)) (fp : List Addr), PG (X.blk s H scope (compEnvC scope cl C X.env) fp) tg1 (gD X.K t1)) (ht1 : ∀ (s : Shared) (H : Hp) (C : Addr) (cl : List (Str × Addr)) (fp : List Addr), PTs (X.blk s H scope (compEnvC scope cl C X.env) fp) ifs1 (rdT X.K S.no test1))
    (he : ∀ (s : Shared) (H : Hp) (C : Addr) (cl : List (Str × Addr)) (fp : List Addr), PE (X.blk s H scope (compEnvC scope cl C X.env) fp) elt (rdE X.K S.no melt)) (hv : ∀ i ∈ vs1, i ∈ own.map (·.2) := by decide) (hin : ∀ j ∈ tgt t, j ∈ own.map (·.2) := by decide) (hin1 : ∀ j ∈ tgt t1, j ∈ vs1 := by decide)
    (hs : ∀ x, foldedSetIterable iter X.env x = pure x := by intro _; rfl) (hs1 : ∀ env x, foldedSetIterable iter1 env x = pure x := by intro _ _; rfl) :
    PS X (.Assign [.Name y py] (.ListComp elt [⟨tg, iter, ifs, 0⟩, ⟨tg1, iter1, ifs1, 0⟩] scope lpos) pos) (rdS X.K S (.asg (.nm i) (.lc2 (own.map (·.2)) vs1 t mi test t1 mi1 test1 melt))) :=
  PS.weak (ps_setLc2 hc hN hy hyl hsw hi ok hv hg ht hi1 hg1 ht1 he hs hs1) fun D σ H h => rd_lc2 (Q := fun v H' => gName i v σ H' D.nx) hin hin1 (rdS_asg (t := .nm i) h)
theorem parS {pm : Option Addr} {H0 Hf H : Hp} {is : List Nat} {ds : List D} {vs : List V} {ρ ρ' : Env1} {g : G} {σ : St} {Q2 : St → Hp → Prop} (q : setAll is ds ρ = some ρ') (rel : RelA K pm H0 σ ρ g Hf H) (a : AtL K pm Hf vs ds)
    (w : ∀ σ1, RelA K pm H0 σ1 ρ' g Hf H → Q2 σ1 H) : (is.foldr (fun i t => gCons (gName i) t) gNil) vs σ H Q2 :=
  setAll_ok is ds vs ρ ρ' σ Q2 q a rel.rel.len fun σ' h1 h2 h3 => w σ' ⟨rel.rel.put is h1 h2 h3 (setAll_len q), fun i e p z o s => by
    by_cases hm : i ∈ is
    · have hlt : i < ρ.length := by rw [← setAll_len q]; exact (List.getElem?_eq_some_iff.mp z).1
      obtain ⟨v, d, _, q2, _⟩ := h3 i hm hlt
      rw [z] at q2; cases q2
      cases o
    · obtain ⟨q1, q2⟩ := h2 i hm
      rw [q2] at z; rw [q1] at s
      exact rel.fresh i e p z o s⟩
/-- a, b = x, y -/
theorem s_par (i j : Nat) {x y : Str} {a b : Expr} {ma mb : ME} {px py pt : Pos} {kt k2 : Nat} {pt2 : Pos} (hc : X.calm = true) (hN : X.N.Nodup) (ha : PE X a (rdE X.K S ma)) (hb : PE X b (rdE X.K S mb)) (hi : X.N[i]? = some x := by rfl) (hj : X.N[j]? = some y := by rfl) (hij : i ≠ j := by decide)
    (hx : X.env.scope.names.lookup x = some .local := by rfl) (hy : X.env.scope.names.lookup y = some .local := by rfl)
    (hw : swappedStores [.Tuple [.Name x px, .Name y py] kt pt] (.Tuple [a, b] k2 pt2) X.env = pure (some [x, y]) := by rfl)
    (hs : swapsWithSole [.Tuple [.Name x px, .Name y py] kt pt] (.Tuple [a, b] k2 pt2) pos.line X.env = pure false := by rfl) (he : starEach [a, b] X.env = (false, eval a X.env) :: starEach [b] X.env := by rfl) (he2 : starEach [b] X.env = (false, eval b X.env) :: starEach [] X.env := by rfl) :
    PS X (.Assign [.Tuple [.Name x px, .Name y py] kt pt] (.Tuple [a, b] k2 pt2) pos) (rdS X.K S (.asg (.tp [i, j]) (.tup (.cons ma (.cons mb .nil))))) :=
  PS.weak (ps_par hc hN hi hj hij hx hy (pa_cons ha (pa_cons hb pa_nil he2) he) hw hs) fun D σ H h => by
    obtain ⟨pm, Hf0, H0, ρ, g, Hf, rel, st, h⟩ := h
    simp only [exS, evE, evA, R.bind_assoc, R.bind_ok] at h
    refine exprS rel st h fun d g1 Hf1 H1 v r1 s1 x1 a1 h1 => ?_
    refine exprS' r1 s1 a1 h1 fun d2 g2 Hf2 H2 v2 r2 s2 x2 a1' a2 h2 => ⟨v, v2, rfl, ?_⟩
    have h2 : PostS X.K S pm Hf0 H0 (.ok (.nx, (ρ.set i (some (.frz d))).set j (some (.frz d2))) g2) (EndF X.K pm H0 Hf D) := h2
    obtain ⟨_, _, e1, _, _, e2, _, z⟩ := parS (Q2 := D.nx) (is := [i, j]) (ds := [d, d2]) (vs := [v, v2]) rfl r2 ⟨a1', a2, trivial⟩ fun σ1 r3 => h2 Hf2 H2 s2 r3.rel.mat (x1.trans x2) σ1 r3
    cases e1; cases e2
    exact z
theorem s_par3 (i j l : Nat) {x y z : Str} {a b c : Expr} {ma mb mc : ME} {px py pz pt : Pos} {kt k2 : Nat} {pt2 : Pos} (hc : X.calm = true) (hN : X.N.Nodup) (ha : PE X a (rdE X.K S ma)) (hb : PE X b (rdE X.K S mb)) (hcc : PE X c (rdE X.K S mc)) (hi : X.N[i]? = some x := by rfl) (hj : X.N[j]? = some y := by rfl) (hl : X.N[l]? = some z := by rfl) (hij : i ≠ j := by decide) (hil : i ≠ l := by decide) (hjl : j ≠ l := by decide)
    (hx : X.env.scope.names.lookup x = some .local := by rfl) (hy : X.env.scope.names.lookup y = some .local := by rfl) (hz : X.env.scope.names.lookup z = some .local := by rfl)
    (hw : swappedStores [.Tuple [.Name x px, .Name y py, .Name z pz] kt pt] (.Tuple [a, b, c] k2 pt2) X.env = pure (some [x, y, z]) := by rfl)
    (hs : swapsWithSole [.Tuple [.Name x px, .Name y py, .Name z pz] kt pt] (.Tuple [a, b, c] k2 pt2) pos.line X.env = pure false := by rfl) (he : starEach [a, b, c] X.env = (false, eval a X.env) :: starEach [b, c] X.env := by rfl) (he2 : starEach [b, c] X.env = (false, eval b X.env) :: starEach [c] X.env := by rfl) (he3 : starEach [c] X.env = (false, eval c X.env) :: starEach [] X.env := by rfl) :
    PS X (.Assign [.Tuple [.Name x px, .Name y py, .Name z pz] kt pt] (.Tuple [a, b, c] k2 pt2) pos) (rdS X.K S (.asg (.tp [i, j, l]) (.tup (.cons ma (.cons mb (.cons mc .nil)))))) :=
  PS.weak (ps_par3 hc hN hi hj hl hij hil hjl hx hy hz (pa_cons ha (pa_cons hb (pa_cons hcc pa_nil he3) he2) he) hw hs) fun D σ H h => by
    obtain ⟨pm, Hf0, H0, ρ, g, Hf, rel, st, h⟩ := h
    simp only [exS, evE, evA, R.bind_assoc, R.bind_ok] at h
    refine exprS rel st h fun d g1 Hf1 H1 v r1 s1 x1 a1 h1 => ?_
    refine exprS' r1 s1 a1 h1 fun d2 g2 Hf2 H2 v2 r2 s2 x2 a1' a2 h2 => ?_
    refine exprS'' r2 s2 a1' a2 h2 fun d3 g3 Hf3 H3 v3 r3 s3 x3 b1 b2 b3 h3 => ⟨v, v2, v3, rfl, ?_⟩
    have h3 : PostS X.K S pm Hf0 H0 (.ok (.nx, ((ρ.set i (some (.frz d))).set j (some (.frz d2))).set l (some (.frz d3))) g3) (EndF X.K pm H0 Hf D) := h3
    obtain ⟨_, _, e1, _, _, e2, _, _, e3, _, z⟩ := parS (Q2 := D.nx) (is := [i, j, l]) (ds := [d, d2, d3]) (vs := [v, v2, v3]) rfl r3 ⟨b1, b2, b3, trivial⟩ fun σ1 r4 => h3 Hf3 H3 s3 r4.rel.mat ((x1.trans x2).trans x3) σ1 r4
    cases e1; cases e2; cases e3
    exact z

/-! ### if, while, for -/
theorem s_if {c : Expr} {a b : List Stmt} {mc : ME} {ma mb : MS} (hc : PT X c (rdT X.K S mc)) (ha : PSs X a (rdS X.K S ma)) (hb : PSs X b (rdS X.K S mb)) : PS X (.If c a b pos) (rdS X.K S (.ife mc ma mb)) := PS.weak (ps_if hc ha hb) fun D σ H h => by
  obtain ⟨pm, Hf0, H0, ρ, g, Hf, rel, st, h⟩ := h
  simp only [exS] at h
  refine testS rel st h fun k g1 Hf1 H1 r1 s1 e1 h1 => ?_
  cases k with
  | true => exact ⟨pm, Hf0, H0, ρ, g1, Hf1, r1, s1, Post.up h1 e1⟩
  | false => exact ⟨pm, Hf0, H0, ρ, g1, Hf1, r1, s1, Post.up h1 e1⟩
theorem s_while {c : Expr} {body : List Stmt} {mc : ME} {mb : MS} (hp : PassesOwn (model X.prog X.w) X.A X.env X.xe) (hc : PT X c (rdT X.K S mc)) (hb : PSs X body (rdS X.K S mb)) : PS X (.While c body [] pos) (rdS X.K S (.whl mc mb)) := PS.weak (ps_while hp hc hb) fun D σ H h => by
  obtain ⟨pm, Hf0, H0, ρ, g, Hf, rel, st, h⟩ := h
  simp only [exS] at h
  refine ⟨fun m σ' H' => ∃ ρ' g' Hf', RelA X.K pm H0 σ' ρ' g' Hf' H' ∧ Stp pm Hf0 H0 Hf' H' ∧ Ex Hf Hf' ∧ PostS X.K S pm Hf0 H0 (whileR (fun ρ g => (evE S.call mc ρ g).bind fun x g1 => asB x g1) (fun ρ g => exS S.call S.W mb ρ g) m ρ' g') (EndF X.K pm H0 Hf D), ⟨S.W, ρ, g, Hf, rel, st, Ex.refl _, h⟩, ?_⟩
  rintro m σ1 H1 ⟨ρ1, g1, Hf1, r1, s1, e1, h1⟩
  cases m with
  | zero => exact h1.elim
  | succ m =>
    simp only [whileR, R.bind_assoc] at h1
    refine testS r1 s1 h1 fun k g2 Hf2 H2 r2 s2 e2 h2 => ?_
    cases k with
    | false =>
      refine iteF ?_
      exact h2 Hf2 H2 s2 r2.rel.mat (e1.trans e2) σ1 r2
    | true =>
      refine iteT ⟨fun σ' H' => ∃ ρ' g' Hf', RelA X.K pm H0 σ' ρ' g' Hf' H' ∧ Stp pm Hf0 H0 Hf' H' ∧ Ex Hf Hf' ∧ PostS X.K S pm Hf0 H0 (whileR (fun ρ g => (evE S.call mc ρ g).bind fun x g1 => asB x g1) (fun ρ g => exS S.call S.W mb ρ g) m ρ' g') (EndF X.K pm H0 Hf D), fun σ' H' p => ⟨m, Nat.lt_succ_self m, p⟩, ?_⟩
      refine ⟨pm, Hf0, H0, ρ1, g2, Hf2, r2, s2, (Post.bindA h2).mono fun x g3 Hf3 H3 s3 m3 h3 e3 => ?_⟩
      have e13 := (e1.trans e2).trans e3
      obtain ⟨f, ρ3⟩ := x
      cases f with
      | nx => exact fun σ' r => ⟨ρ3, g3, Hf3, r, s3, e13, h3⟩
      | ct => exact fun σ' r => ⟨ρ3, g3, Hf3, r, s3, e13, h3⟩
      | bk => exact fun σ' r => h3 Hf3 H3 s3 m3 e13 σ' r
      | rt d => exact h3 Hf3 H3 s3 m3 e13
theorem s_for {tg iter : Expr} {body : List Stmt} {t : MT} {mi : MI} {mb : MS} (hp : PassesOwn (model X.prog X.w) X.A X.env X.xe) (hc : X.calm = true) (hi : PI X tg iter (rdI X.K S mi)) (hg : PG X tg (gD X.K t)) (hb : PSs X body (rdS X.K S mb))
    (hs : ∀ x, foldedSetIterable iter X.env x = pure x := by intro _; rfl) : PS X (.For tg iter body [] pos) (rdS X.K S (.forr t mi mb)) := PS.weak (ps_for hp hc hi hg hb hs) fun D σ H h => by
  obtain ⟨pm, Hf0, H0, ρ, g, Hf, rel, st, h⟩ := h
  simp only [exS] at h
  refine ⟨pm, ρ, g, Hf, rel.rel, (Post.shift (Post.bindA h) st).mono fun xs g1 Hf1 H1 s1 m1 h1 J hJ => ?_⟩
  have e01 : Ex Hf Hf1 := s1.ff
  let F : PyData → Env1 → G → R (Fl × Env1) := fun x ρ g => (R.of (setT t x ρ) g).bind fun ρ1 g1 => exS S.call S.W mb ρ1 g1
  have h1 : PostS X.K S pm Hf0 H0 (forR F xs ρ g1) (EndF X.K pm H0 Hf D) := h1
  refine ⟨fun i m σ' H' => m = xs.length - i ∧ i ≤ xs.length ∧ ∃ ρ' g' Hf', RelA X.K pm H0 σ' ρ' g' Hf' H' ∧ Stp pm Hf0 H0 Hf' H' ∧ Ex Hf1 Hf' ∧ PostS X.K S pm Hf0 H0 (forR F (xs.drop i) ρ' g') (EndF X.K pm H0 Hf D),
    ⟨xs.length, by simp, Nat.zero_le _, ρ, g1, Hf1, ⟨rel.rel.step s1 m1, rel.fresh⟩, st.trans s1, Ex.refl _, h1⟩, ?_⟩
  rintro i m σ2 H2 ⟨rfl, hi, ρ2, g2, Hf2, r2, s2, ex2, h2⟩
  by_cases hlt : i < xs.length
  · refine .inr ⟨hJ.go i Hf2 H2 ex2 r2.rel.ex hlt, fun σ' H' => i + 1 ≤ xs.length ∧ ∃ ρ' g' Hf', RelA X.K pm H0 σ' ρ' g' Hf' H' ∧ Stp pm Hf0 H0 Hf' H' ∧ Ex Hf1 Hf' ∧ PostS X.K S pm Hf0 H0 (forR F (xs.drop (i + 1)) ρ' g') (EndF X.K pm H0 Hf D), fun σ' H' p => ⟨xs.length - (i + 1), by omega, rfl, p⟩, fun x H' y => ?_⟩
    obtain ⟨d, Hf3, hd, s3, m3, ax⟩ := hJ.yld i Hf2 H2 x H' g2 ex2 r2.rel.ex r2.rel.mat hlt y
    rw [drop_cons hd] at h2
    simp only [forR] at h2
    have h2 : PostS X.K S pm Hf0 H0 ((R.of (setT t d ρ2) g2).bind fun ρ1 g1 => (exS S.call S.W mb ρ1 g1).bind fun y g2 => match y.1 with
      | .nx => forR F (xs.drop (i + 1)) y.2 g2
      | .ct => forR F (xs.drop (i + 1)) y.2 g2
      | .bk => .ok (.nx, y.2) g2
      | .rt d => .ok (.rt d, y.2) g2) (EndF X.K pm H0 Hf D) := by
      rw [← R.bind_assoc]
      exact h2
    refine setS (De := D) (⟨r2.rel.step s3 m3, r2.fresh⟩ : RelA X.K pm H0 σ2 ρ2 g2 Hf3 H') (s2.trans s3) ax h2 fun ρ4 σ4 r4 h4 => ?_
    have e23 := s3.ff
    refine ⟨pm, Hf0, H0, ρ4, g2, Hf3, r4, s2.trans s3, (Post.bindA h4).mono fun x5 g5 Hf5 H5 s5 m5 h5 e5 => ?_⟩
    have e15 : Ex Hf1 Hf5 := (ex2.trans e23).trans e5
    obtain ⟨f, ρ5⟩ := x5
    cases f with
    | nx => exact fun σ' r => ⟨hlt, ρ5, g5, Hf5, r, s5, e15, h5⟩
    | ct => exact fun σ' r => ⟨hlt, ρ5, g5, Hf5, r, s5, e15, h5⟩
    | bk => exact fun σ' r => h5 Hf5 H5 s5 m5 (e01.trans e15) σ' r
    | rt d => exact h5 Hf5 H5 s5 m5 (e01.trans e15)
  · have e : i = xs.length := by omega
    subst e
    rw [List.drop_length] at h2
    exact .inl ⟨hJ.stop Hf2 H2 ex2 r2.rel.ex, h2 Hf2 H2 s2 r2.rel.mat (e01.trans ex2) σ2 r2⟩
end
end Mini

set_option maxRecDepth 100000
set_option maxHeartbeats 4000000
namespace Mini
open PySem L2 Evl

section
variable {X : Cx} {S : Sg} {pos : Pos} {K : PySem.W.Frag}
theorem Stp.free0 {pm : Option Addr} {Hf0 H0 Hf H : Hp} {p : Addr} (s : Stp pm Hf0 H0 Hf H) (h : H p = none) : H0 p = none := by
  cases q : H0 p with
  | none => rfl
  | some o =>
    exact absurd h (s.nn p (by rw [q]; simp))
theorem getElem?_set_cases {α : Type} {l : List α} {i j : Nat} {a b : α} (h : (l.set i a)[j]? = some b) : (i = j ∧ b = a ∧ i < l.length) ∨ (i ≠ j ∧ l[j]? = some b) := by
  by_cases e : i = j
  · subst e
    by_cases hl : i < l.length
    · rw [List.getElem?_set_self hl] at h
      exact .inl ⟨rfl, (Option.some.inj h).symm, hl⟩
    · rw [List.getElem?_eq_none (by rw [List.length_set]; omega)] at h; cases h
  · rw [List.getElem?_set_ne e] at h
    exact .inr ⟨e, h⟩
/-- a new object of one's own -/
theorem RelA.own {pm : Option Addr} {H0 Hf H : Hp} {σ : St} {ρ : Env1} {g : G} {i : Nat} {p : Addr} {o : HO} {e0 : Ent} (r : RelA K pm H0 σ ρ g Hf H) (h0 : H0 p = none) (hp : H p = none) (he : EntAt K pm Hf (upd H p o) (.ref p) e0) :
    RelA K pm H0 (σ.set i (some (.ref p))) (ρ.set i (some e0)) g Hf (upd H p o) := by
  have st := Stp.own (pm := pm) (o := o) r.rel.ex hp
  have ne : ∀ (j : Nat) (e : Ent) (v : V), ρ[j]? = some (some e) → isOwn e = true → σ[j]? = some (some v) → v ≠ .ref p := fun j e v q ow s z => by
    obtain ⟨v2, w1, w2⟩ := r.rel.ent j e q
    rw [s] at w1; cases w1
    cases e with
    | frz d => cases ow
    | ownL ds => obtain ⟨p2, xs, e1, _, _, e2, _⟩ := w2; rw [e1] at z; cases z; rw [hp] at e2; cases e2
    | ownD ds => obtain ⟨p2, xs, e1, _, _, e2, _⟩ := w2; rw [e1] at z; cases z; rw [hp] at e2; cases e2
    | scr ns => cases ow
    | lckD kvs => cases ow
  refine ⟨⟨st.fh, r.rel.mat.own hp, by rw [List.length_set, List.length_set]; exact r.rel.len, fun j e q => ?_, fun j k e e' v nj qj qk oj ok sj sk => ?_⟩, fun j e a q ow s => ?_⟩
  · rcases getElem?_set_cases q with ⟨rfl, q, hl⟩ | ⟨n, q⟩
    · cases q
      exact ⟨.ref p, List.getElem?_set_self (by rw [r.rel.len]; exact hl), he⟩
    · obtain ⟨v, w1, w2⟩ := r.rel.ent j e q
      exact ⟨v, by rw [List.getElem?_set_ne n]; exact w1, w2.step st⟩
  · rcases getElem?_set_cases qj with ⟨rfl, q, hl⟩ | ⟨n, q⟩
    · rcases getElem?_set_cases qk with ⟨z, _, _⟩ | ⟨n2, q2⟩
      · exact nj z
      · rw [List.getElem?_set_self (by rw [r.rel.len]; exact hl)] at sj
        rw [List.getElem?_set_ne n2] at sk
        cases sj
        exact ne k e' _ q2 ok sk rfl
    · rcases getElem?_set_cases qk with ⟨rfl, q2, hl⟩ | ⟨n2, q2⟩
      · rw [List.getElem?_set_self (by rw [r.rel.len]; exact hl)] at sk
        rw [List.getElem?_set_ne n] at sj
        cases sk
        exact ne j e _ q oj sj rfl
      · rw [List.getElem?_set_ne n] at sj
        rw [List.getElem?_set_ne n2] at sk
        exact r.rel.dis j k e e' v nj q q2 oj ok sj sk
  · rcases getElem?_set_cases q with ⟨rfl, q, hl⟩ | ⟨n, q⟩
    · rw [List.getElem?_set_self (by rw [r.rel.len]; exact hl)] at s
      cases s
      exact h0
    · rw [List.getElem?_set_ne n] at s
      exact r.fresh j e a q ow s
/-- an object of one's own changes -/
theorem RelA.chg {pm : Option Addr} {H0 Hf H : Hp} {σ : St} {ρ : Env1} {g : G} {i : Nat} {p : Addr} {o : HO} {e e0 : Ent} (r : RelA K pm H0 σ ρ g Hf H) (hi : ρ[i]? = some (some e)) (ho : isOwn e = true) (hs : σ[i]? = some (some (.ref p))) (n1 : pm ≠ some p) (n2 : Hf p = none) (nt : ∀ u, H p = some u → NotTab u) (he : EntAt K pm Hf (upd H p o) (.ref p) e0) :
    RelA K pm H0 σ (ρ.set i (some e0)) g Hf (upd H p o) := by
  have h0 := r.fresh i e p hi ho hs
  have hl : i < ρ.length := (List.getElem?_eq_some_iff.mp hi).1
  refine ⟨⟨Ex.mut r.rel.ex n2, r.rel.mat.mut n1 nt, by rw [List.length_set]; exact r.rel.len, fun j e' q => ?_, fun j k e1 e2 v nj qj qk oj ok sj sk => ?_⟩, fun j e' a q ow s => ?_⟩
  · rcases getElem?_set_cases q with ⟨rfl, q, _⟩ | ⟨n, q⟩
    · cases q
      exact ⟨.ref p, hs, he⟩
    · obtain ⟨v, w1, w2⟩ := r.rel.ent j e' q
      refine ⟨v, w1, ?_⟩
      have nep : isOwn e' = true → v ≠ .ref p := fun ow z => by subst z; exact r.rel.dis i j e e' _ n hi q ho ow hs w1
      cases e' with
      | frz d => exact w2
      | ownL ds =>
        obtain ⟨p2, xs, e1, a1, a2, a3, a4⟩ := w2
        have : p2 ≠ p := fun z => nep rfl (by rw [e1, z])
        exact ⟨p2, xs, e1, a1, a2, by rw [upd_ne this]; exact a3, a4⟩
      | ownD ds =>
        obtain ⟨p2, xs, e1, a1, a2, a3, a4⟩ := w2
        have : p2 ≠ p := fun z => nep rfl (by rw [e1, z])
        exact ⟨p2, xs, e1, a1, a2, by rw [upd_ne this]; exact a3, a4⟩
      | scr ns => exact w2
      | lckD kvs => exact w2
  · rcases getElem?_set_cases qj with ⟨rfl, q, _⟩ | ⟨n, q⟩
    · rcases getElem?_set_cases qk with ⟨z, _, _⟩ | ⟨n2, q2⟩
      · exact nj z
      · exact r.rel.dis i k e e2 v n2 hi q2 ho ok sj sk
    · rcases getElem?_set_cases qk with ⟨rfl, q2, _⟩ | ⟨n2, q2⟩
      · exact r.rel.dis j i e1 e v (fun z => n z.symm) q hi oj ho sj sk
      · exact r.rel.dis j k e1 e2 v nj q q2 oj ok sj sk
  · rcases getElem?_set_cases q with ⟨rfl, q, _⟩ | ⟨n, q⟩
    · rw [hs] at s; cases s
      exact h0
    · exact r.fresh j e' a q ow s
theorem s_newL (i : Nat) {x : Str} {lp pos' : Pos} (hN : X.N.Nodup) (hi : X.N[i]? = some x := by rfl) (hx : Loc X.env.scope x := by first | exact Or.inl rfl | exact Or.inr rfl) (hf : X.fn x = true ∨ X.env.scope.names.lookup x = some .local := by first | exact .inl rfl | exact .inr rfl) :
    PS X (.Assign [.Name x pos'] (.List [] lp) pos) (rdS X.K S (.newL i)) := PS.weak (ps_set hN hi hx (pe_lst pa_nil) rfl hf) fun D σ H h => by
  obtain ⟨pm, Hf0, H0, ρ, g, Hf, rel, st, h⟩ := h
  refine ⟨Nat.zero_le _, fun p hp => ?_⟩
  have f0 := st.free0 hp
  exact h Hf _ (st.mut f0 (fresh_back rel.rel.ex hp)) (rel.rel.mat.own hp) (Ex.refl _) _ (rel.own f0 hp ⟨p, [], rfl, rel.rel.mat.ne hp, fresh_back rel.rel.ex hp, upd_same, trivial⟩)
theorem s_newD (i : Nat) {x : Str} {lp pos' : Pos} (hN : X.N.Nodup) (hi : X.N[i]? = some x := by rfl) (hx : Loc X.env.scope x := by first | exact Or.inl rfl | exact Or.inr rfl) (hf : X.fn x = true ∨ X.env.scope.names.lookup x = some .local := by first | exact .inl rfl | exact .inr rfl) :
    PS X (.Assign [.Name x pos'] (.Dict [] [] lp) pos) (rdS X.K S (.newD i)) := PS.weak (ps_set hN hi hx pe_dnewT rfl hf) fun D σ H h => by
  obtain ⟨pm, Hf0, H0, ρ, g, Hf, rel, st, h⟩ := h
  intro p hp
  have f0 := st.free0 hp
  exact h Hf _ (st.mut f0 (fresh_back rel.rel.ex hp)) (rel.rel.mat.own hp) (Ex.refl _) _ (rel.own f0 hp ⟨p, [], rfl, rel.rel.mat.ne hp, fresh_back rel.rel.ex hp, upd_same, rfl, trivial⟩)
theorem s_newLl (i : Nat) {x : Str} {e : Expr} {me : ME} {yp pos' cpos : Pos} (hN : X.N.Nodup) (he : PE X e (rdE X.K S me)) (hg : Gl X "list") (hm : X.mg "list" = none) (hi : X.N[i]? = some x := by rfl) (hx : Loc X.env.scope x := by first | exact Or.inl rfl | exact Or.inr rfl) (hf : X.fn x = true ∨ X.env.scope.names.lookup x = some .local := by first | exact .inl rfl | exact .inr rfl)
    (hs1 : starEach [e] X.env = (false, eval e X.env) :: starEach [] X.env := by rfl) : PS X (.Assign [.Name x pos'] (.Call (.Name "list" yp) [e] [] cpos) pos) (rdS X.K S (.newLl i me)) :=
  PS.weak (ps_set hN hi hx (pe_callTy call_list_of hg hm (by decide +kernel) (pa_cons he pa_nil hs1) (by decide +kernel) (by decide +kernel) hs1 rfl) rfl hf) fun D σ H h => by
    obtain ⟨pm, Hf0, H0, ρ, g, Hf, rel, st, h⟩ := h
    simp only [exS] at h
    refine exprS rel st h fun d g1 Hf1 H1 v r1 s1 e1 a1 h1 => ?_
    cases d with
    | list xs =>
      obtain ⟨p, vs, rfl, hp, hv⟩ := a1
      refine ⟨p, vs, rfl, .inl (sq_of (s1.fh _ _ hp)), fun l hl => ?_⟩
      have f0 := s1.free0 hl
      have fl := fresh_back r1.rel.ex hl
      exact h1 Hf1 _ (s1.mut f0 fl) (r1.rel.mat.own hl) e1 _ (r1.own f0 hl ⟨l, vs, rfl, r1.rel.mat.ne hl, fl, upd_same, hv⟩)
    | tuple xs =>
      obtain ⟨p, vs, rfl, hp, hv⟩ := a1
      refine ⟨p, vs, rfl, .inr (st_of (s1.fh _ _ hp)), fun l hl => ?_⟩
      have f0 := s1.free0 hl
      have fl := fresh_back r1.rel.ex hl
      exact h1 Hf1 _ (s1.mut f0 fl) (r1.rel.mat.own hl) e1 _ (r1.own f0 hl ⟨l, vs, rfl, r1.rel.mat.ne hl, fl, upd_same, hv⟩)
    | _ => exact h1.elim
theorem s_app (i : Nat) {x : Str} {e : Expr} {me : ME} {xp ap cpos : Pos} (hv : PE X (.Name x xp) (tVar i)) (he : PE X e (rdE X.K S me))
    (hb : attributeBase (.Name x xp) "append" X.env (eval (.Name x xp) X.env) = eval (.Name x xp) X.env := by rfl) (hfew : ((backTo cpos (starEach [e] X.env)).all (fun x => !x.1) && (backToKw cpos (keywordEach [] X.env)).all (fun x => x.1.isSome)
      && decide (([e] : List Expr).length + ([] : List Keyword).length + (if ([] : List Keyword).isEmpty then 0 else 1) < 30)) = true := by rfl)
    (hline : (ap.endLine == cpos.line) = true := by rfl) (hs : starEach [e] X.env = (false, eval e X.env) :: starEach [] X.env := by rfl) : PS X (.Expr (.Call (.Attribute (.Name x xp) "append" ap) [e] [] cpos) pos) (rdS X.K S (.app i me)) :=
  PS.weak (ps_expr (pe_bm PySem.F.plainAttrs_list PySem.F.slot_list_append PySem.F.type_list_append mt_append hv (pa_cons he pa_nil hs) hb hfew hline hs rfl) rfl) fun D σ H h => by
    obtain ⟨pm, Hf0, H0, ρ, g, Hf, rel, st, h⟩ := h
    simp only [exS] at h
    split at h
    · rename_i xs hρ
      obtain ⟨v, hσ, p, ws, rfl, n1, n2, hp, ha⟩ := rel.rel.ent i _ hρ
      refine ⟨.ref p, hσ, .inl ⟨rfl, ws, sq_of hp⟩, ?_⟩
      refine exprS rel st h fun d g1 Hf1 H1 v r1 s1 e1 a1 h1 => ?_
      obtain ⟨v2, hσ2, p2, ws2, e2, n12, n22, hp2, ha2⟩ := r1.rel.ent i _ hρ
      subst e2
      rw [hσ] at hσ2; cases hσ2
      split at h1
      · rename_i hl
        refine ⟨p, ws2, v, rfl, rfl, hp2, by rw [ha2.length, sizeLine_eq]; omega, ?_⟩
        exact h1 Hf1 _ (s1.mut (r1.fresh i _ p hρ rfl hσ) n22) (r1.rel.mat.mut n12 (nt_of hp2 (nt_lst _))) e1 σ (r1.chg hρ rfl hσ n12 n22 (nt_of hp2 (nt_lst _)) ⟨p, ws2 ++ [v], rfl, n12, n22, upd_same, AtL.append ha2 ⟨a1, trivial⟩⟩)
      · exact h1.elim
    · exact h.elim
theorem AtL.dropLast {pm : Option Addr} {H : Hp} : ∀ {vs : List V} {ds : List PyData}, AtL K pm H vs ds → AtL K pm H vs.dropLast ds.dropLast
  | [], [], h => h
  | [_], [_], _ => trivial
  | v :: v2 :: vs, d :: d2 :: ds, h => ⟨h.1, AtL.dropLast (vs := v2 :: vs) (ds := d2 :: ds) h.2⟩
  | [], _ :: _, h => h.elim
  | _ :: _, [], h => h.elim
  | [_], _ :: _ :: _, h => h.2.elim
  | _ :: _ :: _, [_], h => h.2.elim
theorem s_pop (i : Nat) {x : Str} {xp ap cpos : Pos} (hv : PE X (.Name x xp) (tVar i))
    (hb : attributeBase (.Name x xp) "pop" X.env (eval (.Name x xp) X.env) = eval (.Name x xp) X.env := by rfl) (hline : (ap.endLine == cpos.line) = true := by rfl) : PS X (.Expr (.Call (.Attribute (.Name x xp) "pop" ap) [] [] cpos) pos) (rdS X.K S (.pop i)) :=
  PS.weak (ps_expr (pe_bm0 PySem.F.plainAttrs_list PySem.F.slot_list_pop PySem.F.type_list_pop mt_pop hv hb hline) rfl) fun D σ H h => by
    obtain ⟨pm, Hf0, H0, ρ, g, Hf, rel, st, h⟩ := h
    simp only [exS] at h
    split at h
    · rename_i d0 xs hρ
      obtain ⟨v, hσ, p, ws, rfl, n1, n2, hp, ha⟩ := rel.rel.ent i _ hρ
      refine ⟨.ref p, hσ, .inl ⟨rfl, ws, sq_of hp⟩, ?_⟩
      have hl := ha.length
      rw [List.length_cons] at hl
      have hlt : ws.length - 1 < ws.length := by omega
      refine ⟨p, ws, ws[ws.length - 1], rfl, rfl, hp, List.getElem?_eq_getElem hlt, ?_⟩
      exact h Hf _ (st.mut (rel.fresh i _ p hρ rfl hσ) n2) (rel.rel.mat.mut n1 (nt_of hp (nt_lst _))) (Ex.refl _) σ (rel.chg hρ rfl hσ n1 n2 (nt_of hp (nt_lst _)) ⟨p, ws.dropLast, rfl, n1, n2, upd_same, AtL.dropLast ha⟩)
    · exact h.elim
theorem s_dset (i : Nat) {x : Str} {k e : Expr} {mk me : ME} {xp pos' : Pos} (hu : X.A.units + 1 < cLine) (hv : PE X (.Name x xp) (tVar i)) (hk : PE X k (rdE X.K S mk)) (he : PE X e (rdE X.K S me)) (hs : swapsWith e (some (.Subscript (.Name x xp) k pos')) pos.line X.env = pure false := by rfl) :
    PS X (.Assign [.Subscript (.Name x xp) k pos'] e pos) (rdS X.K S (.dset i mk me)) := PS.weak (ps_dput hu hv hk he hs) fun D σ H h => by
  obtain ⟨pm, Hf0, H0, ρ, g, Hf, rel, st, h⟩ := h
  simp only [exS] at h
  split at h
  · rename_i kvs hρ
    refine exprS rel st h fun d g1 Hf1 H1 v r1 s1 e1 a1 h1 => ?_
    obtain ⟨v2, hσ, _⟩ := r1.rel.ent i _ hρ
    refine ⟨v2, hσ, ?_⟩
    refine exprS' r1 s1 a1 h1 fun dk g2 Hf2 H2 vk r2 s2 e2 a1' a2 h2 => ?_
    obtain ⟨v3, hσ2, p, kws, e3, n1, n2, hp, hkeys, ha⟩ := r2.rel.ent i _ hρ
    subst e3
    rw [hσ] at hσ2; cases hσ2
    cases q : asKey dk with
    | none => rw [q] at h2; exact h2.elim
    | some kk =>
      rw [q] at h2
      obtain ⟨b, rfl, hb⟩ := asKey_at a2 q
      have h2 : PostS X.K S pm Hf0 H0 (if kvs.length < 1000 then .ok (.nx, ρ.set i (some (.ownD (putD kvs kk d)))) g2 else .stuck) (EndF X.K pm H0 Hf D) := h2
      split at h2
      · rename_i hl
        have hl2 : kws.length = kvs.length := by
          have := congrArg List.length hkeys
          simpa using this
        obtain ⟨k1, k2⟩ := putD_at (k := kk) hkeys ha a1'
        refine ⟨p, upd H2 p (.dT (L2.putK kws kk v)), rfl, DPut.t hp (s2.fh _ _ hb) (by rw [hl2, sizeLine_eq]; omega), ?_⟩
        exact h2 Hf2 _ (s2.mut (r2.fresh i _ p hρ rfl hσ) n2) (r2.rel.mat.mut n1 (nt_of hp (nt_dT _))) (e1.trans e2) σ (r2.chg hρ rfl hσ n1 n2 (nt_of hp (nt_dT _)) ⟨p, _, rfl, n1, n2, upd_same, k1, k2⟩)
      · exact h2.elim
  · exact h.elim
/-- m changes -/
theorem RelA.chgM {p : Addr} {H0 Hf H : Hp} {σ : St} {ρ : Env1} {g g' : G} {kvs : List (Key × V)} (r : RelA K (some p) H0 σ ρ g Hf H) (h1 : kvs.map (·.1) = g'.map (fun x => Sum.inr x.1)) (h2 : AtL K (some p) Hf (kvs.map (·.2)) (g'.map (·.2))) :
    RelA K (some p) H0 σ ρ g' Hf (upd H p (.dK kvs)) := by
  obtain ⟨n2, kvs0, hp0, _, _⟩ := r.rel.mat.m0
  refine ⟨⟨Ex.mut r.rel.ex n2, ⟨⟨n2, kvs, upd_same, h1, h2⟩, r.rel.mat.tb.mut (nt_of hp0 (nt_dK _)), r.rel.mat.tf⟩, r.rel.len, fun j e q => ?_, r.rel.dis⟩, r.fresh⟩
  obtain ⟨v, w1, w2⟩ := r.rel.ent j e q
  refine ⟨v, w1, ?_⟩
  cases e with
  | frz d => exact w2
  | ownL ds =>
    obtain ⟨p2, xs, e1, a1, a2, a3, a4⟩ := w2
    have : p2 ≠ p := fun z => a1 (by rw [z])
    exact ⟨p2, xs, e1, a1, a2, by rw [upd_ne this]; exact a3, a4⟩
  | ownD ds =>
    obtain ⟨p2, xs, e1, a1, a2, a3, a4⟩ := w2
    have : p2 ≠ p := fun z => a1 (by rw [z])
    exact ⟨p2, xs, e1, a1, a2, by rw [upd_ne this]; exact a3, a4⟩
  | scr ns => exact w2
  | lckD kvs => exact w2
theorem Stp.chgM {p : Addr} {Hf0 H0 Hf H : Hp} {kvs : List (Key × V)} (s : Stp (some p) Hf0 H0 Hf H) (n : Hf p = none) : Stp (some p) Hf0 H0 Hf (upd H p (.dK kvs)) := by
  refine ⟨s.ff, Ex.mut s.fh n, s.fr, fun b u nb nt q => ?_, fun b q z => ?_, fun b xs q => ?_, s.pp⟩
  · have ne : b ≠ p := fun z => nb (by rw [z])
    rw [upd_ne ne]
    exact s.hh b u nb nt q
  · unfold upd at z
    split at z
    · cases z
    · exact s.nn b q z
  · unfold upd at q
    split at q
    · have z := Option.some.inj q; cases z
    · exact s.tp b xs q
theorem putD_inr {k : Str} {d : PyData} (g : G) : (putD (g.map (fun x => ((Sum.inr x.1 : Key), x.2))) (Sum.inr k) d) = (putD g k d).map (fun x => ((Sum.inr x.1 : Key), x.2)) := by
  have dec : ∀ (a : Str), decide ((Sum.inr a : Key) = Sum.inr k) = decide (a = k) := fun a => by
    by_cases z : a = k
    · subst z; simp
    · rw [decide_eq_false z, decide_eq_false fun q => z (Sum.inr.inj q)]
  unfold putD
  have an : ((g.map (fun x => ((Sum.inr x.1 : Key), x.2))).any fun kv => decide (kv.1 = Sum.inr k)) = (g.any fun kv => decide (kv.1 = k)) := by
    rw [List.any_map]
    congr 1
    funext x
    exact dec x.1
  rw [an]
  split
  · rw [List.map_map, List.map_map]
    congr 1
    funext x
    simp only [Function.comp]
    by_cases z : x.1 = k
    · rw [if_pos (congrArg Sum.inr z), if_pos z]
    · rw [if_neg fun q => z (Sum.inr.inj q), if_neg z]
  · rw [List.map_append]; rfl
theorem s_mset {a e : Expr} {k : Str} {j : Nat} {ma me : ME} {kp pos' : Pos} (hu : X.A.units + 1 < cLine) (ha : PE X a (rdE X.K S ma)) (he : PE X e (rdE X.K S me)) (hs : swapsWith e (some (.Subscript a (.Constant (.str k) j kp) pos')) pos.line X.env = pure false := by rfl) :
    PS X (.Assign [.Subscript a (.Constant (.str k) j kp) pos'] e pos) (rdS X.K S (.mset ma k me)) := PS.weak (ps_dput hu ha pe_str he hs) fun D σ H h => by
  obtain ⟨pm, Hf0, H0, ρ, g, Hf, rel, st, h⟩ := h
  simp only [exS] at h
  refine exprS rel st h fun d g1 Hf1 H1 v r1 s1 e1 a1 h1 => ?_
  refine exprS' r1 s1 a1 h1 fun dm g2 Hf2 H2 vm r2 s2 e2 a1' a2 h2 => ?_
  split at h2
  · split at h2
    · rename_i hl
      obtain ⟨_, p, hp, rfl⟩ := a2
      subst hp
      obtain ⟨m1, kvs, m2, m3, m4⟩ := id r2.rel.mat.m0
      have e3 : kvs.map (·.1) = (g2.map (fun x => ((Sum.inr x.1 : Key), x.2))).map (·.1) := by rw [m3, List.map_map]; rfl
      have e4 : (g2.map (fun x => ((Sum.inr x.1 : Key), x.2))).map (·.2) = g2.map (·.2) := by rw [List.map_map]; rfl
      have lk : kvs.length = g2.length := by
        have := congrArg List.length m3
        simpa using this
      obtain ⟨q1, q2⟩ := putD_at (k := (Sum.inr k : Key)) (v := v) (d := d) e3 (by rw [e4]; exact m4) a1'
      rw [putD_inr] at q1 q2
      refine ⟨p, upd H2 p (.dK (L2.putK kvs (Sum.inr k) v)), rfl, DPut.k (k := Sum.inr k) m2 (by rw [lk, sizeLine_eq]; omega), ?_⟩
      have r3 := r2.chgM (g' := putD g2 k d) (kvs := L2.putK kvs (Sum.inr k) v) (by rw [q1, List.map_map]; rfl) (by
        rw [List.map_map] at q2
        exact q2)
      exact h2 Hf2 _ (s2.chgM m1) r3.rel.mat (e1.trans e2) σ r3
    · exact h2.elim
  · exact h2.elim

/-! ### a def keeps its promise -/
theorem fn_body {P : Program} {w : World} {K : PySem.W.Frag} {mg : Str → Option Value} {base : Heap} {x qual : Str} {st : Stmt} {f : Addr} {fd : FuncData} {N ps : List Str} {k fi W : Nat} {F : Fn} {cA : Nat → Addr} {cF : Nat → Str} {call : Nat → List PyData → G → R PyData} {call' : Nat → List PyData → G → R PyData}
    (Fu : Fun K x qual st f fd) (Sc : FnScope N ps (defScope st)) (hn : F.np = ps.length) (hN : F.nN = N.length) (hc : ∀ ds g, call' fi ds g = runB call W F ds g)
    (hb : ∀ (cdv : Value) (A : Around) (outer : List Env) (s : Shared) (H : Hp) (E : XK), Room k (A.deeper (PyProof.Rows.envOfC qual (defScope st) s.heap.objs.size f cdv)) →
      PSs (cxOf (L2.CX P w) P w K mg base N qual (defScope st) f cdv A outer s H E) (defBody st) (rdS K ⟨cA, cF, call, W, E⟩ F.body)) (S' : Sg) (h1 : S'.cA = cA) (h2 : S'.cF = cF) (h3 : S'.call = call') : FnOk P w K mg base (L2.CX P w) (k + 1) f fd ps (spD K S' fi) := by
  subst h1 h2 h3
  refine Fu.okX Sc (fun vs H Q E h => ?_) (fun cdv A outer s H vs Q E hr h => ⟨_, hb cdv A outer s H E hr, ?_⟩)
  · obtain ⟨pm, Hf, g, ds, ex, m, a, h⟩ := h
    rw [hc] at h
    unfold runB at h
    split at h
    · rename_i hl
      rw [a.length, hl, hn]
    · exact h.elim
  · obtain ⟨pm, Hf, g, ds, ex, m, a, h⟩ := h
    rw [hc] at h
    unfold runB at h
    split at h
    · rename_i hl
      have lv := a.length
      refine ⟨pm, Hf, H, _, g, Hf, ⟨⟨ex, m, ?_, fun i e q => ?_, fun i j e e' v ne qi qj oi oj si sj => ?_⟩, fun i e p q o s => ?_⟩, Stp.refl ex, (Post.bindA h).mono fun y g1 Hf1 H1 s1 m1 q e1 => ?_⟩
      · unfold L2.start
        rw [List.length_append, List.length_append, List.length_map, List.length_map, List.length_replicate, List.length_replicate, lv, hl, hN]
      · by_cases hi : i < ds.length
        · rw [List.getElem?_append_left (by rw [List.length_map]; exact hi), List.getElem?_map] at q
          cases z : ds[i]? with
          | none => rw [z] at q; cases q
          | some d =>
            rw [z] at q
            cases q
            obtain ⟨v, w1, w2⟩ := a.get z
            refine ⟨v, ?_, w2⟩
            unfold L2.start
            rw [List.getElem?_append_left (by rw [List.length_map, lv]; exact hi), List.getElem?_map, w1]; rfl
        · rw [List.getElem?_append_right (by rw [List.length_map]; omega), List.getElem?_replicate] at q
          split at q <;> cases q
      · have no : ∀ (i : Nat) (e : Ent), (ds.map (fun d => some (Ent.frz d)) ++ List.replicate (F.nN - F.np) none)[i]? = some (some e) → isOwn e = false := fun i e q => by
          by_cases hi : i < ds.length
          · rw [List.getElem?_append_left (by rw [List.length_map]; exact hi), List.getElem?_map] at q
            cases z : ds[i]? with
            | none => rw [z] at q; cases q
            | some d => rw [z] at q; cases q; rfl
          · rw [List.getElem?_append_right (by rw [List.length_map]; omega), List.getElem?_replicate] at q
            split at q <;> cases q
        rw [no i e qi] at oi; cases oi
      · by_cases hi : i < ds.length
        · rw [List.getElem?_append_left (by rw [List.length_map]; exact hi), List.getElem?_map] at q
          cases z : ds[i]? with
          | none => rw [z] at q; cases q
          | some d => rw [z] at q; cases q; cases o
        · rw [List.getElem?_append_right (by rw [List.length_map]; omega), List.getElem?_replicate] at q
          split at q <;> cases q
      · obtain ⟨fl, ρ1⟩ := y
        cases fl with
        | nx =>
          intro σ' r
          exact q Hf1 H1 s1 m1 .non rfl
        | rt d => exact q Hf1 H1 s1 m1
        | bk => exact q.elim
        | ct => exact q.elim
    · exact h.elim
end
end Mini

set_option maxRecDepth 100000
set_option maxHeartbeats 4000000
/-! An own class of errors over ValueError, whose __init__ says super().__init__('..') and then stores its one field. -/
namespace PySem
namespace ErrX
open PySem.W PySem.Calls PyProof.Rows PySem.HandSPX
def iA (f : Str) (p1 p2 : Pos) : Arguments := { posonlyargs := [], args := [{ arg := "self", annotation := none, pos := p1 }, { arg := f, annotation := none, pos := p2 }], vararg := none, kwonlyargs := [], kw_defaults := [], kwarg := none, defaults := [] }
def iB (f tx : Str) (j : Nat) (a1 a2 a3 a4 a5 a6 q1 q2 q3 q4 : Pos) : List Stmt :=
  [.Expr (.Call (.Attribute (.Call (.Name "super" a1) [] [] a2) "__init__" a3) [.Constant (.str tx) j a4] [] a5) a6, .Assign [.Attribute (.Name "self" q1) f q2] (.Name f q3) q4]
def iS (f : Str) : Scope := { kind := .function, names := [(PySem.Str.ofString "self", .local), (f, .local), (PySem.Str.ofString "__class__", .free), (PySem.Str.ofString "super", .globalImplicit)], isGenerator := false, isCoroutine := false, more := [] }
/-- of the name of the field -/
structure FldOk (f : Str) : Prop where
  ks : (iS f).names.lookup ("super" : Str) = some .globalImplicit
  kc : (iS f).names.lookup ("__class__" : Str) = some .free
  ka : (iS f).names.lookup ("self" : Str) = some .local
  kf : (iS f).names.lookup f = some .local
  nc : ∀ x ∈ (iS f).names, x.2 ≠ .cell
  dbg : (f == ("__debug__" : Str)) = false
  bind : ∀ (q : Str) (p1 p2 : Pos) (b : List Stmt) (doc pm : Value) (an : Option Addr) (cdv ct : Value) (cc : Addr) (a v : Value), bindArgs (ksFn "__init__" q (iA f p1 p2) b (iS f) .none .none doc pm an cdv ct cc) ⟨[a, v], []⟩ = pure [(("self" : Str), a), (f, v)]
  vs : ∀ a v : Value, ([(("self" : Str), a), (f, v)].reverse.lookup ("self" : Str)) = some a
  vf : ∀ a v : Value, ([(("self" : Str), a), (f, v)].reverse.lookup f) = some v
theorem fld_value : FldOk "value" := ⟨by decide +kernel, by decide +kernel, by decide +kernel, by decide +kernel, by decide +kernel, by decide +kernel, fun _ _ _ _ _ _ _ _ _ _ _ _ => by first | rfl | with_unfolding_all rfl, fun _ _ => by with_unfolding_all rfl, fun _ _ => by with_unfolding_all rfl⟩
theorem fld_most : FldOk "most" := ⟨by decide +kernel, by decide +kernel, by decide +kernel, by decide +kernel, by decide +kernel, by decide +kernel, fun _ _ _ _ _ _ _ _ _ _ _ _ => by first | rfl | with_unfolding_all rfl, fun _ _ => by with_unfolding_all rfl, fun _ _ => by with_unfolding_all rfl⟩
/-- super().__init__(..) is read so -/
def SupEv (q f tx : Str) (j : Nat) (a1 a2 a3 a4 a5 : Pos) (cda cc fI : Addr) : Prop := ∀ L : Addr, ∃ pl : Sem Bool, eval (.Call (.Attribute (.Call (.Name "super" a1) [] [] a2) "__init__" a3) [.Constant (.str tx) j a4] [] a5) (ksEnv q (iS f) L fI (.ref cda) cc) = (do
      let ov ← attributeBase (.Call (.Name "super" a1) [] [] a2) "__init__" (ksEnv q (iS f) L fI (.ref cda) cc) (eval (.Call (.Name "super" a1) [] [] a2) (ksEnv q (iS f) L fI (.ref cda) cc))
      standAt a3.atName
      let (fx, first) ← holding [ov] (getMethod ov "__init__" pl)
      callWith a5 fx first (backTo a5 (starEach [.Constant (.str tx) j a4] (ksEnv q (iS f) L fI (.ref cda) cc))) [])
/-- what the written part says of the class at C, of its __init__ at fI; cn: the class's name, f: its field -/
structure ErrTxt (P : Program) (K : Frag) (mg : Str → Option Value) (cn f : Str) (C fI : Addr) : Prop where
  gC : mg cn = some (.ref C)
  cls : ∃ nm q N bs bm sn sub ab col dd k0 k1 k2 k3 k5, K.lookup C = some (excClassObj nm q C N bs bm true sn sub ab col dd k0 k1 k2 k3 k5 "ValueError.__new__") ∧ refsVE bm = true
  sa : findIn K (.ref C) "__setattr__" = some (some (.builtin "object.__setattr__"))
  ga : findIn K (.ref C) "__getattribute__" = some (some (.builtin "BaseException.__getattribute__"))
  gg : findIn K (.ref C) "__getattr__" = some none
  noN : findIn K (.ref C) f = some none
  iC : findIn K (.ref C) "__init__" = some (some (.ref fI))
  tC : typeIn K (.ref fI) = some (.type "function")
  kC : keepIn K (.ref C) = true
  exC : subIn K (.ref C) (.type "BaseException") = some true
  veC : subIn K (.ref C) (.type "ValueError") = some true
  tyC : typeIn K (.ref C) = some (.type "type")
  hdC : hasDictIn K C = true
  meC : mroIn K C (.ref C) = some true
  sup : ks_superIn K C C "__init__" = some (some (.builtin "ValueError.__init__"))
  opq : nsIn K cStatics "thirdparty.any" = some none
  gS : mg "super" = none
  tS : (P.main.scope.names.lookup ("super" : Str)).isSome = false
  fn : ∃ (oc ccl cl : Value) (od cdd cld : Option Addr) (doc pm : Value) (an : Option Addr) (cda cc : Addr) (ct : Value) (osl ccs csl : Array (Option Value)) (q tx file : Str) (tf : Tok) (vs : Array Value) (j : Nat) (p1 p2 a1 a2 a3 a4 a5 a6 q1 q2 q3 q4 : Pos),
    K.lookup fI = some ⟨oc, od, .func (ksFn "__init__" q (iA f p1 p2) (iB f tx j a1 a2 a3 a4 a5 a6 q1 q2 q3 q4) (iS f) .none .none doc pm an (.ref cda) ct cc), osl⟩ ∧ codeIn K (.ref cda) q = true ∧
    K.lookup cda = some ⟨ccl, cdd, .fields vs, ccs⟩ ∧ vs[2]? = some (.str file tf) ∧ ((P.main.file : Str) == file) = true ∧ K.lookup cc = some ⟨cl, cld, .cell (some (.ref C)), csl⟩ ∧ SupEv q f tx j a1 a2 a3 a4 a5 cda cc fI
theorem one_size (v : Value) : [v].length ≤ sizeLine := by
  rw [sizeLine_eq]
  exact (by decide : 1 ≤ 16777216)
/-- what __init__ leaves of a fresh exception at x -/
structure InitEnd (f : Str) (h h' : Heap) (x C dx t1 : Addr) (v : Value) : Prop where
  keep : ∀ b o, b ≠ x → h.get? b = some o → h'.get? b = some o
  obj : h'.get? x = some { cls := .ref C, dict := some dx, data := .fields #[.ref t1, .none, .none, .none, .bool false, .none] }
  dbig : h.objs.size ≤ dx
  dne : dx ≠ x
  ns : h'.Ns1 dx (fun y => if y = f then some v else none)
/-- a made error -/
structure OwnMade (f : Str) (h h' : Heap) (e C d : Addr) (v : Value) : Prop where
  keep : ∀ b o, h.get? b = some o → h'.get? b = some o
  new : h.objs.size ≤ e
  obj : ∃ oe vs, h'.get? e = some oe ∧ oe.cls = .ref C ∧ oe.dict = some d ∧ oe.data = .fields vs ∧ vs[1]? = some .none
  dbig : h.objs.size ≤ d
  dne : d ≠ e
  ns : h'.Ns1 d (fun y => if y = f then some v else none)
section
variable {prog : Program} {w : World} {A : Around} {E : Value → Shared → Prop} {R : Result → Shared → Prop} {s : Shared} {K : Frag} {mg : Str → Option Value} {C fI : Addr} {cn f : Str}
/-- the wrapper called: the args are laid anew -/
theorem call_mw {h : Heap} {g : Array GenState} {d : Drawn} {tk : Nat} {os : OsState} {nm q : Str} {N : Addr} {bs bm : List Value} {hdct : Bool} {sn : List Str} {sub : List Value} {ab : Bool} {col : Option Bool} {dd : Option Addr} {k0 k1 k2 k3 k5 : Option Value} {u x t : Addr} {rest : List Value} {Q : Value → Shared → Prop}
    (hC : h.get? C = some (excClassObj nm q C N bs bm hdct sn sub ab col dd k0 k1 k2 k3 k5 "ValueError.__new__")) (hu : h.get? u = some (kxs_mw "ValueError.__init__" x)) (he : h.get? x = some (excO C t)) (hz : rest.length ≤ sizeLine)
    (fin : ∀ h' t', (∀ b o, b ≠ x → h.get? b = some o → h'.get? b = some o) → h'.get? x = some (excO C t') → Q .none ⟨h', g, d, tk, os⟩) : wpAny (model prog w) A (call (.ref u) rest) Q E ⟨h, g, d, tk, os⟩ := by
  refine wpAny_call (codeAny_of_tree ?_)
  show wpAny _ A.in1 (callAny (.ref u) ⟨rest, []⟩) _ _ _
  simp only [callAny]
  refine wpAny_bind (wpAny_load hu ?_)
  simp only [kxs_mw, show (Value.type "method-wrapper" == Value.type "method" || Value.type "method-wrapper" == Value.type "builtin_function_or_method" || Value.type "method-wrapper" == Value.type "method-wrapper") = true by decide, if_true]
  refine KFB.if_so (by decide) ?_
  refine wpAny_bind (check_bound_init F.excBase_ValueError.toExcCallFacts hC he rfl ?_)
  refine wpAny_bind (wpAny_pure (wpAny_pure ?_))
  refine ⟨plainId_quiet F.excBase_ValueError.init.plain _, codeAny_builtin F.excBase_ValueError.initEntry ?_⟩
  exact exc_init_tree (cls := .ref C) (t0 := t) (dv := none) (c2 := .none) (c3 := .none) (b4 := .bool false) he hz fun h' k e' _ => fin h' _ k e'
theorem err_init (FO : FldOk f) (T : ErrTxt prog K mg cn f C fI) {base : Heap} (MD : L2.Mod K mg base) (bk : ∀ b o, base.get? b = some o → s.heap.get? b = some o) {x t0 : Addr} {v : Value} (X : K.In s.heap) (hlim : s.heap.NoLimit) (hx : s.heap.get? x = some (excO C t0)) (hnx : K.lookup x = none) (hbx : base.get? x = none) (hroom : A.depth < recursionLimit)
    (hq : ∀ h' tk dx t1, InitEnd f s.heap h' x C dx t1 v → R (.ok (.ret .none)) { s with heap := h', toks := tk }) :
    codeAny (model prog w) A (.call (.ref fI) ⟨[.ref x, v], []⟩) R s := by
  obtain ⟨oc, ccl, cl, od, cdd, cld, doc, pm, an, cda, cc, ct, osl, ccs, csl, q, tx, file, tf, vs, j, p1, p2, a1, a2, a3, a4, a5, a6, q1, q2, q3, q4, ho, hcd, hcode, hvs, hfile, hcell, hev⟩ := T.fn
  obtain ⟨nm, qn, N, bs, bm, sn, sub, ab, col, dd, k0, k1, k2, k3, k5, hC, hbm⟩ := T.cls
  have hcl : clsIn K C = some { name := nm, bases := bs, mro := .ref C :: bm, ns := N, qualname := qn, hasDict := true, slotNames := sn, subclasses := sub, abstract := ab, collection := col, hasDel := false } := by unfold clsIn; rw [hC] <;> rfl
  obtain ⟨hp, g, dr, tk, os⟩ := s
  refine ks_codeAny_call_defAt (binds := [("self", .ref x), (f, v)]) hroom (X _ _ ho) rfl hlim (codeRec_of X hcd) rfl (BindsTo.of_eq (FO.bind ..)) FO.nc (fun y hy => ?_) (fun h₁ hn k₁ => ?_) rfl rfl rfl
  · rcases List.mem_cons.mp hy with rfl | hy
    · exact FO.ka
    · rcases List.mem_cons.mp hy with rfl | hy
      · exact FO.kf
      · cases hy
  have X₁ : K.In h₁ := X.keeps k₁
  have hx₁ : h₁.get? x = some (excO C t0) := k₁ _ _ hx
  have hxL : hp.objs.size ≠ x := Nat.ne_of_gt (Heap.lt_size hx)
  have I₁ : InstAt h₁ x (excO C t0) C none := ⟨hx₁, rfl, rfl, trivial⟩
  have hC₁ := X₁ _ _ hC
  -- super().__init__('..')
  show wpAt _ _ _ (execs (iB f tx j a1 a2 a3 a4 a5 a6 q1 q2 q3 q4) _) _ _ _
  obtain ⟨pl, hev⟩ := hev hp.objs.size
  refine ks_wpAt_execs_cons (ks_wpAt_Expr_any (ks_wpAt_MethodCall (pl := pl) ?_ hev))
  refine ks_wpAt_super_base (env := ksEnv q (iS f) hp.objs.size fI (.ref cda) cc) FO.ks FO.kc (by decide +kernel) rfl (X₁ _ _ ho) rfl rfl rfl (X₁ _ _ hcode) rfl hvs hfile T.tS ?_
  obtain ⟨mb, hb1, hb2⟩ := MD.blt
  refine ks_loadName_global rfl FO.ks (loadGlobal_builtin (env := ksEnv q (iS f) hp.objs.size fI (.ref cda) cc) (MD.glob.keeps fun b o e => k₁ b o (bk b o e)) T.gS (hb1.keeps fun b o e => k₁ b o (bk b o e)) ((hb2 _ (by decide)).trans (by first | boot_by_name | rfl | kernel_rfl)) ⟨rfl, ?_⟩)
  refine wpAny_loadName_free rfl FO.kc rfl ⟨_, X₁ _ _ hcell, rfl⟩ ?_
  refine wpAny_loadName_local rfl FO.ka hn (FO.vs (.ref x) v) ?_
  refine ks_wpAny_isType_cls hC₁ rfl ⟨rfl, ?_⟩
  refine ks_wpAny_call_super hC₁ rfl hx₁ rfl (fun c e => by cases e) (looks_mroIn X₁ T.meC) (fun h₂ e₂ up₂ => ?_)
  have X₂ : K.In h₂ := X₁.keeps up₂
  have I₂ : InstAt h₂ x (excO C t0) C none := ⟨up₂ _ _ hx₁, rfl, rfl, trivial⟩
  have sup := T.sup
  unfold ks_superIn at sup
  rw [hcl] at sup
  refine kxs_getMethod kxs_ValueError e₂ (looks_opaque X₂ T.opq) (l₀ := .ref C :: bm) (fun A Q E s k q => wpAny_bind ((looks_clsIn X₂ hcl) A _ E s k (wpAny_pure q))) rfl X₂ sup (I₂.type.andThen (looks_subIn X₂ T.veC)) (ks_ne X₂ I₂ hcl) (by decide +kernel) ?_
  have up₃ : ∀ b o, h₂.get? b = some o → (h₂.push (kxs_mw "ValueError.__init__" x)).get? b = some o := fun b o e => Heap.get?_push_of_some _ e
  have hu₃ : (h₂.push (kxs_mw "ValueError.__init__" x)).get? h₂.objs.size = some (kxs_mw "ValueError.__init__" x) := Heap.get?_push_at rfl rfl
  refine kxs_callWith (i := "ValueError.__init__") (x := x) rfl (evalArgs_plain (spliced_more (e := .Constant (.str tx) j a4) (rest := []) (wpAny_Constant_str ?_) rfl))
  refine spliced_none ?_
  refine ⟨hu₃, ?_⟩
  refine call_mw (X₂.keeps up₃ _ _ hC) hu₃ (up₃ _ _ (up₂ _ _ hx₁)) (one_size _) fun h₄ t1 k₄ hx₄ => ?_
  have old₄ : ∀ b o, b ≠ x → h₁.get? b = some o → h₄.get? b = some o := fun b o ne e => k₄ b o ne (up₃ _ _ (up₂ _ _ e))
  have X₄ : K.In h₄ := fun a o e => old₄ a o (fun z => by rw [z, hnx] at e; cases e) (X₁ _ _ e)
  have hn₄ : h₄.Ns hp.objs.size (fun y => [(("self" : Str), Value.ref x), (f, v)].reverse.lookup y) := by
    obtain ⟨oL, es, ep, hL, r⟩ := hn
    exact ⟨oL, es, ep, old₄ _ _ hxL hL, r⟩
  -- self.f = f
  refine ks_wpAt_execs_cons (ks_wpAt_Assign_Attr ?_)
  refine wpAt_of_wpAny (wpAny_Name (wpAny_loadName_local rfl FO.kf hn₄ (FO.vf (.ref x) v) ?_) FO.dbg)
  refine wpAny_Name (wpAny_loadName_local rfl FO.ka hn₄ (FO.vs (.ref x) v) ?_) (by decide +kernel)
  refine set_plain X₄ (ox := excO C t1) (od := none) ⟨hx₄, rfl, rfl, trivial⟩ T.sa ?_
  refine exc_osa X₄ hx₄ hcl (show refsVE (.ref C :: bm) = true from hbm) rfl T.noN (fun h₅ tk₅ dx k₅ dn dne hx₅ hn₅ => ?_)
  refine wpAt_of_wpAny (wpAny_execs_nil ?_)
  have z : hp.objs.size < h₄.objs.size := hn₄.lt
  exact hq h₅ tk₅ dx t1 ⟨fun b o hb e => k₅ b o hb (old₄ b o hb (k₁ b o e)), hx₅, Nat.le_of_lt (Nat.lt_of_lt_of_le z dn), dne, hn₅⟩
end
end ErrX
end PySem

set_option maxRecDepth 100000
set_option maxHeartbeats 4000000
namespace PySem
namespace ErrX
open PySem.W PySem.Calls PyProof.Rows PySem.HandSPX
section
variable {prog : Program} {w : World} {A : Around} {E : Value → Shared → Prop} {R : Result → Shared → Prop} {s : Shared} {K : Frag} {mg : Str → Option Value} {C fI : Addr} {cn f : Str}
theorem err_made (FO : FldOk f) (T : ErrTxt prog K mg cn f C fI) {base : Heap} (MD : L2.Mod K mg base) (bk : ∀ b o, base.get? b = some o → s.heap.get? b = some o) {v : Value} (X : K.In s.heap) (hlim : s.heap.NoLimit) (hroom : A.depth + 1 < recursionLimit)
    (hq : ∀ h' tk e d, OwnMade f s.heap h' e C d v → R (.ok (.ret (.ref e))) { s with heap := h', toks := tk }) :
    codeAny (model prog w) A (.call (.ref C) ⟨[v], []⟩) R s := by
  obtain ⟨nm, q, N, bs, bm, sn, sub, ab, col, dd, k0, k1, k2, k3, k5, hC, hbm⟩ := T.cls
  obtain ⟨hp, g, dr, tk, os⟩ := s
  have k : ∀ b o, hp.get? b = some o → ((hp.push (kdv_tup [v])).push (excO C hp.objs.size)).get? b = some o := fun b o e => Heap.get?_push_of_some _ (Heap.get?_push_of_some _ e)
  have hget : ((hp.push (kdv_tup [v])).push (excO C hp.objs.size)).get? (hp.objs.size + 1) = some (excO C hp.objs.size) := by heap_get
  have old : ∀ {h0 : Heap}, (∀ b o, h0.get? b = some o → hp.get? b = some o) → h0.get? (hp.objs.size + 1) = none := fun {h0} hk => by
    cases e : h0.get? (hp.objs.size + 1) with
    | none => rfl
    | some o => exact absurd (Nat.lt_of_succ_lt (Heap.lt_size (hk _ _ e))) (Nat.lt_irrefl _)
  have hnx : K.lookup (hp.objs.size + 1) = none := by
    cases e : K.lookup (hp.objs.size + 1) with
    | none => rfl
    | some o =>
      have z : hp.get? (hp.objs.size + 1) = some o := X _ _ e
      exact absurd (Nat.lt_of_succ_lt (Heap.lt_size z)) (Nat.lt_irrefl _)
  refine call_own F.excBase_ValueError (fun X => refsVE_contains X bm hbm) (X _ _ hC) (looks_findIn X T.iC) (fun self => bind_fn X self T.tC) (one_size v) ?_
  refine err_init (s := ⟨(hp.push (kdv_tup [v])).push (excO C hp.objs.size), g, dr, tk, os⟩) FO T MD (fun b o e => k b o (bk b o e)) (X.keeps k) (hlim.keeps k) hget hnx (old bk) ?_ fun h' tk' dx t1 ⟨k', hx, dn, dne, hns⟩ => ?_
  · show A.depth + 1 < recursionLimit
    exact hroom
  · have keep : ∀ b o, hp.get? b = some o → h'.get? b = some o := fun b o e => k' b o (Nat.ne_of_lt (Nat.lt_succ_of_lt (Heap.lt_size e))) (k b o e)
    have z : hp.objs.size + 1 + 1 ≤ dx := by
      first
        | (simpa only [Heap.size_push] using dn)
        | exact dn
        | (have q := dn; rw [Heap.size_push, Heap.size_push] at q; exact q)
    exact ⟨rfl, hq h' tk' (hp.objs.size + 1) dx ⟨keep, Nat.le_succ _, ⟨_, _, hx, rfl, rfl, rfl, rfl⟩, Nat.le_trans (Nat.le_trans (Nat.le_succ _) (Nat.le_succ _)) z, dne, hns⟩⟩
end
end ErrX
end PySem
namespace L2
open PySem PySem.Spec PyProof.Rows
theorem relO_fld {f0 : Str} {v : V} {v' : Value} (r : RelV v v') (f : Str) : RelO (List.lookup f [(f0, v)]) (if f = f0 then some v' else none) := by
  by_cases hw : f = f0
  · subst hw
    rw [if_pos rfl]
    have q : List.lookup f [(f, v)] = some v := by simp [List.lookup]
    rw [q]
    exact r
  · rw [if_neg hw]
    have qw : (f == f0) = false := by simpa using hw
    have q2 : List.lookup f [(f0, v)] = none := by simp [List.lookup, qw]
    rw [q2]
    trivial
section
variable {X : Cx} {C fI : Addr} {cn f : Str}
/-- Err(e) -/
def tMkErr (C : Addr) (f : Str) (ta : TA) : St → Hp → XK → Prop := fun σ H Q => ta σ H fun vs H1 => ∃ v, vs = [v] ∧ ∀ d, H1 d = none → Q (.ref C) (some d) (upd H1 d (.xd [(f, v)]))
theorem pmk_err {a : Expr} {ta : TA} {p pos : Pos} {k : Nat} (FO : PySem.ErrX.FldOk f) (T : PySem.ErrX.ErrTxt X.prog X.K X.mg cn f C fI) (hr : Room k X.A) (ha : PA X [a] ta) (hg : Gl X cn) (hdb : (cn == ("__debug__" : Str)) = false := by decide)
    (he : starEach (a :: []) X.env = (false, eval a X.env) :: starEach [] X.env := by rfl) (hpl : (backTo pos (starEach [] X.env)).any (·.1) = false := by rfl) :
    PMk X (.Call (.Name cn p) [a] [] pos) (tMkErr C f ta) := by
  intro pins s σ H Q I h
  refine wpAny_Call_Name_kw (ld_glob I hg T.gC ?_ hdb)
  refine PySem.W.callWith_K (h₀ := X.base) I.ok.mod.kin T.kC (thn (ha.run pos pins s σ H _ I h) fun us s1 hh => ?_) he hpl
  obtain ⟨vs, H1, I1, r1, v, ev, q1⟩ := hh
  subst ev
  refine ⟨I1.kIn, ?_⟩
  cases r1 with
  | cons rv rn =>
    rename_i v' us'
    cases rn
    show wpAny _ _ (call (.ref C) [v']) _ _ _
    have hlim := I1.nolimit
    have bk := I1.bk
    obtain ⟨hp, g, dr, tk, os⟩ := s1
    refine wpAny_call (PySem.ErrX.err_made FO T I1.mod bk I1.kIn hlim (by have := hr.dp; omega) fun h' tk' e d M => ?_)
    show MkP X pins σ Q (.ref e) ⟨h', g, dr, tk', os⟩
    obtain ⟨oe, fv, hoe, hc, hd, hdat, h1⟩ := M.obj
    have hns := M.ns
    obtain ⟨G', g1, g2⟩ := restrict h' fun b => decide (b ≠ e)
    have gk : ∀ b, b ≠ e → G'.get? b = h'.get? b := fun b hb => g1 b (decide_eq_true hb)
    have ge : G'.get? e = none := g2 e (by simp)
    have old : ∀ b o, hp.get? b = some o → G'.get? b = some o := fun b o q => (gk b (Nat.ne_of_lt (Nat.lt_of_lt_of_le (Heap.lt_size q) M.new))).trans (M.keep b o q)
    have ob : ObjOk X.prog X.w (upd H1 d (.xd [(f, v)])) G' d (.xd [(f, v)]) :=
      ⟨_, hns.at (fun o q => (gk d M.dne).trans q), fun f' => relO_fld rv f'⟩
    have J : Inv X pins σ (upd H1 d (.xd [(f, v)])) ⟨G', g, dr, tk', os⟩ := I1.laid (t' := tk') old M.dbig ob
    refine ⟨e, oe, fv, ⟨G', g, dr, tk', os⟩, _, .ref C, some d, rfl, J, fun b o q => ?_, ge, hoe, ⟨hc, hd⟩, hdat, h1, ?_, rfl, I1.bare, raises_own T.exC T.tyC, q1 d (I1.hok.fresh M.dbig)⟩
    · by_cases hb : b = e
      · have q' : G'.get? b = some o := q
        rw [hb, ge] at q'; cases q'
      · exact (gk b hb).symm.trans q
    · rw [upd_ne (Ne.symm M.dne)]
      exact I1.hok.fresh M.new
end
end L2
namespace Mini
open PySem L2 Evl
section
variable {X : Cx} {S : Sg} {pos : Pos}
/-- raise Err(e) -/
theorem s_raise {c : Nat} {a : Expr} {me : ME} {cn : Str} {fI : Addr} {p pos2 : Pos} {k : Nat} (FO : PySem.ErrX.FldOk (S.cF c)) (T : PySem.ErrX.ErrTxt X.prog X.K X.mg cn (S.cF c) (S.cA c) fI) (hc : X.calm = true) (hr : Room k X.A) (tk : Takes X (fun cls d _ H => S.E cls d H)) (ha : PE X a (rdE X.K S me)) (hg : Gl X cn) (hdb : (cn == ("__debug__" : Str)) = false := by decide)
    (he : starEach (a :: []) X.env = (false, eval a X.env) :: starEach [] X.env := by rfl) (hpl : (backTo pos (starEach [] X.env)).any (·.1) = false := by rfl) :
    PS X (.Raise (some (.Call (.Name cn p) [a] [] pos)) none pos2) (rdS X.K S (.raise c me)) :=
  PS.weak (ps_raise hc tk (pmk_err FO T hr (pa_cons ha pa_nil he) hg hdb he hpl)) fun D σ H h => by
    obtain ⟨pm, Hf0, H0, ρ, g, Hf, rel, st, h⟩ := h
    simp only [exS] at h
    refine exprS rel st h fun d g1 Hf1 H1 v r1 s1 e1 a1 h1 => ⟨v, rfl, fun dx hdx => ?_⟩
    have f0 := s1.free0 hdx
    have fl := fresh_back r1.rel.ex hdx
    exact h1 Hf1 _ (s1.mut f0 fl) (r1.rel.mat.own hdx) dx v upd_same a1
end
end Mini

set_option maxRecDepth 100000
set_option maxHeartbeats 4000000
namespace PySem
namespace ErrX
open PySem.W PySem.Calls PyProof.Rows
theorem findObj_any {K : Frag} {C : Addr} {od : Option Obj} {name : Str} {a g : Value} (hc : (clsIn K C).isSome = true) (ha : findIn K (.ref C) name = some (some a)) (hg : specialIn K a "__get__" = some (some g)) (ht : takesIn K a = some true) : findObj K C od name = some (.bind g a) := findObj_dataE hc ha hg ht
end ErrX
end PySem
namespace L2
open PySem PySem.Spec PyProof.Rows
/-- what an own class of errors must have, so that isinstance asks its instances rightly -/
structure ErrIs (K : PySem.W.Frag) (D : Addr) : Prop where
  hc : (PySem.W.clsIn K D).isSome = true
  hg : PySem.W.findIn K (.ref D) "__getattribute__" = some (some (.builtin "BaseException.__getattribute__"))
  hk : PySem.W.findIn K (.ref D) "__getattr__" = some none
  hs : PySem.W.subIn K (.ref D) (.type "BaseException") = some true
  ha : PySem.W.findIn K (.ref D) "__class__" = some (some (.builtin "object.__class__"))
  hn : PySem.W.specialIn K (.builtin "object.__class__") "__get__" = some (some (.builtin "getset_descriptor.__get__"))
  ht : PySem.W.takesIn K (.builtin "object.__class__") = some true
  hm : PySem.W.mroIn K D (.type "object") = some true
/-- isinstance(e, c), e the exception that the suite holds, with its dict -/
def rIsErr (K : PySem.W.Frag) (D a dd : Addr) : List V → Hp → VK → Prop := fun xs H Q => ∃ (C : Addr) (b : Bool) (fs : List (Str × V)), xs = [.ref a, .ref C] ∧ H dd = some (.xd fs) ∧ PySem.W.kitOne K (.ref D) (.ref C) = some b ∧ Q (.bl b) H
theorem call_isErr {X : Cx} {a D dd : Addr} {oe : Obj} {pn : List (Addr × Obj)} (C : ErrIs X.K D) (hz : Zc (.ref D) (some dd) oe) (hf : ∃ vs, oe.data = .fields vs) : CallR (X.suite a ((a, oe) :: pn)) (.builtin "isinstance") (rIsErr X.K D a dd) := by
  intro pins s σ H xs us Q I r h
  obtain ⟨c, b, fs, rfl, hdd, e, q⟩ := h
  cases r with
  | cons rx rr =>
    cases rr with
    | cons rt rr =>
      cases rr
      cases rx
      cases rt
      obtain ⟨hget, _⟩ := I.pin (a, oe) (List.mem_append.mpr (.inl List.mem_cons_self))
      obtain ⟨vs, hv⟩ := hf
      have hx : ObjOk X.prog X.w H s.heap dd (.xd fs) := I.hok dd _ hdd
      obtain ⟨mA, hns, _⟩ := hx
      obtain ⟨od, ho, _⟩ := lookIn_ns hns
      have J : PySem.W.InstAt s.heap a oe D (some od) := ⟨hget, hz.1, by unfold PySem.W.notCls; rw [hv] <;> rfl, by rw [hz.2]; exact ho⟩
      exact PySem.W.kia_one (PySem.W.kitx_exc C.hc C.hg C.hk C.hs C.ha C.hn C.ht C.hm) I.kIn J e (fun z => nomatch z) fun tk => ⟨.bl b, H, I.kept (t' := tk) fun _ _ z => z, rfl, q⟩
/-- repr of data -/
def rRepr (K : PySem.W.Frag) : List V → Hp → VK → Prop := fun xs H Q => ∃ (v : V) (d : PyData), xs = [v] ∧ Dp K H v d ∧ d.showable = true ∧ d.hasDict = false ∧ d.depth ≤ 20 ∧ d.shown.length ≤ sizeLine ∧ Q (.str d.shown) H
theorem call_repr {X : Cx} (hg : X.A.guards = some []) (hu : X.A.units + 30 < cLine) : CallR X (.builtin "repr") (rRepr X.K) := by
  intro pins s σ H xs us Q I r h
  obtain ⟨v, d, rfl, dp, hs, hd, hdp, hz, q⟩ := h
  cases r with
  | cons rx rr =>
    cases rr
    obtain ⟨as, rd⟩ := dp.reads I d v _ rx
    cases dp with
    | non => cases rx; exact PySem.P.repr_of_none ⟨.str _, H, I.tok _, ⟨_, rfl⟩, q⟩
    | bl b => cases rx; exact PySem.P.repr_of_bool ⟨.str _, H, I.tok _, ⟨_, rfl⟩, (by cases b <;> exact q)⟩
    | int i =>
      obtain ⟨t, rfl⟩ := rx
      exact PySem.P.repr_of_int (by simpa [PyData.showable] using hs) ⟨.str _, H, I.tok _, ⟨_, rfl⟩, q⟩
    | str x =>
      obtain ⟨t, rfl⟩ := rx
      exact PySem.P.repr_of_str ⟨.str _, H, I.tok _, ⟨_, rfl⟩, q⟩ hz
    | @lst a' xs' ds' h1 h2 =>
      cases rx
      exact repr_of_reads' rd hs (fun z => by rw [hd] at z; cases z) hg (by omega) (fun _ _ e => e) (fun h' u tk hk => ⟨.str _, H, I.kept (t' := tk) hk, ⟨_, rfl⟩, q⟩) hz
    | @tup a' xs' ds' h1 h2 =>
      cases rx
      exact repr_of_reads' rd hs (fun z => by rw [hd] at z; cases z) hg (by omega) (fun _ _ e => e) (fun h' u tk hk => ⟨.str _, H, I.kept (t' := tk) hk, ⟨_, rfl⟩, q⟩) hz
end L2

set_option maxRecDepth 100000
set_option maxHeartbeats 4000000
namespace Mini
open PySem L2 Evl
section
variable {call : Nat → List D → G → R D}
theorem evA_vars (ρ : Env1) (g : G) : ∀ vs : List Nat, (∃ ds, evA call (varsA vs) ρ g = .ok ds g) ∨ evA call (varsA vs) ρ g = .stuck
  | [] => .inl ⟨[], rfl⟩
  | i :: r => by
    show (∃ ds, (evE call (.var i) ρ g).bind _ = .ok ds g) ∨ (evE call (.var i) ρ g).bind _ = .stuck
    have e : (∃ d, evE call (.var i) ρ g = .ok d g) ∨ evE call (.var i) ρ g = .stuck := by
      simp only [evE]
      split
      · exact .inl ⟨_, rfl⟩
      · exact .inr rfl
    rcases e with ⟨d, e⟩ | e
    · rw [e]
      rcases evA_vars ρ g r with ⟨ds, e2⟩ | e2
      · left
        refine ⟨d :: ds, ?_⟩
        show (evA call (varsA r) ρ g).bind _ = _
        rw [e2]; rfl
      · right
        show (evA call (varsA r) ρ g).bind _ = _
        rw [e2]; rfl
    · right
      rw [e]; rfl
end
mutual
theorem nod_hasDict : ∀ d : D, nod d = true → d.hasDict = false
  | .none, _ => rfl
  | .bool _, _ => rfl
  | .int _, _ => rfl
  | .str _, _ => rfl
  | .tuple ds, h => by simp only [PyData.hasDict]; exact nodL_hasDict ds (by simpa [nod] using h)
  | .list ds, h => by simp only [PyData.hasDict]; exact nodL_hasDict ds (by simpa [nod] using h)
  | .dict _, h => by simp [nod] at h
theorem nodL_hasDict : ∀ ds : List D, nodL ds = true → PyData.hasDictAll ds = false
  | [], _ => rfl
  | d :: ds, h => by
    have h' : nod d = true ∧ nodL ds = true := by simpa [nodL] using h
    simp only [PyData.hasDictAll, nod_hasDict d h'.1, nodL_hasDict ds h'.2, Bool.or_false]
end
section
variable {X : Cx} {S : Sg} {pos : Pos}
/-- try: f(..); return False / except B as e: if not isinstance(e, C) or repr(e.value) != repr(odd): return False -/
theorem s_tryq {c i o : Nat} {vs : List Nat} {k f : Nat} {fA : Addr} {fd : FuncData} {ps : List Str} {x bn cn n on fl : Str} {CE fI : Addr} {a : Expr} {as : List Expr} {p p1 p2 p3 p4 np pos' r1 r2' r3 r4 r5 r6 r7 r8 r9 r10 r11 r12 r13 r14 r15 r16 r17 r18 : Pos} {j1 j2 : Nat}
    (hcl : X.calm = true) (hs : X.stack = X.env :: X.outer) (hf : X.env.frame = some X.env.locals) (hN : X.N.Nodup) (hi : X.N[i]? = some n) (hln : X.env.kindOf n = some .local) (hc : Names X bn (.ref CE)) (tk : Takes X (fun cls d _ H => S.E cls d H))
    (F : FnOk X.prog X.w X.K X.mg X.base (L2.CX X.prog X.w) k fA fd ps (spD X.K S f)) (hr : Room k X.A) (hg : Gl X x) (hm : X.mg x = some (.ref fA)) (hk : PySem.W.keepIn X.K (.ref fA) = true) (hb : Binds X.K fd ps [])
    (ha : ∀ (pn : List (Addr × Obj)) (xe : Value → Shared → Prop), PA (X.tr pn xe) (a :: as) (rdA X.K S (varsA vs))) (hdb : (x == ("__debug__" : Str)) = false) (he : starEach (a :: as) X.env = (false, eval a X.env) :: starEach as X.env) (hpl : (backTo pos (starEach as X.env)).any (·.1) = false)
    (hguard : X.A.guards = some []) (hu : X.A.units + 64 < cLine)
    (em : PySem.W.exmOne X.K (.ref (S.cA c)) (.ref CE) = some true) (ei : ErrIs X.K (S.cA c)) (ki : PySem.W.kitOne X.K (.ref (S.cA c)) (.ref (S.cA c)) = some true) (xf : XfC X.K (S.cA c)) (hno : PySem.W.findIn X.K (.ref (S.cA c)) (S.cF c) = some none)
    (gi : Gl X "isinstance") (mi : X.mg "isinstance" = none) (gr : Gl X "repr") (mr : X.mg "repr" = none) (gc : Gl X cn) (mc : X.mg cn = some (.ref (S.cA c))) (hcn : (cn == ("__debug__" : Str)) = false)
    (pe : ∀ (a : Addr) (pn : List (Addr × Obj)), PE (X.suite a pn) (.Name n r1) (tVar i)) (pe2 : ∀ (a : Addr) (pn : List (Addr × Obj)), PE (X.suite a pn) (.Name n r2') (tVar i)) (po : ∀ (a : Addr) (pn : List (Addr × Obj)), PE (X.suite a pn) (.Name on r3) (tVar o))
    (hat : attributeBase (.Name n r2') (S.cF c) X.env (eval (.Name n r2') X.env) = eval (.Name n r2') X.env)
    (h1 : starEach [.Name n r1, .Name cn r4] X.env = (false, eval (.Name n r1) X.env) :: starEach [.Name cn r4] X.env) (h1' : starEach [.Name cn r4] X.env = (false, eval (.Name cn r4) X.env) :: starEach [] X.env) (h2 : (backTo r6 (starEach [.Name cn r4] X.env)).any (·.1) = false)
    (h3 : starEach [.Attribute (.Name n r2') (S.cF c) r9] X.env = (false, eval (.Attribute (.Name n r2') (S.cF c) r9) X.env) :: starEach [] X.env) (h4 : (backTo r10 (starEach [] X.env)).any (·.1) = false)
    (h5 : starEach [.Name on r3] X.env = (false, eval (.Name on r3) X.env) :: starEach [] X.env) (h6 : (backTo r12 (starEach [] X.env)).any (·.1) = false)
    (hsw : swapsWith (.Call (.Name x p) (a :: as) [] pos) none p1.line X.env = pure false) :
    PS X (.Try [.Expr (.Call (.Name x p) (a :: as) [] pos) p1, .Return (some (.Constant (.bool false) j1 p2)) p3]
      [.ExceptHandler (some (.Name bn np)) (some n) [.If (.BoolOp .Or [.UnaryOp .Not (.Call (.Name "isinstance" r5) [.Name n r1, .Name cn r4] [] r6) r7, .Compare (.Call (.Name "repr" r8) [.Attribute (.Name n r2') (S.cF c) r9] [] r10) [.NotEq] [.Call (.Name "repr" r11) [.Name on r3] [] r12] r13] r14)
        [.Return (some (.Constant (.bool false) j2 r15)) r16] [] r17] pos'] [] [] p4) (rdS X.K S (.tryq f vs c i o)) := by
  have suite : ∀ (a : Addr) (oe : Obj) (cls : Value) (d : Option Addr) (pn : List (Addr × Obj)), Zc cls d oe → (∃ vs, oe.data = .fields vs) → PSs (X.suite a ((a, oe) :: pn)) [.If (.BoolOp .Or [.UnaryOp .Not (.Call (.Name "isinstance" r5) [.Name n r1, .Name cn r4] [] r6) r7, .Compare (.Call (.Name "repr" r8) [.Attribute (.Name n r2') (S.cF c) r9] [] r10) [.NotEq] [.Call (.Name "repr" r11) [.Name on r3] [] r12] r13] r14)
        [.Return (some (.Constant (.bool false) j2 r15)) r16] [] r17] (fun De σ H => ∃ dd, cls = .ref (S.cA c) ∧ d = some dd ∧
        tSeq (tIfS (tOr (tNot (tB (tCB (rIsErr X.K (S.cA c) a dd) (tCons (tVar i) (tCons (tC (.ref (S.cA c))) tNil))))) (tTest (tOp rNe (tCB (rRepr X.K) (tCons (tXf a (.ref (S.cA c)) (some dd) (S.cA c) (S.cF c) (tVar i)) tNil)) (tCB (rRepr X.K) (tCons (tVar o) tNil))))) (tSeq (tRet (tC (.bl false))) tNext) tNext) tNext De σ H) := by
    intro a oe cls d pn hz hfl
    refine ⟨fun pins s σ H De I h => ?_⟩
    obtain ⟨dd, rfl, rfl, h⟩ := h
    refine (pss_cons (ps_if (PW.pt (pw_or (pt_not (pt_val (pe_callB (call_isErr ei hz hfl) gi mi (by decide +kernel) (pa_cons (pe a _) (pa_cons (pe_glob (v := .ref (S.cA c)) gc mc rfl hcn) pa_nil h1') h1) (by decide) (by decide) h1 h2))) (pw_or1 (pt_cmpR op_ne
      (pe_callB (call_repr hguard (by show X.A.units + 30 < cLine; omega)) gr mr (by decide +kernel) (pa_cons (pe_xf xf hno hz hfl (pe2 a _) hat) pa_nil h3) (by decide) (by decide) h3 h4)
      (pe_callB (call_repr hguard (by show X.A.units + 30 < cLine; omega)) gr mr (by decide +kernel) (pa_cons (po a _) pa_nil h5) (by decide) (by decide) h5 h6) rfl)))) (pss_cons (ps_ret pe_bl) pss_nil) pss_nil) pss_nil).run pins s σ H De I h
  refine PS.weak (ps_try_as (tb := fun W => tSeq (tDrop (tCallS (spD X.K S f) (WE W) (rdA X.K S (varsA vs)))) (tSeq (tRet (tC (.bl false))) tNext)) hs hf hN hi hln hc tk
    (fun W pn xe tk' hp => pss_cons (ps_expr (pe_callS (X := X.tr pn xe) F hr hg hm hk hb (fun σ => passAt tk' σ) (ha pn xe) hdb he hpl) hsw) (pss_cons (ps_ret pe_bl) pss_nil)) suite) fun D σ H h => ?_
  obtain ⟨pm, Hf0, H0, ρ, g, Hf, rel, st, h⟩ := h
  simp only [exS] at h
  rcases evA_vars (call := S.call) ρ g vs with ⟨ds, e⟩ | e
  · rw [e] at h
    simp only at h
    refine ⟨pm, ρ, g, Hf, rel.rel, ?_⟩
    rw [e]
    intro Hf1 H1 s1 m1 vs' a1
    refine ⟨pm, Hf1, g, ds, s1.fh, m1, a1, ?_⟩
    cases q : S.call f ds g with
    | stuck => rw [q] at h; exact h.elim
    | ok d g1 =>
      rw [q] at h
      intro Hf2 H2 s2 m2 v _
      exact h Hf2 H2 (st.trans (s1.trans s2)) m2 (s1.ff.trans s2.ff) (.bl false) rfl
    | exc c' d g1 =>
      rw [q] at h
      simp only at h
      intro Hf2 H2 s2 m2 dx v hdx av
      split at h
      · rename_i d' hρ
        split at h
        · rename_i hall
          obtain ⟨rfl, rfl, noi, li, hnod, hsh, hdp, hsz⟩ := hall
          refine ⟨true, em, fun _ a0 ha0 => ⟨dx, rfl, rfl, ?_⟩, fun z => Bool.noConfusion z⟩
          obtain ⟨v2, hσ2, av2⟩ := rel.rel.ent o _ hρ
          have r2x : Rel X.K pm σ ρ g1 Hf2 H2 := rel.rel.step (s1.trans s2) m2
          have lσ : i < σ.length := by rw [rel.rel.len]; exact li
          have gi' : (σ.set i (some (V.ref a0)))[i]? = some (some (.ref a0)) := List.getElem?_set_self lσ
          have go' : (σ.set i (some (V.ref a0)))[o]? = some (some v2) := by rw [List.getElem?_set_ne (Ne.symm noi)]; exact hσ2
          have av3 : At X.K pm H2 v d' := At.mono s2.fh _ _ av
          have av4 : At X.K pm H2 v2 d' := At.mono ((s1.ff.trans s2.ff).trans s2.fh) _ _ av2
          refine ⟨_, gi', S.cA c', true, [(S.cF c', v)], rfl, hdx, ki, true, rfl, ?_⟩
          refine ⟨_, gi', rfl, rfl, dx, [(S.cF c', v)], v, rfl, hdx, by simp [List.lookup], v, d', rfl, At.dp _ _ hnod av3, hsh, nod_hasDict _ hnod, hdp, hsz, ?_⟩
          refine ⟨_, go', v2, d', rfl, At.dp _ _ hnod av4, hsh, nod_hasDict _ hnod, hdp, hsz, ?_⟩
          refine ⟨rfl, false, by simp, ?_⟩
          show D.nx ((σ.set i (some (V.ref a0))).set i none) H2
          rw [List.set_set]
          exact h Hf2 H2 (st.trans (s1.trans s2)) m2 (s1.ff.trans s2.ff) _ ⟨r2x.wipe [i], fun j e p hj o' hp => by
              obtain ⟨z1, z2⟩ := wipe1_some (vs := [i]) hj
              have zn : i ≠ j := fun z => z2 (by simp [z])
              rw [List.getElem?_set_ne zn] at hp
              exact rel.fresh j e p z1 o' hp⟩
        · exact h.elim
      · exact h.elim
  · rw [e] at h
    exact h.elim
end
end Mini

set_option maxRecDepth 100000
set_option maxHeartbeats 4000000
/-! sorted(xs, key=f) where an invariant J tells of the keys so far and of the state. After KE.SortKeyHeap. -/
namespace PySem
namespace KeyL
open PySem.W PySem.Calls PyProof.Rows
section
variable {prog : Program} {w : World} {A : Around} {E : Value → Shared → Prop} {s : Shared} {a kS : Addr} {b : Bool} {vs : List Value} {e1 : Nat} {P : PySem.Fin → Shared → Prop} {kz : List PyData} {J : List Value → Shared → Prop}
/-- a turn: the key's call -/
def Turn (prog : Program) (w : World) (A : Around) (a kS : Addr) (vs : List Value) (f : Value) (J : List Value → Shared → Prop) : Prop :=
  ∀ (j : Nat) (x : Value) (ks : List Value) (s' : Shared) (o1 o2 : Obj), vs[j]? = some x → ks.length = j → J ks s' → s'.heap.get? kS = some o1 → s'.heap.get? a = some o2 →
    wpAny (model prog w) A (call f [x]) (fun u s'' => J (ks ++ [u]) s'' ∧ s''.heap.get? kS = some o1 ∧ s''.heap.get? a = some o2) (fun _ _ => False) s'
theorem rest {f : Value} (j0 : J [] s) (jr : ∀ ks s', J ks s' → EachIs (fun v k => ∃ as, Reads s'.heap v k as) ks (kz.take ks.length)) (ju : ∀ ks s' h', J ks s' → Heap.SameBut kS s'.heap h' → J ks { s' with heap := h' })
    (nk : s.heap.get? kS = some (seqObj "list" #[] 0)) (na : s.heap.get? a = some (seqObj "list" #[] e1)) (hka : kS ≠ a)
    (hlen : kz.length = vs.length) (hZ : vs.length ≤ sizeLine) (hal : AllAlike kz) (hsk : Sortable kz) (hu : ∀ d, d ∈ kz → A.units + d.depth < cLine)
    (turn : Turn prog w A a kS vs f J)
    (h : ∀ ks (s' : Shared) h' tk out c, J ks s' → ks.length = vs.length → (∀ b o, b ≠ kS → b ≠ a → s'.heap.get? b = some o → h'.get? b = some o) → h'.get? a = some (seqObj "list" (List.toArray out) c) → KeyedOut b kz vs out → P (.done (.ret .none)) { s' with heap := h', toks := tk }) :
    wpAny (model prog w) A (ksk_rest a f b vs.toArray e1 (.ref kS)) P E s := by
  unfold ksk_rest
  refine wpAny_bind (wpAny_rule ?_)
  first
    | rw [List.forIn_toArray]
    | (rw [← Array.forIn_toList]; simp only [List.toList_toArray])
    | rw [← Array.forIn_toList]
  refine wpAny_bind (ksk_fold (fun i s' => ∃ kA e, s'.heap.get? kS = some (seqObj "list" kA e) ∧ s'.heap.get? a = some (seqObj "list" #[] e1) ∧ J kA.toList s' ∧ kA.toList.length = i) vs 0 s
    ⟨#[], 0, nk, na, j0, rfl⟩ ?step ?done)
  case step =>
    rintro j x s' hx ⟨kA, e, nk', na', hJ, hk⟩
    simp only [Nat.zero_add] at hk ⊢
    have hj : j < vs.length := (List.getElem?_eq_some_iff.mp hx).1
    have hz : kA.size ≤ vs.length := by
      rw [Array.length_toList] at hk
      omega
    refine wpAny_bind (wpAny_attempt (wpAny_mono (turn j x _ s' _ _ hx hk hJ nk' na') (fun v s'' he => ?_) fun _ _ hF => hF.elim))
    obtain ⟨hJ2, nk2, na2⟩ := he
    try dsimp only
    have s1 := Heap.SameBut.update s''.heap kS (Obj.mapSeq (·.push v))
    obtain ⟨c2, hc2⟩ : ∃ c2, (s''.heap.update kS (Obj.mapSeq (·.push v))).get? kS = some (seqObj "list" (kA.push v) c2) := ⟨_, get?_update_seq nk2 (·.push v)⟩
    have ea : (kA.push v).toList = kA.toList ++ [v] := by simp
    refine wpAny_bind (listUpdate_at nk2 rfl ?_ (Nat.le_trans hz hZ) (Nat.le_trans (Nat.le_of_eq (Array.size_push ..)) (Nat.succ_le_succ (Nat.le_trans hz hZ))))
    refine wpAny_pure ⟨rfl, kA.push v, c2, hc2, (s1.2 a hka.symm).trans na2, ?_, ?_⟩
    · rw [ea]
      exact ju _ _ _ hJ2 s1
    · rw [ea, List.length_append, hk]; rfl
  case done =>
    rintro s' ⟨kA, e, nk', na', hJ, hk⟩
    have hk' : EachIs (fun v k => ∃ as, Reads s'.heap v k as) kA.toList kz := by
      have e3 : kz.take kA.toList.length = kz := List.take_of_length_le (by omega)
      have := jr _ _ hJ
      rw [e3] at this
      exact this
    have hsz : kA.size = vs.length := by
      rw [Array.length_toList] at hk
      omega
    obtain ⟨G, g1, g2⟩ := L2.restrict s'.heap fun b => decide (b ≠ kS)
    try dsimp only
    refine wpAny_bind (listItems_at nk' rfl ?_)
    refine keyH_end (κ := dataKind s'.heap kz) (h₁ := G) (fun b o _ q => ?_) (g2 kS (by simp)) nk' na' hka (SortsAt.data (s := s') hk' hal hsk hu) hsz hZ fun h3 tk3 c k3 n3 => h _ _ _ _ _ c hJ (by rw [Array.length_toList]; exact hsz) (fun b o nb na q => k3 b o na ?_) n3 ⟨s'.heap, kA.toList, hal, rfl, hk'⟩
    · by_cases hb : b = kS
      · rw [hb, g2 kS (by simp)] at q; cases q
      · rw [g1 b (decide_eq_true hb)] at q; exact q
    · rw [g1 b (decide_eq_true nb)]; exact q
theorem tree {f : Value} {n : Nat} (ho : s.heap.get? a = some (seqObj "list" vs.toArray n)) (hlen : kz.length = vs.length) (hZ : vs.length ≤ sizeLine) (hal : AllAlike kz) (hsk : Sortable kz) (hu : ∀ d, d ∈ kz → A.units + d.depth < cLine)
    (go : ∀ (kS : Addr) (s1 : Shared), s.heap.objs.size ≤ kS → kS ≠ a → s1.gens = s.gens → s1.os = s.os → (∀ b o, b ≠ a → s.heap.get? b = some o → s1.heap.get? b = some o) → ∃ J : List Value → Shared → Prop, J [] s1 ∧ (∀ ks s', J ks s' → EachIs (fun v k => ∃ as, Reads s'.heap v k as) ks (kz.take ks.length)) ∧ (∀ ks s' h', J ks s' → Heap.SameBut kS s'.heap h' → J ks { s' with heap := h' }) ∧ Turn prog w A a kS vs f J ∧
      ∀ ks (s' : Shared) h' tk out c, J ks s' → ks.length = vs.length → (∀ b o, b ≠ kS → b ≠ a → s'.heap.get? b = some o → h'.get? b = some o) → h'.get? a = some (seqObj "list" (List.toArray out) c) → KeyedOut b kz vs out → P (.done (.ret .none)) { s' with heap := h', toks := tk }) :
    wpAny (model prog w) A (ksk_tree a f b) P E s := by
  have ha : a < s.heap.objs.size := Heap.lt_size ho
  obtain ⟨e1, ho1⟩ : ∃ e1, (s.heap.update a (Obj.mapSeq fun _ => (#[] : Array Value))).get? a = some (seqObj "list" #[] e1) := ⟨_, get?_update_seq ho fun _ => #[]⟩
  have hkS : ((s.heap.update a (Obj.mapSeq fun _ => (#[] : Array Value))).push (seqObj "tuple" vs.toArray 0)).objs.size = s.heap.objs.size + 1 := by rw [size_push', Heap.size_update]
  unfold ksk_tree
  refine wpAny_bind (listItems_at ho rfl ?_)
  refine wpAny_bind (listUpdate_at ho rfl ?_ (by rw [List.size_toArray]; exact hZ) (Nat.zero_le _))
  refine wpAny_bind (seqEpoch_at ho1 rfl ?_)
  refine wpAny_bind (wpAny_newTuple ?_ (by show vs.length ≤ _; exact hZ))
  refine wpAny_bind (wpAny_newList ?_ (Nat.zero_le _))
  refine wpAny_holding ?_
  have hka : ((s.heap.update a (Obj.mapSeq fun _ => (#[] : Array Value))).push (seqObj "tuple" vs.toArray 0)).objs.size ≠ a := by rw [hkS]; exact Nat.ne_of_gt (Nat.lt_succ_of_lt ha)
  obtain ⟨J, j0, jr, ju, turn, h⟩ := go ((s.heap.update a (Obj.mapSeq fun _ => (#[] : Array Value))).push (seqObj "tuple" vs.toArray 0)).objs.size { s with heap := ((s.heap.update a (Obj.mapSeq fun _ => (#[] : Array Value))).push (seqObj "tuple" vs.toArray 0)).push (seqObj "list" #[] 0) }
    (by rw [hkS]; exact Nat.le_succ _) hka rfl rfl (fun b o hb q => sortingHeap_old hb q)
  exact rest (kz := kz) j0 jr ju (Heap.get?_push_size _ rfl) (Heap.get?_push_of_some _ (Heap.get?_push_of_some _ ho1)) hka hlen hZ hal hsk hu turn h
/-- sorted(l, key=q) -/
theorem sorted {l q : Addr} {Q : Value → Shared → Prop} (hl : s.heap.IsList l vs.toArray) (hlen : kz.length = vs.length) (hZ : vs.length ≤ sizeLine) (hal : AllAlike kz) (hsk : Sortable kz) (hu : ∀ d, d ∈ kz → A.units + 2 + d.depth < cLine)
    (go : ∀ (kS : Addr) (s1 : Shared), s.heap.objs.size + 1 < kS → s1.gens = s.gens → s1.os = s.os → (∀ b o, s.heap.get? b = some o → s1.heap.get? b = some o) → ∃ J : List Value → Shared → Prop, J [] s1 ∧ (∀ ks s', J ks s' → EachIs (fun v k => ∃ as, Reads s'.heap v k as) ks (kz.take ks.length)) ∧ (∀ ks s' h', J ks s' → Heap.SameBut kS s'.heap h' → J ks { s' with heap := h' }) ∧ Turn prog w A.in1.in1 (s.heap.objs.size + 1) kS vs (.ref q) J ∧
      ∀ ks (s' : Shared) h' tk out c, J ks s' → ks.length = vs.length → (∀ b o, b ≠ kS → b ≠ s.heap.objs.size + 1 → s'.heap.get? b = some o → h'.get? b = some o) → h'.get? (s.heap.objs.size + 1) = some (seqObj "list" (List.toArray out) c) → KeyedOut false kz vs out → Q (.ref (s.heap.objs.size + 1)) { s' with heap := h', toks := tk }) :
    wpAny (model prog w) A (call (.builtin "sorted") [.ref l] [(Str.ofString "key", .ref q)]) Q E s := by
  refine sorted_of_sort hl hZ (ksk_s1 _ _) (fun _ => ksk_l1 _ _) fun E' => ?_
  rw [ksk_t1]
  have hs : (copyHeap s.heap vs).objs.size = s.heap.objs.size + 2 := by
    have h1 := Heap.lt_size (copyHeap_at s.heap vs)
    unfold copyHeap
    rw [size_push', Heap.size_update, size_push']
  refine tree (kz := kz) (s := { s with heap := copyHeap s.heap vs }) (copyHeap_at s.heap vs) hlen hZ hal hsk hu fun kS s1 g1 g2 g3 g4 g5 => ?_
  obtain ⟨J, j0, jr, ju, turn, h⟩ := go kS s1 (by have : (copyHeap s.heap vs).objs.size ≤ kS := g1; omega) g3 g4 (fun b o q => g5 b o (Nat.ne_of_lt (Nat.lt_succ_of_lt (Heap.lt_size q))) (copyHeap_old q))
  exact ⟨J, j0, jr, ju, turn, fun ks s' h' tk out c a1 a2 a3 a4 a5 => ⟨rfl, h ks s' h' tk out c a1 a2 a3 a4 a5⟩⟩
end
end KeyL
end PySem

set_option maxRecDepth 100000
set_option maxHeartbeats 4000000
namespace Mini
open PySem L2 Evl PySem.Spec PyProof.Rows LamX
section
variable {X : Cx} {pins : List (Addr × Obj)} {σ : L2.St} {H : Hp} {s : Shared}
/-- a table grows: what is known of the tables stays known -/
theorem TabK.grow {K : PySem.W.Frag} {H : Hp} {P c' : Addr} {q : Str} {ps : Array Value} {pos : Pos} (t : TabK K H) (hP : H P = some (.tbl ps)) (ht : TriplesOk ps.toList) (nC : H c' = none) (hu : ∀ q', LamAt K P q' → q' = q) :
    TabK K (upd (upd H P (.tbl (ps ++ #[rawInt pos.line, rawInt pos.col, .ref c']))) c' (CodeO c' q)) := fun P' q' l => by
  have eL : (ps ++ #[rawInt pos.line, rawInt pos.col, .ref c']).toList = ps.toList ++ [rawInt pos.line, rawInt pos.col, .ref c'] := by simp
  have hE : ∀ b o, H b = some o → (∀ z, o ≠ .tbl z) → upd (upd H P (.tbl (ps ++ #[rawInt pos.line, rawInt pos.col, .ref c']))) c' (CodeO c' q) b = some o := fun b o e n => by
    rw [upd_ne (ne_of_none e nC), upd_ne (fun z => n ps (Option.some.inj (e.symm.trans (by rw [z]; exact hP))))]
    exact e
  obtain ⟨ps', a1, a2, a3⟩ := t P' q' l
  by_cases hb : P' = P
  · subst hb
    rw [hP] at a1
    cases a1
    have eq := hu q' l
    subst eq
    refine ⟨_, by rw [upd_ne (ne_of_none hP nC), upd_same], by rw [eL]; exact PySem.TriplesOk_snoc _ _ _ _ ht, fun p' cv hcv => ?_⟩
    rw [eL] at hcv
    rcases among_app _ ht hcv with z | z
    · obtain ⟨c0, e1, e2⟩ := a3 p' cv z
      exact ⟨c0, e1, hE _ _ e2 codeO_ne⟩
    · exact ⟨c', z, upd_same⟩
  · refine ⟨ps', by rw [upd_ne (ne_of_none a1 nC), upd_ne hb]; exact a1, a2, fun p' cv hcv => ?_⟩
    obtain ⟨c0, e1, e2⟩ := a3 p' cv hcv
    exact ⟨c0, e1, hE _ _ e2 codeO_ne⟩
/-- a lambda is made: its code object is new, or found in the table -/
theorem lam_made {pm : Option Addr} {g : G} {Hf : Hp} {c P : Addr} {params : Arguments} {body : Expr} {scope : Scope} {pos : Pos} {E : Value → Shared → Prop} {Q : Value → Shared → Prop} (I : L2.Inv X pins σ H s) (ex : Ex Hf H) (m : MAt X.K pm g Hf H) (TB : TabB X.base X.mg c P) (hcode : X.env.code = .ref c)
    (hl : LamAt X.K P (X.env.qual ++ "<lambda>")) (hu : ∀ q', LamAt X.K P q' → q' = X.env.qual ++ "<lambda>") (hdef : defaultsOf params X.env = ([], [])) (hfree : ∀ y ∈ scope.names, y.2 = .free → ∃ c, X.env.cells.lookup y.1 = some c)
    (h : ∀ (f c' : Addr) (pm' ctv : Value) (H1 : Hp) (s' : Shared), L2.Inv X pins σ H1 s' → Stp pm Hf H Hf H1 → MAt X.K pm g Hf H1 →
      s'.heap.get? f = some (PySem.W.kla_obj "<lambda>" (X.env.qual ++ "<lambda>") params body scope (cloFrom X.env.cells scope.names []) pm' c' ctv) → H1 f = none → f ∉ frs X.stack → H1 c' = some (CodeO c' (X.env.qual ++ "<lambda>")) → Q (.ref f) s') :
    wpAny (model X.prog X.w) X.A (eval (.Lambda params body scope pos) X.env) Q E s := by
  obtain ⟨ps, hP, ht, ha⟩ := m.tb _ _ hl
  refine PySem.W.kla_eval hdef ?_
  have bP : s.heap.BuiltinsAt X.mg P := TB.bm.keeps I.bk
  have hP' : s.heap.get? P = some { cls := .none, data := .fields ps } := I.hok P _ hP
  have nofr : ∀ f, s.heap.objs.size ≤ f → f ∉ frs X.stack := fun f hf z => by
    rcases List.mem_cons.mp (I.stkSub _ z) with e | e
    · have h1 := I.lt
      rw [← e] at h1
      exact Nat.lt_irrefl _ (Nat.lt_of_lt_of_le h1 hf)
    · exact I.nofs hf e
  have hcl : closureFor scope X.env = pure (cloFrom X.env.cells scope.names []) := closure_ok hfree
  cases hc : codeAmong pos ps.toList with
  | none =>
    refine PySem.W.kla_makeFunction (mg := X.mg) (c := c) (P := P) (ps := ps) hcl I.ok.glob (I.mod.glob.keeps I.bk) hcode (TB.code.keeps I.bk) hP' ht hc TB.gP bP fun c' ctv h' tk hx hge hlt hrec htb => ?_
    obtain ⟨c2, oc, vs, t, e2, hoc, hd, hv⟩ := hrec
    cases e2
    have hsz : s.heap.objs.size ≤ h'.objs.size := Nat.le_trans hge (Nat.le_of_lt hlt)
    have nC : H c' = none := I.hok.fresh hge
    have I1 := inv_table (t' := tk) (more := #[rawInt pos.line, rawInt pos.col, .ref c']) (h' := h'.push (PySem.W.kla_obj "<lambda>" (X.env.qual ++ "<lambda>") params body scope (cloFrom X.env.cells scope.names []) ((X.mg "__name__").getD .none) c' ctv)) I hP
      (fun b o hb e => Heap.get?_push_of_some _ (hx b o hb e)) (Heap.get?_push_of_some _ htb) hge ⟨oc, vs, t, Heap.get?_push_of_some _ hoc, hd, hv⟩
    have fP := m.tf _ _ hl
    have hE : ∀ b o, H b = some o → (∀ z, o ≠ .tbl z) → upd (upd H P (.tbl (ps ++ #[rawInt pos.line, rawInt pos.col, .ref c']))) c' (CodeO c' (X.env.qual ++ "<lambda>")) b = some o := fun b o e n => by
      rw [upd_ne (ne_of_none e nC), upd_ne (fun z => n ps (Option.some.inj (e.symm.trans (by rw [z]; exact hP))))]
      exact e
    have st : Stp pm Hf H Hf (upd (upd H P (.tbl (ps ++ #[rawInt pos.line, rawInt pos.col, .ref c']))) c' (CodeO c' (X.env.qual ++ "<lambda>"))) := by
      refine ⟨Ex.refl _, fun b o e => ?_, fun b o e => .inl e, fun b o _ n e => hE b o e n, fun b n z => ?_, fun b xs z => ?_, fun b _ _ z => z⟩
      · rw [upd_ne (ne_of_none (ex _ _ e) nC), upd_ne (fun z => by rw [z, fP] at e; cases e)]
        exact ex _ _ e
      · unfold upd at z
        split at z
        · cases z
        · split at z
          · cases z
          · exact n z
      · unfold upd at z
        split at z
        · cases z
        · split at z
          · cases z
          · exact .inl z
    have mt : MAt X.K pm g Hf (upd (upd H P (.tbl (ps ++ #[rawInt pos.line, rawInt pos.col, .ref c']))) c' (CodeO c' (X.env.qual ++ "<lambda>"))) := by
      refine ⟨?_, m.tb.grow hP ht nC hu, m.tf⟩
      have m0 := m.m0
      cases pm with
      | none => exact m0
      | some p =>
        obtain ⟨m1, kvs, m2, m3, m4⟩ := m0
        exact ⟨m1, kvs, hE _ _ m2 (fun _ z => by cases z), m3, m4⟩
    refine h h'.objs.size c' ((X.mg "__name__").getD .none) ctv _ _ I1 st mt (Heap.get?_push_size _ rfl) ?_ (nofr _ hsz) upd_same
    have n1 : h'.objs.size ≠ c' := Nat.ne_of_gt hlt
    have n2 : h'.objs.size ≠ P := Nat.ne_of_gt (Nat.lt_of_lt_of_le (Heap.lt_size hP') hsz)
    rw [upd_ne n1, upd_ne n2]
    exact I.hok.fresh hsz
  | some cv =>
    obtain ⟨c', e, hco⟩ := ha pos cv hc
    subst e
    refine PySem.W.kla_makeFunctionHit (mg := X.mg) (c := c) (P := P) (ps := ps) hcl I.ok.glob (I.mod.glob.keeps I.bk) hcode (TB.code.keeps I.bk) hP' ht hc bP fun ctv h' tk hx hsz => ?_
    have I1 : L2.Inv X pins σ H { s with heap := h'.push (PySem.W.kla_obj "<lambda>" (X.env.qual ++ "<lambda>") params body scope (cloFrom X.env.cells scope.names []) ((X.mg "__name__").getD .none) c' ctv), toks := tk } := I.kept fun b o e => Heap.get?_push_of_some _ (hx b o e)
    exact h h'.objs.size c' ((X.mg "__name__").getD .none) ctv H _ I1 (Stp.refl ex) m (Heap.get?_push_size _ rfl) (I.hok.fresh hsz) (nofr _ hsz) hco
end
end Mini

set_option maxRecDepth 100000
set_option maxHeartbeats 4000000
namespace Mini
open PySem L2 Evl PySem.Spec PyProof.Rows LamX
theorem cx_px0 {P : Program} {w : World} {K : PySem.W.Frag} {mg : Str → Option Value} {base : Heap} {N : List Str} {qual : Str} {scope : Scope} {f : Addr} {cdv : Value} {A : Around} {outer : List Env} {s : Shared} {H : Hp} {E : XK} :
    Passes (L2.CX P w) (cxOf (L2.CX P w) P w K mg base N qual scope f cdv A outer s H E) E := passes_call (takes_of rfl rfl rfl rfl) fun _ _ _ _ h => h
/-- a lambda of one parameter, called -/
theorem lam_call {X : Cx} {pins : List (Addr × Obj)} {σ : L2.St} {H : Hp} {s : Shared} {q : Str} {f c' : Addr} {pm ctv : Value} {params : Arguments} {body : Expr} {scope : Scope} {a : Str} {k : Nat} {A : Around} {u : Value} {v : V} {t : TE} {Q : VK} (I : L2.Inv X pins σ H s)
    (hf : s.heap.get? f = some (PySem.W.kla_obj "<lambda>" q params body scope [] pm c' ctv)) (hc : H c' = some (CodeO c' q)) (S : FnScope [a] [a] scope) (hb : ∀ u, bindArgs (PySem.W.kla_fn "<lambda>" q params body scope [] pm (.ref c') ctv) ⟨[u], []⟩ = pure [(a, u)])
    (hr : Room (k + 1) A) (e0 : Env0 X.prog X.w X.K X.mg X.base A X.stack s H) (rv : RelV v u) (hbody : PE (cxOf (L2.CX X.prog X.w) X.prog X.w X.K X.mg X.base [a] q scope f (.ref c') A X.stack s H E0) body t) (ht : t [some v] H Q) :
    wpAny (model X.prog X.w) A (call (.ref f) [u]) (fun r s' => CE X.stack X.prog X.w H s Q r s') (fun _ _ => False) s := by
  obtain ⟨⟨oc, vs, tq, hoc, hdc, hvc⟩, _, _⟩ := I.hok c' _ hc
  refine wpAny_call (codeAny_mono (R := CR (L2.CX X.prog X.w) X.stack X.prog X.w H s Q E0) ?_ fun r s' hq => ?_)
  · refine PySem.W.kla_callFunE hr.depth hf rfl S.co S.gen rfl ⟨c', oc, vs, tq, rfl, hoc, hdc, hvc⟩ ?_
    rw [hb]
    have hkind : ∀ y ∈ [(a, u)], scope.names.lookup y.1 = some .local ∨ (scope.names.lookup y.1 = some .cell ∧ ((cellsFrom (s.heap.objs.size + 1) scope.names []).lookup y.1).isSome = true) := fun y hy => by
      have e : y = (a, u) := by simpa using hy
      rw [e]
      rcases S.par a (by simp) with q | q
      · exact .inl q
      · exact .inr ⟨q, PySem.W.cellsFrom_some _ _ _ (.inl q)⟩
    refine wpAny_pure (wpAny_newFunctionEnv_cells S.kind hkind fun env he s1 x => ?_)
    subst he
    refine ⟨I.nolimit.keeps x.toInCall.keep, PySem.W.kla_codeExpr ?_⟩
    have I1 : L2.Inv (cxOf (L2.CX X.prog X.w) X.prog X.w X.K X.mg X.base [a] q scope f (.ref c') A X.stack s H E0) [] (L2.start [a] [v]) H s1 := inv_start (us := [u]) S hr.hd e0 rfl (.cons rv .nil) x
    refine wpAny_mono (hbody.run [] s1 [some v] H Q I1 ht) (fun u' s' hq => ?_) fun e s' h => h
    obtain ⟨w', H', J, r', q'⟩ := hq
    exact ⟨w', H', J.os, J.bare, J.base, J.hok, r', q'⟩
  · cases r with
    | error e =>
      obtain ⟨_, _, _, _, _, _, _, _, _, _, _, _, z⟩ := hq
      exact z.elim
    | ok fl =>
      cases fl with
      | ret u' => exact hq
      | next => exact False.elim hq
      | brk => exact False.elim hq
      | cont => exact False.elim hq
theorem AtL.mapV {K : PySem.W.Frag} {pm : Option Addr} {H : Hp} : ∀ {vs : List V} {ds : List D}, AtL K pm H vs ds → ∀ {us : List Value}, Vals vs us → PySem.W.EachIs (fun u d => ∃ v, RelV v u ∧ At K pm H v d) us ds
  | [], [], _, _, .nil => .nil
  | v :: vs, d :: ds, h, _, .cons r rs => .cons ⟨v, r, h.1⟩ (AtL.mapV h.2 rs)
  | [], _ :: _, h, _, _ => h.elim
  | _ :: _, [], h, _, _ => h.elim
theorem AtL.ofEach {K : PySem.W.Frag} {pm : Option Addr} {H : Hp} : ∀ {us : List Value} {ds : List D}, PySem.W.EachIs (fun u d => ∃ v, RelV v u ∧ At K pm H v d) us ds → ∃ vs, Vals vs us ∧ AtL K pm H vs ds
  | _, _, .nil => ⟨[], .nil, trivial⟩
  | _, _, .cons ⟨v, r, a⟩ t => by
    obtain ⟨vs, h1, h2⟩ := AtL.ofEach t
    exact ⟨v :: vs, .cons r h1, a, h2⟩
theorem Vals.snoc {vs : List V} {us : List Value} (h : Vals vs us) {v : V} {u : Value} (r : RelV v u) : Vals (vs ++ [v]) (us ++ [u]) := h.append (.cons r .nil)
theorem keyData_dp {K : PySem.W.Frag} {pm : Option Addr} {H : Hp} {v : V} {ks : List Int} (a : At K pm H v (keyData ks)) : Dp K H v (keyData ks) := At.dp _ _ (by unfold keyData; simp only [nod]; exact nod_ints ks) a
theorem keysC_step {call : Nat → List D → G → R D} {f : Nat} {x : D} {r : List D} {g gE : G} {kss : List (List Int)} (h : keysC call f (x :: r) g = .ok kss gE) :
    ∃ k tl kd ks g1 rest, x = .tuple (k :: tl) ∧ call f [k] g = .ok (.list kd) g1 ∧ intsD kd = some ks ∧ keysC call f r g1 = .ok rest gE ∧ kss = ks :: rest := by
  cases x with
  | tuple ds =>
    cases ds with
    | nil => simp [keysC] at h
    | cons k tl =>
      simp only [keysC] at h
      obtain ⟨d, g1, h1, h2⟩ := bind_ok_iff h
      cases d with
      | list kd =>
        simp only at h2
        obtain ⟨ks, g2, h3, h4⟩ := bind_ok_iff h2
        obtain ⟨h5, e⟩ := of_ok_iff h3
        subst e
        obtain ⟨rest, g3, h6, h7⟩ := bind_ok_iff h4
        cases h7
        exact ⟨k, tl, kd, ks, _, rest, rfl, h1, h5, h6, rfl⟩
      | _ => simp at h2
  | _ => simp [keysC] at h
theorem keysC_length {call : Nat → List D → G → R D} {f : Nat} : ∀ {xs : List D} {g gE : G} {kss : List (List Int)}, keysC call f xs g = .ok kss gE → kss.length = xs.length
  | [], _, _, _, h => by simp [keysC] at h; rw [h.1]; rfl
  | x :: r, _, _, _, h => by
    obtain ⟨_, _, _, _, _, rest, _, _, _, h2, e⟩ := keysC_step h
    rw [e, List.length_cons, List.length_cons, keysC_length h2]
end Mini

set_option maxRecDepth 100000
set_option maxHeartbeats 4000000
namespace Mini
open PySem L2 Evl PySem.Spec PyProof.Rows LamX PySem.W
theorem each_zip {α β γ : Type} {R : α → β → Prop} : ∀ {as : List α} {bs : List β} {cs : List γ}, EachIs R as bs → cs.length = bs.length → EachIs (fun a (p : γ × β) => R a p.2) as (cs.zip bs)
  | _, _, [], .nil, _ => .nil
  | _, _, c :: cs, .cons r t, h => .cons r (each_zip t (by simpa using h))
  | _, _, [], .cons r t, h => by simp at h
  | _, _, _ :: _, .nil, h => by simp at h
theorem each_map {α β γ : Type} {R : α → γ → Prop} {f : β → γ} : ∀ {as : List α} {bs : List β}, EachIs (fun a b => R a (f b)) as bs → EachIs R as (bs.map f)
  | _, _, .nil => .nil
  | _, _, .cons r t => .cons r (each_map t)
theorem zip_keys : ∀ {ks : List (List Int)} {xs : List D}, ks.length = xs.length → (ks.zip xs).map (fun p => keyData p.1) = ks.map keyData
  | [], _, _ => by simp
  | k :: ks, [], h => by simp at h
  | k :: ks, x :: xs, h => by
    rw [List.zip_cons_cons, List.map_cons, List.map_cons, zip_keys (by simpa using h)]
theorem each_alike {K : PySem.W.Frag} {X : Cx} {pins : List (Addr × Obj)} {σ : L2.St} {H : Hp} {s : Shared} {pm : Option Addr} (I : L2.Inv X pins σ H s) : ∀ {us : List Value} {kss : List (List Int)} {vs : List V}, Vals vs us → AtL X.K pm H vs (kss.map keyData) → EachIs (fun v k => ∃ as, Reads s.heap v k as) us (kss.map keyData)
  | _, [], _, .nil, _ => .nil
  | _, _ :: _, _, .nil, h => h.elim
  | _, [], _, .cons _ _, h => h.elim
  | _, k :: kss, _, .cons r rs, h => .cons ((keyData_dp h.1).reads I _ _ _ r) (each_alike (K := K) I rs h.2)
theorem sort_core {X : Cx} {pins : List (Addr × Obj)} {σ : L2.St} {H2 : Hp} {s2 : Shared} {pm : Option Addr} {g : G} {Hf : Hp} (I : L2.Inv X pins σ H2 s2) (ex : Ex Hf H2) (m : MAt X.K pm g Hf H2) {l : Addr} {xsV : List V} {xs : List D} (hl : Hf l = some (.lst xsV)) (ha : AtL X.K pm Hf xsV xs)
    {q : Str} {fa c' : Addr} {pmo ctv : Value} {params : Arguments} {body : Expr} {scope : Scope} {a : Str} {k fK W : Nat} {cA : Nat → Addr} {cF : Nat → Str} {call : Nat → List D → G → R D}
    (hf : s2.heap.get? fa = some (PySem.W.kla_obj "<lambda>" q params body scope [] pmo c' ctv)) (hfn : H2 fa = none) (hfr : fa ∉ frs X.stack) (hc : H2 c' = some (CodeO c' q)) (S : FnScope [a] [a] scope) (hb : ∀ u, bindArgs (PySem.W.kla_fn "<lambda>" q params body scope [] pmo (.ref c') ctv) ⟨[u], []⟩ = pure [(a, u)])
    (hr : Room (k + 3) X.A) (hbody : ∀ (s' : Shared) (H' : Hp), PE (cxOf (L2.CX X.prog X.w) X.prog X.w X.K X.mg X.base [a] q scope fa (.ref c') X.A.in1.in1 X.stack s' H' E0) body (rdE X.K ⟨cA, cF, call, W, E0⟩ (.call fK (.cons (.ix (.var 0) (.cst (.int 0))) .nil))))
    {KS : List (List Int)} {gE : G} (hk : keysC call fK xs g = .ok KS gE) (hn : xs.length ≤ 1000) {Q : VK} (hQ : ∀ Hf' H' v, Stp pm Hf H2 Hf' H' → MAt X.K pm gE Hf' H' → At X.K pm Hf' v (.list (sortByK KS xs)) → Q v H') :
    wpAny (model X.prog X.w) X.A (PySem.call (.builtin "sorted") [.ref l] [(Str.ofString "key", .ref fa)]) (EP X pins σ Q) X.xe s2 := by
  obtain ⟨its, rV, hpl, hz⟩ := I.list (sq_of (ex _ _ hl))
  have lV : xsV.length = xs.length := ha.length
  have lI : its.length = xs.length := by rw [← rV.length, lV]
  have lK : KS.length = xs.length := keysC_length hk
  have hun := hr.un
  have nofr : ∀ f, s2.heap.objs.size ≤ f → f ∉ frs X.stack := fun f hf z => by
    rcases List.mem_cons.mp (I.stkSub _ z) with e | e
    · have h1 := I.lt
      rw [← e] at h1
      exact Nat.lt_irrefl _ (Nat.lt_of_lt_of_le h1 hf)
    · exact I.nofs hf e
  refine PySem.KeyL.sorted (vs := its) (kz := KS.map keyData) hpl.isList (by rw [List.length_map, lK, lI]) (by rw [lI, sizeLine_eq]; omega) (fun d hd d' hd' => ?_) (.inr fun d hd => ?_) (fun d hd => ?_) fun kS s1 g1 g2 g3 g4 => ?_
  · obtain ⟨x, _, rfl⟩ := List.mem_map.mp hd
    obtain ⟨y, _, rfl⟩ := List.mem_map.mp hd'
    show alike (keyData x) (keyData y) = true
    unfold keyData
    simp only [alike]
    exact alike_ints x y
  · obtain ⟨x, _, rfl⟩ := List.mem_map.mp hd
    exact ⟨(fun z => by unfold keyData at z; cases z), (fun xs z => by unfold keyData at z; cases z)⟩
  · obtain ⟨x, _, rfl⟩ := List.mem_map.mp hd
    have := depth_ints x
    show X.A.units + 2 + (keyData x).depth < cLine
    unfold keyData
    omega
  have invJ : ∀ {H' : Hp} {s' : Shared} {G : Heap}, Un (frs X.stack) [] H2 H' s2.heap G → HOk X.prog X.w H' G → (∀ b o, G.get? b = some o → s'.heap.get? b = some o) → s'.os = s2.os → AllBare s'.gens → L2.Inv X pins σ H' s' := fun {H' s' G} un ok e os ba => by
    have J1 : L2.Inv X pins σ H' { s' with heap := G } := I.call' (ch := []) (s' := { s' with heap := G }) os un ok ba fun b z => absurd z (by simp)
    exact J1.kept (t' := s'.toks) e
  have hkS : H2 kS = none := I.hok.fresh (Nat.le_of_lt (Nat.lt_trans (Nat.lt_succ_self _) g1))
  have haS : H2 (s2.heap.objs.size + 1) = none := I.hok.fresh (Nat.le_succ _)
  have lkS : s2.heap.objs.size ≤ kS := Nat.le_of_lt (Nat.lt_trans (Nat.lt_succ_self _) g1)
  have nka : kS ≠ s2.heap.objs.size + 1 := Nat.ne_of_gt g1
  refine ⟨fun ks s' => ∃ Hf' H' g' rest, Stp pm Hf H2 Hf' H' ∧ MAt X.K pm g' Hf' H' ∧ keysC call fK (xs.drop ks.length) g' = .ok rest gE ∧ KS.drop ks.length = rest ∧ (∃ kV, Vals kV ks ∧ AtL X.K pm Hf' kV ((KS.take ks.length).map keyData)) ∧ ks.length ≤ xs.length ∧ s'.os = s2.os ∧ AllBare s'.gens ∧ H' kS = none ∧ H' (s2.heap.objs.size + 1) = none ∧
      ∃ G, Un (frs X.stack) [] H2 H' s2.heap G ∧ HOk X.prog X.w H' G ∧ (∀ b o, G.get? b = some o → s'.heap.get? b = some o) ∧ G.get? kS = none ∧ G.get? (s2.heap.objs.size + 1) = none, ?_, ?_, ?_, ?_, ?_⟩
  · refine ⟨Hf, H2, g, KS, Stp.refl ex, m, hk, rfl, ⟨[], .nil, trivial⟩, Nat.zero_le _, g3, by rw [g2]; exact I.bare, hkS, haS, s2.heap, Un.refl, I.hok, g4, Heap.get?_none_of_le lkS, Heap.get?_none_of_le (Nat.le_succ _)⟩
  · rintro ks s' ⟨Hf', H', g', rest, st, mt, _, _, ⟨kV, rk, ak⟩, hle, os, ba, _, _, G, un, ok, e, _, _⟩
    have J := invJ un ok e os ba
    have r := each_alike (K := X.K) J rk (AtL.mono st.fh _ _ ak)
    rw [List.map_take] at r
    exact r
  · rintro ks s' h' ⟨Hf', H', g', rest, st, mt, e1, e2, e3, hle, os, ba, n1, n2, G, un, ok, e, z1, z2⟩ hs
    exact ⟨Hf', H', g', rest, st, mt, e1, e2, e3, hle, os, ba, n1, n2, G, un, ok, fun b o w => (hs.2 b (fun z => by rw [z, z1] at w; cases w)).trans (e b o w), z1, z2⟩
  · intro j x ks s' o1 o2 hx hlen ⟨Hf', H', g', rest, st, mt, hk', hKr, ⟨kV, rk, ak⟩, hle, os, ba, n1, n2, G, un, ok, e, z1, z2⟩ h1 h2
    have J := invJ un ok e os ba
    have hj : j < xs.length := by
      have := (List.getElem?_eq_some_iff.mp hx).1
      omega
    have hd : xs.drop ks.length = xs[j] :: xs.drop (j + 1) := by rw [hlen]; exact List.drop_eq_getElem_cons hj
    rw [hd] at hk'
    obtain ⟨k0, tl, kd, ki, gg, rest', ex0, hcall, hki, hrest, erest⟩ := keysC_step hk'
    have hjV : j < xsV.length := by omega
    obtain ⟨uj, huj, rvj⟩ := rV.get (List.getElem?_eq_getElem hjV)
    rw [hx] at huj
    cases huj
    obtain ⟨dj, hdj, adj⟩ := ha.getV (List.getElem?_eq_getElem hjV)
    rw [List.getElem?_eq_getElem hj] at hdj
    cases hdj
    have avj : At X.K pm Hf' xsV[j] (.tuple (k0 :: tl)) := by rw [← ex0]; exact At.mono st.ff _ _ adj
    have hfG : s'.heap.get? fa = some (PySem.W.kla_obj "<lambda>" q params body scope [] pmo c' ctv) := e _ _ (un.keep _ _ hf hfn hfr (by simp))
    have hc' : H' c' = some (CodeO c' q) := by
      by_cases hp : pm = some c'
      · subst hp
        obtain ⟨_, kvs, mm, _⟩ := m.m0
        rw [hc] at mm
        cases mm
      · exact st.hh _ _ hp codeO_ne hc
    have e0 : Env0 X.prog X.w X.K X.mg X.base X.A.in1.in1 X.stack s' H' := by
      have z := J.env0
      exact ⟨z.frames, z.mod, z.bs, z.bsz, z.funs, z.frf, z.hok, z.bare⟩
    refine wpAny_mono (lam_call J hfG hc' S hb (k := k) hr.in1.in1 e0 rvj (hbody s' H') (Q := fun y H'' => ∃ Hf'', Stp pm Hf' H' Hf'' H'' ∧ MAt X.K pm gg Hf'' H'' ∧ At X.K pm Hf'' y (.list kd)) ?_) (fun u s'' hq => ?_) fun _ _ z => z
    · refine ⟨pm, [some (.frz (.tuple (k0 :: tl)))], g', Hf', ⟨st.fh, mt, rfl, fun i en hi => ?_, fun i j en en' v ne hi hj' oi oj si sj => ?_⟩, ?_⟩
      · cases i with
        | zero => cases hi; exact ⟨_, rfl, avj⟩
        | succ i => cases hi
      · cases i with
        | zero => cases hi; cases oi
        | succ i => cases hi
      · have ev : evE call (.call fK (.cons (.ix (.var 0) (.cst (.int 0))) .nil)) [some (.frz (.tuple (k0 :: tl)))] g' = .ok (.list kd) gg := by
          simp only [evE, evA, List.getElem?_cons_zero, R.bind_ok, ixD]
          have : L2.atI (k0 :: tl) 0 = some k0 := by
            have h1 : L2.ixN (k0 :: tl).length 0 = some 0 := by
              unfold L2.ixN
              rw [if_pos (by decide), if_pos (by rw [List.length_cons]; omega)]; rfl
            unfold L2.atI
            rw [h1]; rfl
          rw [this]
          simp only [R.of_some, R.bind_ok]
          exact hcall
        show Post X.K cA cF pm Hf' H' (evE call _ _ _) E0 _
        rw [ev]
        exact fun Hf'' H'' s1 m1 v av => ⟨Hf'', s1, m1, av⟩
    · obtain ⟨v, H'', os2, ba2, un2, ok2, rv, Hf'', st2, mt2, av⟩ := hq
      obtain ⟨G2, q1, q2⟩ := restrict s''.heap fun b => decide (b ≠ kS ∧ b ≠ s2.heap.objs.size + 1)
      have gk : ∀ b, b ≠ kS → b ≠ s2.heap.objs.size + 1 → G2.get? b = s''.heap.get? b := fun b b1 b2 => q1 b (decide_eq_true ⟨b1, b2⟩)
      have gn : ∀ b, b = kS ∨ b = s2.heap.objs.size + 1 → G2.get? b = none := fun b hb => q2 b (by
        rcases hb with hb | hb <;> simp [hb])
      have m1 : H'' kS = none := un2.free _ _ h1 n1 (by simp)
      have m2 : H'' (s2.heap.objs.size + 1) = none := un2.free _ _ h2 n2 (by simp)
      have nG : ∀ b o, G.get? b = some o → b ≠ kS ∧ b ≠ s2.heap.objs.size + 1 := fun b o w => ⟨(fun z => by rw [z, z1] at w; cases w), (fun z => by rw [z, z2] at w; cases w)⟩
      have nH : ∀ b o, H'' b = some o → b ≠ kS ∧ b ≠ s2.heap.objs.size + 1 := fun b o w => ⟨(fun z => by rw [z, m1] at w; cases w), (fun z => by rw [z, m2] at w; cases w)⟩
      have un3 : Un (frs X.stack) [] H' H'' G G2 := {
        keep := fun b o w n hb hx => by rw [gk b (nG b o w).1 (nG b o w).2]; exact un2.keep b o (e b o w) n hb hx
        slot := fun b o w n hb hx => by
          obtain ⟨sl, y⟩ := un2.slot b o (e b o w) n hb hx
          exact ⟨sl, by rw [gk b (nG b o w).1 (nG b o w).2]; exact y⟩
        free := fun b o w n hx => un2.free b o (e b o w) n hx
        there := fun b o w hx => by
          obtain ⟨o', y⟩ := un2.there b o (e b o w) hx
          exact ⟨o', by rw [gk b (nG b o w).1 (nG b o w).2]; exact y⟩
        tups := un2.tups
        frzs := un2.frzs
        tbls := un2.tbls }
      have ok3 : HOk X.prog X.w H'' G2 := fun b o w => (ok2 b o w).stay (fun c u hc y => by
        have hcc : c ≠ kS ∧ c ≠ s2.heap.objs.size + 1 := by
          rcases hc with hc | hc
          · rw [hc]; exact nH b o w
          · exact nH c _ hc
        rw [gk c hcc.1 hcc.2]; exact y) (fun _ y => y) fun _ _ y => y
      refine ⟨⟨Hf'', H'', gg, rest', st.trans st2, mt2, ?_, ?_, ⟨kV ++ [v], Vals.snoc rk rv, ?_⟩, ?_, os2.trans os, ba2, m1, m2, G2, un.trans un3, ok3, fun b o w => ?_, gn _ (.inl rfl), gn _ (.inr rfl)⟩, ?_, ?_⟩
      · rw [List.length_append, hlen]; exact hrest
      · rw [List.length_append, hlen]
        have : KS.drop j = ki :: rest' := by rw [← hlen, hKr, erest]
        have h3 : KS.drop (j + 1) = (KS.drop j).drop 1 := by rw [List.drop_drop]
        show KS.drop (j + 1) = rest'
        rw [h3, this]; rfl
      · rw [List.length_append]
        have hKj : KS[j]? = some ki := by
          have : KS.drop j = ki :: rest' := by rw [← hlen, hKr, erest]
          have h4 := congrArg (fun l => l[0]?) this
          simpa using h4
        have h5 : KS.take (ks.length + [u].length) = KS.take ks.length ++ [ki] := by
          show KS.take (ks.length + 1) = _
          rw [List.take_add_one, hlen, hKj]; simp
        rw [h5, List.map_append]
        refine AtL.append (AtL.mono st2.ff _ _ ak) ⟨?_, trivial⟩
        rw [← show (PyData.list kd) = keyData ki by unfold keyData; rw [← intsD_eq hki]]
        exact av
      · rw [List.length_append, hlen]
        show j + 1 ≤ xs.length
        omega
      · have hb : b ≠ kS ∧ b ≠ s2.heap.objs.size + 1 := ⟨(fun z => by rw [gn b (.inl z)] at w; cases w), (fun z => by rw [gn b (.inr z)] at w; cases w)⟩
        rw [gk b hb.1 hb.2] at w
        exact w
      · exact un2.keep _ _ h1 n1 (nofr _ lkS) (by simp)
      · exact un2.keep _ _ h2 n2 (nofr _ (Nat.le_succ _)) (by simp)
  · intro ks s' h' tk out c ⟨Hf', H', g', rest, st, mt, hk', hKr, _, hle, os, ba, n1, n2, G, un, ok, e, z1, z2⟩ hlen hkeep hout ko
    have eg : g' = gE := by
      rw [List.drop_of_length_le (by omega)] at hk'
      simp [keysC] at hk'
      exact hk'.2
    subst eg
    have ko' : KeyedOut false ((KS.zip xs).map fun p => keyData p.1) its out := by rw [zip_keys lK]; exact ko
    have hR := each_zip (cs := KS) (AtL.mapV (AtL.mono st.ff _ _ ha) rV) lK
    have hO : EachIs (fun u d => ∃ v, L2.RelV v u ∧ At X.K pm Hf' v d) out (sortByK KS xs) := each_map (R := fun u d => ∃ v, L2.RelV v u ∧ At X.K pm Hf' v d) (f := Prod.snd) (keyedOut_each (R := fun u p => ∃ v, L2.RelV v u ∧ At X.K pm Hf' v p.2) (fun p : List Int × D => keyData p.1) ko' hR)
    obtain ⟨outV, rO, aO⟩ := AtL.ofEach (K := X.K) (pm := pm) (H := Hf') hO
    have exf : Ex Hf' H' := st.fh
    have nG : ∀ b o, G.get? b = some o → b ≠ kS ∧ b ≠ s2.heap.objs.size + 1 := fun b o w => ⟨(fun z => by rw [z, z1] at w; cases w), (fun z => by rw [z, z2] at w; cases w)⟩
    have gh : ∀ b o, G.get? b = some o → h'.get? b = some o := fun b o w => hkeep b o (nG b o w).1 (nG b o w).2 (e b o w)
    have lO : outV.length ≤ sizeLine := by
      have h1 := aO.length
      have h2 : (sortByK KS xs).length = xs.length := by unfold sortByK; rw [List.length_map, List.length_mergeSort, List.length_zip]; omega
      rw [h1]
      show (sortByK KS xs).length ≤ _
      rw [h2, sizeLine_eq]; omega
    have un3 : Un (frs X.stack) [] H' (upd H' (s2.heap.objs.size + 1) (.lst outV)) G h' := {
      keep := fun b o w _ _ _ => gh b o w
      slot := fun b o w _ _ _ => ⟨o.slots, gh b o w⟩
      free := fun b o w n _ => by rw [upd_ne (nG b o w).2]; exact n
      there := fun b o w _ => ⟨o, gh b o w⟩
      tups := fun b xs w => by rw [upd_ne (ne_of_none w n2)]; exact w
      frzs := fun b o u w => by rw [upd_ne (ne_of_none w n2)]; exact w
      tbls := fun b ps w => ⟨#[], by rw [upd_ne (ne_of_none w n2), w]; simp⟩ }
    have ok3 : HOk X.prog X.w (upd H' (s2.heap.objs.size + 1) (.lst outV)) h' := fun b o w => by
      by_cases hb : b = s2.heap.objs.size + 1
      · subst hb
        rw [upd_same] at w
        cases w
        exact ⟨lO, out, c, rO, hout⟩
      · rw [upd_ne hb] at w
        exact (ok b o w).stay (fun d u _ y => gh d u y) (fun d y => by rw [upd_ne (ne_of_none y n2)]; exact y) fun d xs y => by rw [upd_ne (ne_of_none y n2)]; exact y
    have J3 : L2.Inv X pins σ (upd H' (s2.heap.objs.size + 1) (.lst outV)) { s' with heap := h', toks := tk } := I.call' (ch := []) (s' := { s' with heap := h', toks := tk }) os (un.trans un3) ok3 ba fun b z => absurd z (by simp)
    exact ⟨.ref _, _, J3, rfl, hQ (upd Hf' (s2.heap.objs.size + 1) (.lst outV)) _ _ (st.trans (Stp.new exf n2)) (mt.new n2 exf) ⟨_, outV, rfl, upd_same, AtL.mono (Ex.new (fresh_back exf n2)) _ _ aO⟩⟩
end Mini

set_option maxRecDepth 100000
set_option maxHeartbeats 4000000
namespace Mini
open PySem L2 Evl PySem.Spec PyProof.Rows LamX
section
variable {X : Cx} {S : Sg} {pos : Pos}
/-- sorted(e, key=lambda a: f(a[0])) -/
theorem m_sortL {fK : Nat} {k : Nat} {c P : Addr} {e : Expr} {me : ME} {a : Str} {p lp kp : Pos} {params : Arguments} {body : Expr} {scope : Scope} (hr : Room (k + 3) X.A) (TB : TabB X.base X.mg c P) (hcode : X.env.code = .ref c)
    (hl : LamAt X.K P (X.env.qual ++ "<lambda>")) (hu : ∀ q', LamAt X.K P q' → q' = X.env.qual ++ "<lambda>") (hdef : defaultsOf params X.env = ([], [])) (Sc : FnScope [a] [a] scope) (hclo : cloFrom X.env.cells scope.names [] = [])
    (hb : ∀ (pmo ctv : Value) (c' : Addr) (u : Value), bindArgs (PySem.W.kla_fn "<lambda>" (X.env.qual ++ "<lambda>") params body scope [] pmo (.ref c') ctv) ⟨[u], []⟩ = pure [(a, u)])
    (hbody : ∀ (fa c' : Addr) (s' : Shared) (H' : Hp), Room k (X.A.in1.in1.deeper (PyProof.Rows.envOfC (X.env.qual ++ "<lambda>") scope s'.heap.objs.size fa (.ref c'))) → PE (cxOf (L2.CX X.prog X.w) X.prog X.w X.K X.mg X.base [a] (X.env.qual ++ "<lambda>") scope fa (.ref c') X.A.in1.in1 X.stack s' H' E0) body (rdE X.K ⟨S.cA, S.cF, S.call, S.W, E0⟩ (.call fK (.cons (.ix (.var 0) (.cst (.int 0))) .nil))))
    (he : PE X e (rdE X.K S me)) (hg : Gl X "sorted") (hm : X.mg "sorted" = none)
    (h1 : backTo pos (starEach [e] X.env) = (false, eval e X.env) :: backTo pos (starEach [] X.env) := by rfl) (h1' : starEach [e] X.env = (false, eval e X.env) :: starEach [] X.env := by rfl) (hpl : (backTo pos (starEach [e] X.env)).any (·.1) = false := by rfl)
    (hall : (backToKw pos (keywordEach [⟨some "key", .Lambda params body scope lp, kp⟩] X.env)).all (·.1.isSome) = true := by rfl) (hnone : (backToKw pos (keywordEach [⟨some "key", .Lambda params body scope lp, kp⟩] X.env)).any (·.1.isNone) = false := by rfl) (hks : (backToKw pos (keywordEach [⟨some "key", .Lambda params body scope lp, kp⟩] X.env)).filterMap (·.1) = [Str.ofString "key"] := by rfl) :
    PE X (.Call (.Name "sorted" p) [e] [⟨some "key", .Lambda params body scope lp, kp⟩] pos) (rdE X.K S (.sortL me fK)) := by
  refine ⟨fun pins s σ H Q I h => ?_⟩
  refine wpAny_Call_Name_kw (ld_blt I hg hm (u := .builtin "sorted") (by decide +kernel) ?_)
  have hA : rdA X.K S (.cons me .nil) σ H fun vs H1 => ∃ v, vs = [v] ∧ ∃ pm Hf g ds KS gE, Ex Hf H1 ∧ MAt X.K pm g Hf H1 ∧ At X.K pm Hf v (.list ds) ∧ keysC S.call fK ds g = .ok KS gE ∧ ds.length ≤ 1000 ∧ ∀ Hf' H' v, Stp pm Hf H1 Hf' H' → MAt X.K pm gE Hf' H' → At X.K pm Hf' v (.list (sortByK KS ds)) → Q v H' := by
    obtain ⟨pm, ρ, g, Hf, rel, h⟩ := h
    simp only [evE] at h
    have h := Post.bind h
    refine ⟨pm, ρ, g, Hf, rel, ?_⟩
    simp only [evA]
    cases q : evE S.call me ρ g with
    | stuck => rw [q] at h; exact h.elim
    | exc c d g1 => rw [q] at h; exact h
    | ok d g1 =>
      rw [q] at h
      simp only [R.bind_ok]
      intro Hf1 H1 s1 m1 vs av
      obtain ⟨v, rfl, av1⟩ := atl1 av
      have h := h Hf1 H1 s1 m1
      cases d with
      | list ds =>
        simp only at h
        cases q2 : keysC S.call fK ds g1 with
        | stuck => rw [q2] at h; exact h.elim
        | exc c d g1 => rw [q2] at h; exact h.elim
        | ok KS gE =>
          rw [q2] at h
          simp only [R.noX, R.bind_ok] at h
          split at h
          · rename_i hn
            exact ⟨v, rfl, pm, Hf1, g1, ds, KS, gE, s1.fh, m1, av1, q2, hn, fun Hf' H' v st mt a => h Hf' H' st mt v a⟩
          · exact h.elim
      | _ => exact h.elim
  refine PyProof.Rows.callWith_kw (thn ((m_cons (S := S) he m_nil h1').run pos pins s σ H _ I hA) fun us s1 ⟨vs, H1, I1, r1, q1⟩ => ?_) h1 hpl hall hnone
  rw [hks]
  obtain ⟨v, rfl, pm, Hf, g, ds, KS, gE, ex, m, av, hk, hn, hQ⟩ := q1
  obtain ⟨l, xsV, rfl, hl2, ha2⟩ := av
  obtain rfl := Vals.ref1 r1
  show wpAny _ _ (evalAll ((do let v ← eval (.Lambda params body scope lp) X.env; standAt pos; pure v) :: (backToKw pos (keywordEach [] X.env)).map (·.2))) _ _ s1
  refine wpAny_evalAll_cons (wpAny_bind (lam_made I1 ex m TB hcode hl hu hdef (fun y hy e => absurd e (Sc.nofree y hy)) fun fa c' pmo ctv H2 s2 I2 st mt hfa hfn hfr hc' => wpAny_bind (wpAny_standAt (wpAny_pure ?_))))
  refine wpAny_evalAll_nil ?_
  rw [hclo] at hfa
  show wpAny _ _ (PySem.call (.builtin "sorted") [.ref l] [(Str.ofString "key", .ref fa)]) _ _ _
  refine sort_core (cA := S.cA) (cF := S.cF) (W := S.W) (call := S.call) (k := k) I2 (st.fh) mt (st.ff _ _ hl2) (AtL.mono st.ff _ _ ha2) hfa hfn hfr hc' Sc (hb pmo ctv c') hr (fun s' H' => hbody fa c' s' H' (hr.in1.in1.deeper _)) hk hn fun Hf' H' v st2 mt2 a => hQ Hf' H' v (st.trans st2) mt2 a
/-- TAB[e], TAB a dict of the module: texts to ints -/
theorem m_gix {x : Str} {b : Expr} {mb : ME} {xp : Pos} {pa : Addr} (tab : List (Str × Int)) (hg : Gl X x) (hm : X.mg x = some (.ref pa)) (hd : ∀ kv ∈ tab, KDct X.K X.w pa kv.1 (.int kv.2)) (hb : PE X b (rdE X.K S mb)) (hs : PlainIx b := by exact fun _ _ => rfl) (hdb : (x == ("__debug__" : Str)) = false := by decide) :
    PE X (.Subscript (.Name x xp) b pos) (rdE X.K S (.gix tab mb)) := PE.weak (pe_ix ix_kdict (pe_glob (v := .ref pa) hg hm rfl hdb) hb hs) fun σ H Q h => by
  obtain ⟨pm, ρ, g, Hf, rel, h⟩ := h
  simp only [evE] at h
  refine ⟨pm, ρ, g, Hf, rel, (Post.bind h).mono fun d g1 Hf1 H1 s1 m1 h1 v a1 => ?_⟩
  cases d with
  | str z =>
    simp only at h1
    cases q : tab.find? fun kv => decide (kv.1 = z) with
    | none => rw [q] at h1; exact h1.elim
    | some kv =>
      rw [q] at h1
      have e1 : kv.1 = z := by simpa using List.find?_some q
      have e2 := List.mem_of_find?_eq_some q
      have k := hd kv e2
      rw [e1] at k
      exact ⟨pa, z, .int kv.2, rfl, a1, k, h1 Hf1 H1 (Stp.refl s1.fh) m1 _ rfl⟩
  | _ => exact h1.elim
/-- told, size = ({}, n) -/
theorem s_newDT (i j : Nat) {n : Int} {jn : Nat} {x y : Str} {px py pt ip dp : Pos} {kt k2 : Nat} {pt2 : Pos} (hc : X.calm = true) (hN : X.N.Nodup) (hi : X.N[i]? = some x := by rfl) (hj : X.N[j]? = some y := by rfl) (hij : i ≠ j := by decide)
    (hx : X.env.scope.names.lookup x = some .local := by rfl) (hy : X.env.scope.names.lookup y = some .local := by rfl)
    (hw : swappedStores [.Tuple [.Name x px, .Name y py] kt pt] (.Tuple [.Dict [] [] dp, .Constant (.int n) jn ip] k2 pt2) X.env = pure (some [x, y]) := by rfl)
    (hs : swapsWithSole [.Tuple [.Name x px, .Name y py] kt pt] (.Tuple [.Dict [] [] dp, .Constant (.int n) jn ip] k2 pt2) pos.line X.env = pure false := by rfl) (he : starEach [.Dict [] [] dp, .Constant (.int n) jn ip] X.env = (false, eval (.Dict [] [] dp) X.env) :: starEach [.Constant (.int n) jn ip] X.env := by rfl) (he2 : starEach [.Constant (.int n) jn ip] X.env = (false, eval (.Constant (.int n) jn ip) X.env) :: starEach [] X.env := by rfl) :
    PS X (.Assign [.Tuple [.Name x px, .Name y py] kt pt] (.Tuple [.Dict [] [] dp, .Constant (.int n) jn ip] k2 pt2) pos) (rdS X.K S (.newDT i j (.cst (.int n)))) :=
  PS.weak (ps_par hc hN hi hj hij hx hy (pa_cons pe_dnewT (pa_cons pe_int pa_nil he2) he) hw hs) fun D σ H h => by
    obtain ⟨pm, Hf0, H0, ρ, g, Hf, rel, st, h⟩ := h
    simp only [exS, evE, R.bind_ok, if_pos hij] at h
    intro p hp
    have f0 := st.free0 hp
    have r1 := rel.own (i := i) (o := .dT []) (e0 := .ownD []) f0 hp ⟨p, [], rfl, rel.rel.mat.ne hp, fresh_back rel.rel.ex hp, upd_same, rfl, trivial⟩
    have st1 : Stp pm Hf0 H0 Hf (upd H p (.dT [])) := st.mut f0 (fresh_back rel.rel.ex hp)
    have hh : PostS X.K S pm Hf0 H0 ((R.of (setT (.nm j) (.int n) (ρ.set i (some (.ownD [])))) g).bind fun ρ1 g1 => R.ok (Fl.nx, ρ1) g1) (EndF X.K pm H0 Hf D) := h
    have z := setS (De := D) (v := .int n) (Q2 := D.nx) r1 st1 (show At X.K pm Hf (.int n) (.int n) from rfl) hh fun ρ1 σ1 r2 h2 => h2 Hf _ st1 r2.rel.mat (Ex.refl _) σ1 r2
    exact ⟨.ref p, .int n, rfl, z⟩
/-- list(x), x the script -/
theorem m_scr (i : Nat) {x : Str} {yp xp : Pos} (hv : PE X (.Name x xp) (tVar i)) (hg : Gl X "list") (hm : X.mg "list" = none) (hs1 : starEach [.Name x xp] X.env = (false, eval (.Name x xp) X.env) :: starEach [] X.env := by rfl) :
    PE X (.Call (.Name "list" yp) [.Name x xp] [] pos) (rdE X.K S (.scr i)) :=
  PE.weak (pe_callTy call_list_of hg hm (by decide +kernel) (pa_cons hv pa_nil hs1) (by decide +kernel) (by decide +kernel) hs1 rfl) fun σ H Q h => by
    obtain ⟨pm, ρ, g, Hf, rel, h⟩ := h
    simp only [evE] at h
    split at h
    · rename_i ns hρ
      obtain ⟨v, hσ, a, rfl, hs⟩ := rel.ent i _ hρ
      refine ⟨_, hσ, a, ns.map V.int, rfl, .inl (SqL_mono rel.ex hs), fun l hl => ?_⟩
      have at_ : ∀ (H : Hp) (ns : List Int), AtL X.K pm H (ns.map V.int) (ns.map PyData.int) := fun H ns => by
        induction ns with
        | nil => trivial
        | cons n ns ih => exact ⟨rfl, ih⟩
      exact h _ _ (Stp.new rel.ex hl) (rel.mat.new hl rel.ex) _ ⟨l, ns.map V.int, rfl, upd_same, at_ _ _⟩
    · exact h.elim
end
end Mini

set_option maxRecDepth 100000
set_option maxHeartbeats 4000000
namespace Mini
open PySem L2 Evl PySem.Spec PyProof.Rows
/-! ### a tuple becomes firm -/
theorem Stp.firmT {pm : Option Addr} {Hf H : Hp} {b : Addr} {xs : List V} (e : Ex Hf H) (h : H b = some (.tup xs)) (n : pm ≠ some b) : Stp pm Hf H (upd Hf b (.tup xs)) H := by
  refine ⟨fun a o q => ?_, fun a o q => ?_, fun a o q => ?_, fun _ _ _ _ q => q, fun _ q => q, fun _ _ q => .inl q, fun a q _ z => ?_⟩
  · by_cases hb : a = b
    · subst hb
      rw [upd_same]
      rw [e _ _ q] at h
      exact h.symm
    · rw [upd_ne hb]; exact q
  · by_cases hb : a = b
    · subst hb
      rw [upd_same] at q
      rw [h]; exact q
    · rw [upd_ne hb] at q; exact e _ _ q
  · by_cases hb : a = b
    · subst hb
      exact .inr (.inr ⟨xs, h⟩)
    · rw [upd_ne hb] at q; exact .inl q
  · rw [upd_ne (fun w => n (by rw [q, w]))]; exact z
theorem MAt.notTup {K : PySem.W.Frag} {pm : Option Addr} {g : G} {Hf H : Hp} {b : Addr} {xs : List V} (m : MAt K pm g Hf H) (h : H b = some (.tup xs)) : pm ≠ some b := fun e => by
  subst e
  obtain ⟨_, kvs, m2, _⟩ := m.m0
  rw [h] at m2; cases m2
theorem MAt.firmT {K : PySem.W.Frag} {pm : Option Addr} {g : G} {Hf H : Hp} {b : Addr} {xs : List V} (m : MAt K pm g Hf H) (e : Ex Hf H) (h : H b = some (.tup xs)) : MAt K pm g (upd Hf b (.tup xs)) H := by
  have s := Stp.firmT e h (m.notTup h)
  refine ⟨?_, m.tb, fun P q l => ?_⟩
  · have m0 := m.m0
    have n := m.notTup h
    cases pm with
    | none => exact m0
    | some p =>
      obtain ⟨m1, kvs, m2, m3, m4⟩ := m0
      exact ⟨by rw [upd_ne (fun w => n (by rw [w]))]; exact m1, kvs, m2, m3, AtL.mono s.ff _ _ m4⟩
  · obtain ⟨ps, hP⟩ := m.tb.at l
    rw [upd_ne (fun w => by rw [w, h] at hP; cases hP)]
    exact m.tf P q l
theorem keyP_at {K : PySem.W.Frag} {pm : Option Addr} {H : Hp} : ∀ k : List Key, AtL K pm H (k.map kV) (k.map keyP)
  | [] => trivial
  | .inl i :: r => ⟨rfl, keyP_at r⟩
  | .inr s :: r => ⟨rfl, keyP_at r⟩
/-! ### the heap without the lock -/
def drop1 (H : Hp) (a : Addr) : Hp := fun b => if b = a then none else H b
theorem drop1_ne {H : Hp} {a b : Addr} (h : b ≠ a) : drop1 H a b = H b := if_neg h
theorem drop1_same {H : Hp} {a : Addr} : drop1 H a a = none := if_pos rfl
mutual
theorem At.del {K : PySem.W.Frag} {pm : Option Addr} {H : Hp} {p : Addr} {o : Obj} {u : HO} (hp : H p = some (.frz o u)) : ∀ (d : D) (v : V), At K pm H v d → At K pm (drop1 H p) v d
  | .none, _, h => h
  | .bool _, _, h => h
  | .int _, _, h => h
  | .str _, _, h => h
  | .tuple ds, _, h => by
    obtain ⟨a, xs, r, h1, h2⟩ := h
    exact ⟨a, xs, r, by rw [drop1_ne (fun z => by rw [z, hp] at h1; cases h1)]; exact h1, AtL.del hp ds xs h2⟩
  | .list ds, _, h => by
    obtain ⟨a, xs, r, h1, h2⟩ := h
    exact ⟨a, xs, r, by rw [drop1_ne (fun z => by rw [z, hp] at h1; cases h1)]; exact h1, AtL.del hp ds xs h2⟩
  | .dict _, _, h => h
theorem AtL.del {K : PySem.W.Frag} {pm : Option Addr} {H : Hp} {p : Addr} {o : Obj} {u : HO} (hp : H p = some (.frz o u)) : ∀ (ds : List D) (vs : List V), AtL K pm H vs ds → AtL K pm (drop1 H p) vs ds
  | [], [], h => h
  | d :: ds, v :: vs, h => ⟨At.del hp d v h.1, AtL.del hp ds vs h.2⟩
  | [], _ :: _, h => h
  | _ :: _, [], h => h
end
section
variable {X : Cx} {S : Sg} {pos : Pos}
theorem m_lock (i : Nat) {e : Expr} {me : ME} (h : PE X e (rdE X.K S me)) : PE X e (rdE X.K S (.lockd i me)) := PE.weak (pe_lock h) fun σ H Q h => by
  obtain ⟨pm, ρ, g, Hf, rel, h⟩ := h
  simp only [evE] at h
  split at h
  · rename_i kvs hρ
    obtain ⟨v0, hσ, p, kws, rfl, n1, n2, hp, hk, ha⟩ := rel.ent i _ hρ
    refine ⟨p, .dT kws, hp, trivial, fun od => ?_⟩
    have hi : i < ρ.length := (List.getElem?_eq_some_iff.mp hρ).1
    have en : Ex Hf (upd Hf p (.frz od (.dT kws))) := Ex.new n2
    have exL : Ex (upd Hf p (.frz od (.dT kws))) (upd H p (.frz od (.dT kws))) := fun b o q => by
      by_cases hb : b = p
      · subst hb; rw [upd_same] at q ⊢; exact q
      · rw [upd_ne hb] at q ⊢; exact rel.ex _ _ q
    have ntd : ∀ u, H p = some u → NotTab u := nt_of hp (nt_dT _)
    have nPp : ∀ {P : Addr} {q : Str}, LamAt X.K P q → P ≠ p := fun l z => by
      obtain ⟨ps, hP⟩ := rel.mat.tb.at l
      rw [z, hp] at hP; cases hP
    refine ⟨pm, ρ.set i (some (.lckD kvs)), g, upd Hf p (.frz od (.dT kws)), ⟨exL, ⟨?_, rel.mat.tb.mut ntd, fun P q l => by rw [upd_ne (nPp l)]; exact rel.mat.tf P q l⟩, by rw [List.length_set]; exact rel.len, fun j e2 q => ?_, fun j k e1 e2 v nj qj qk oj ok sj sk => ?_⟩, ?_⟩
    · have m0 := rel.mat.m0
      cases pm with
      | none => exact m0
      | some q =>
        obtain ⟨m1, kvs', m2, m3, m4⟩ := m0
        have nq : q ≠ p := fun w => n1 (by rw [w])
        exact ⟨by rw [upd_ne nq]; exact m1, kvs', by rw [upd_ne nq]; exact m2, m3, AtL.mono en _ _ m4⟩
    · by_cases hj : i = j
      · subst hj
        rw [List.getElem?_set_self hi] at q
        cases q
        exact ⟨_, hσ, p, od, kws, rfl, upd_same, hk, AtL.mono en _ _ ha⟩
      · rw [List.getElem?_set_ne hj] at q
        obtain ⟨v, w1, w2⟩ := rel.ent j e2 q
        refine ⟨v, w1, ?_⟩
        have nep : ∀ (p2 : Addr), isOwn e2 = true → v = V.ref p2 → p2 ≠ p := fun p2 o z zz => by
          subst z zz
          exact rel.dis i j _ e2 _ hj hρ q rfl o hσ w1
        cases e2 with
        | frz d => exact At.mono en d v w2
        | ownL ds =>
          obtain ⟨p2, xs, e1, a1, a2, a3, a4⟩ := w2
          exact ⟨p2, xs, e1, a1, by rw [upd_ne (nep p2 rfl e1)]; exact a2, by rw [upd_ne (nep p2 rfl e1)]; exact a3, AtL.mono en _ _ a4⟩
        | ownD ds =>
          obtain ⟨p2, xs, e1, a1, a2, a3, a5, a4⟩ := w2
          exact ⟨p2, xs, e1, a1, by rw [upd_ne (nep p2 rfl e1)]; exact a2, by rw [upd_ne (nep p2 rfl e1)]; exact a3, a5, AtL.mono en _ _ a4⟩
        | scr ns => obtain ⟨a, e1, e3⟩ := w2; exact ⟨a, e1, SqL_mono en e3⟩
        | lckD ds => obtain ⟨p2, o, ks, e1, h1, h2, h3⟩ := w2; exact ⟨p2, o, ks, e1, en _ _ h1, h2, AtL.mono en _ _ h3⟩
    · have un : ∀ (j : Nat) (e : Ent), (ρ.set i (some (.lckD kvs)))[j]? = some (some e) → isOwn e = true → ρ[j]? = some (some e) := fun j e q o => by
        by_cases hj : i = j
        · subst hj
          rw [List.getElem?_set_self hi] at q
          cases q; cases o
        · rw [List.getElem?_set_ne hj] at q; exact q
      exact rel.dis j k e1 e2 v nj (un j e1 qj oj) (un k e2 qk ok) oj ok sj sk
    · cases q : evE S.call me (ρ.set i (some (.lckD kvs))) g with
      | stuck => rw [q] at h; exact h.elim
      | exc c d g1 => rw [q] at h; exact h.elim
      | ok d g1 =>
        rw [q] at h
        intro Hf' H' s m v av
        have fp : Hf' p = some (.frz od (.dT kws)) := s.ff _ _ upd_same
        have hp' : H' p = some (.frz od (.dT kws)) := s.fh _ _ fp
        have ntf : NotTab (.frz od (.dT kws)) := ⟨(fun _ z => by cases z), fun c q z => by unfold LamX.CodeO at z; cases z⟩
        refine ⟨hp', h (drop1 Hf' p) (upd H' p (.dT kws)) ⟨fun b o w => ?_, fun b o w => ?_, fun b o w => ?_, fun b o nb nt w => ?_, fun b w => ?_, fun b xs w => ?_, fun b e w z => ?_⟩ ⟨?_, m.tb.mut (nt_of hp' ntf), fun P q l => ?_⟩ v (At.del fp d v av)⟩
        · have hb : b ≠ p := fun z => by rw [z, n2] at w; cases w
          rw [drop1_ne hb]
          exact s.ff _ _ (by rw [upd_ne hb]; exact w)
        · have hb : b ≠ p := fun z => by rw [z, drop1_same] at w; cases w
          rw [drop1_ne hb] at w
          rw [upd_ne hb]
          exact s.fh _ _ w
        · have hb : b ≠ p := fun z => by rw [z, drop1_same] at w; cases w
          rw [drop1_ne hb] at w
          rcases s.fr b o w with z | z | ⟨xs, z⟩
          · rw [upd_ne hb] at z; exact .inl z
          · rw [upd_ne hb] at z; exact .inr (.inl z)
          · rw [upd_ne hb] at z; exact .inr (.inr ⟨xs, z⟩)
        · by_cases hb : b = p
          · subst hb
            rw [upd_same, ← w, hp]
          · rw [upd_ne hb]
            exact s.hh b o nb nt (by rw [upd_ne hb]; exact w)
        · by_cases hb : b = p
          · subst hb
            rw [upd_same]; simp
          · rw [upd_ne hb]
            exact s.nn b (by rw [upd_ne hb]; exact w)
        · have hb : b ≠ p := fun z => by rw [z, upd_same] at w; cases w
          rw [upd_ne hb] at w
          rcases s.tp b xs w with z | z
          · rw [upd_ne hb] at z; exact .inl z
          · rw [upd_ne hb] at z; exact .inr z
        · have hb : b ≠ p := fun y => n1 (by rw [e, y])
          rw [drop1_ne hb]
          exact s.pp b e (by rw [upd_ne hb]; exact w) (by rw [upd_ne hb]; exact z)
        · have m0 := m.m0
          cases pm with
          | none => exact m0
          | some q =>
            obtain ⟨m1, kvs', m2, m3, m4⟩ := m0
            have nq : q ≠ p := fun w => n1 (by rw [w])
            exact ⟨by rw [drop1_ne nq]; exact m1, kvs', by rw [upd_ne nq]; exact m2, m3, AtL.del fp _ _ m4⟩
        · by_cases hP : P = p
          · rw [hP, drop1_same]
          · rw [drop1_ne hP]; exact m.tf P q l
  · exact h.elim
theorem i_dkeys (i : Nat) {tg : Expr} {x : Str} {xp : Pos} (hv : PE X (.Name x xp) (tVar i)) : PI X tg (.Name x xp) (rdI X.K S (.dkeys i)) := PI.weak (pi_keys hv) fun σ H R h => by
  obtain ⟨pm, ρ, g, Hf, rel, h⟩ := h
  simp only [evI] at h
  split at h
  · rename_i kvs hρ
    obtain ⟨v0, hσ, p, o, kws, rfl, hp, hk, ha⟩ := rel.ent i _ hρ
    refine ⟨.ref p, hσ, p, o, rfl, .inr ⟨kws, rel.ex _ _ hp, Post.now h rel.ex rel.mat _ ?_⟩⟩
    have hl : kws.length = kvs.length := by
      have := congrArg List.length hk
      simpa using this
    refine ⟨fun j Hf' H' e1 e2 hj => ⟨e2 _ _ (e1 _ _ hp), by rw [List.length_map] at hj; omega⟩, fun Hf' H' e1 e2 => ⟨e2 _ _ (e1 _ _ hp), by rw [List.length_map]; omega⟩, fun j Hf' H' x H'' g' e1 e2 m hj y => ?_⟩
    obtain ⟨rfl, k, w, q, hkw, rfl, hq⟩ := y
    have hkk : (kvs.map fun x => keyD x.1)[j]? = some (keyD k) := by
      have e3 : (kvs.map (·.1))[j]? = some k := by rw [← hk, List.getElem?_map, hkw]; rfl
      rw [List.getElem?_map] at e3 ⊢
      cases z : kvs[j]? with
      | none => rw [z] at e3; cases e3
      | some kv =>
        rw [z] at e3
        have z2 : kv.1 = k := Option.some.inj e3
        rw [← z2]; rfl
    exact ⟨_, _, hkk, Stp.firmT e2 hq (m.notTup hq), m.firmT e2 hq, q, _, rfl, upd_same, keyP_at k⟩
  · exact h.elim
end
end Mini

set_option maxRecDepth 100000
set_option maxHeartbeats 4000000
namespace Mini
open PySem L2 Evl PySem.Spec PyProof.Rows
/-- the pair of ints that the tuple behind a value holds -/
def pairAt (H : Hp) : V → Int × Int
  | .ref b => match H b with
    | some (.tup [.int i, .int j]) => (i, j)
    | _ => (0, 0)
  | _ => (0, 0)
theorem le_anti {p q : Int × Int} (h1 : lePair p q = true) (h2 : lePair q p = true) : p = q := by
  unfold lePair at h1 h2
  simp only [Bool.or_eq_true, Bool.and_eq_true, decide_eq_true_eq] at h1 h2
  obtain ⟨a, b⟩ := p
  obtain ⟨c, d⟩ := q
  simp only at h1 h2
  have h3 : a = c := by omega
  have h4 : b = d := by omega
  rw [h3, h4]
theorem le_total (p q : Int × Int) : (lePair p q || lePair q p) = true := by
  unfold lePair
  simp only [Bool.or_eq_true, Bool.and_eq_true, decide_eq_true_eq]
  omega
theorem le_trans {p q r : Int × Int} (h1 : lePair p q = true) (h2 : lePair q r = true) : lePair p r = true := by
  unfold lePair at h1 h2 ⊢
  simp only [Bool.or_eq_true, Bool.and_eq_true, decide_eq_true_eq] at h1 h2 ⊢
  omega
theorem sorted_uniq : ∀ {l m : List (Int × Int)}, l.Pairwise (fun p q => lePair p q = true) → m.Pairwise (fun p q => lePair p q = true) → l.Perm m → l = m
  | [], m, _, _, p => (List.Perm.eq_nil p.symm).symm
  | x :: l, [], _, _, p => absurd p.length_eq (by simp)
  | x :: l, y :: m, hl, hm, p => by
    obtain ⟨h1, h2⟩ := List.pairwise_cons.mp hl
    obtain ⟨g1, g2⟩ := List.pairwise_cons.mp hm
    have e : x = y := by
      rcases List.mem_cons.mp (p.mem_iff.mp (List.mem_cons_self (a := x) (l := l))) with z | z
      · exact z
      · rcases List.mem_cons.mp (p.mem_iff.mpr (List.mem_cons_self (a := y) (l := m))) with w | w
        · exact w.symm
        · exact le_anti (h1 y w) (g1 x z)
    subst e
    rw [sorted_uniq h2 g2 p.cons_inv]
theorem lexB_le {p q : Int × Int} (h : SrtO.lexB q p = false) : lePair p q = true := by
  have := SrtO.lexB_no.mp h
  unfold lePair
  simp only [Bool.or_eq_true, Bool.and_eq_true, decide_eq_true_eq]
  omega
section
variable {X : Cx} {S : Sg} {pos : Pos}
/-- sorted(d), d a dict whose keys are pairs of ints -/
theorem call_sortedDT (hcalm : X.calm = true) : CallR X (.builtin "sorted") (fun xs H Q => ∃ (d : Addr) (kvs : List (List Key × V)), xs = [.ref d] ∧ H d = some (.dT kvs) ∧ kvs.length ≤ 1000 ∧ (∀ p ∈ kvs, ∃ i j, p.1 = [.inl i, .inl j]) ∧
    ∀ (bs : List Addr) (ys : List V) (p : Addr), IsKeys H kvs bs → SrtO.Srtd (ltP (pairAt H)) ys → ys.Perm (bs.map V.ref) → H p = none → Q (.ref p) (upd H p (.lst ys))) := by
  intro pins s σ H xs us Q I r h
  obtain ⟨d, kvs, rfl, hd, hz, hp, q⟩ := h
  obtain ⟨u, rfl, rx⟩ := r.one
  cases rx
  obtain ⟨z, hs, ks, pr, o, es, ep, ho, hx, hdt, he, hn⟩ := (show ObjOk X.prog X.w H s.heap d (.dT kvs) from I.hok d _ hd)
  have l1 : es.size = ks.length := size_of_entries he
  have l2 : kvs.length = ks.length := Paired.length pr
  refine Calls.call_function_entry PyProof.Rows.kind_sorted PyProof.Rows.plain_sorted PyProof.Rows.entry_sorted (PyProof.Rows.args_sorted1 _) ?_
  unfold Builtin.«sorted»
  refine wpAny_bind (m := checkCount "sorted" 1 1 _) (wpAny_pure ?_)
  have h16 : es.size ≤ sizeLine := by rw [l1, ← l2, sizeLine_eq]; omega
  refine wpAny_bind (PySem.W.kdu_collect (A := X.A.in1) (kdl_raw hs hx hdt) (I.ok.hd hcalm) ho h16 fun h' tk acc hk it => ?_)
  have ea : acc.toList = ks.map fun x => Value.ref x.2.1 := by
    have hl : acc.toList.length = ks.length := by rw [Array.length_toList, it.1]; exact l1
    apply List.ext_getElem?
    intro j
    rw [List.getElem?_map]
    cases hj : acc.toList[j]? with
    | none =>
      have h1 := List.getElem?_eq_none_iff.mp hj
      rw [List.getElem?_eq_none (by omega)]
      all_goals rfl
    | some v =>
      obtain ⟨en, hen, hv⟩ := it.2 j v (by rw [← Array.getElem?_toList]; exact hj)
      have qe := entry_at he j
      rw [hen] at qe
      cases hb : ks[j]? with
      | none =>
        rw [hb] at qe
        exact nomatch (show some en = none from qe)
      | some b =>
        rw [hb] at qe
        have e2 : en = entryOfKey (tupleKind (mixKind X.prog X.w)) b := Option.some.inj qe
        rw [hv, e2]
        all_goals rfl
  have eb : acc.toList = (ks.map fun x => x.2.1).map Value.ref := by rw [ea, List.map_map]; all_goals rfl
  have hal : acc.toList.length = ks.length := by rw [ea, List.length_map]
  have I1 : L2.Inv X pins σ H { s with heap := h', toks := tk } := I.kept hk
  refine wpAny_bind (wpAny_newList ?_ (by rw [hal, sizeLine_eq]; omega))
  have hoL : (h'.push (seqObj "list" acc.toList.toArray 0)).get? h'.objs.size = some (seqObj "list" acc.toList.toArray 0) := Heap.get?_push_size _ rfl
  show wpAny _ _ _ _ _ { s with heap := h'.push (seqObj "list" acc.toList.toArray 0), toks := tk }
  have isP : ∀ v ∈ acc.toList, Srt.IsPair (h'.push (seqObj "list" acc.toList.toArray 0)) v (pairAt H (backV v)).1 (pairAt H (backV v)).2 := fun v hv => by
    rw [ea] at hv
    obtain ⟨x, hxm, rfl⟩ := List.mem_map.mp hv
    obtain ⟨p, hpm, hp1, hp2, hp3⟩ : ∃ p, p ∈ kvs ∧ p.1 = x.1 ∧ H x.2.1 = some (.tup (p.1.map kV)) ∧ RelV p.2 x.2.2 := by
      have : ∀ {l : List (List Key × V)} {m : List (List Key × Addr × Value)}, Paired (fun (p : List Key × V) (q : List Key × Addr × Value) => p.1 = q.1 ∧ H q.2.1 = some (.tup (p.1.map kV)) ∧ RelV p.2 q.2.2) l m → x ∈ m → ∃ p, p ∈ l ∧ p.1 = x.1 ∧ H x.2.1 = some (.tup (p.1.map kV)) ∧ RelV p.2 x.2.2 := fun {l m} pr hm => by
        induction pr with
        | nil => cases hm
        | cons h t ih =>
          rcases List.mem_cons.mp hm with e | hm
          · subst e
            exact ⟨_, List.mem_cons_self, h⟩
          · obtain ⟨p, a, b⟩ := ih hm
            exact ⟨p, List.mem_cons_of_mem _ a, b⟩
      exact this pr hxm
    obtain ⟨i, j, ep⟩ := hp p hpm
    rw [ep] at hp2
    have hpa : pairAt H (backV (Value.ref x.2.1)) = (i, j) := by
      show (match H x.2.1 with
        | some (.tup [.int i, .int j]) => (i, j)
        | _ => (0, 0)) = _
      rw [hp2]; rfl
    rw [hpa]
    obtain ⟨_, its2, r2, ob, hob, hc, n, hdd⟩ := I1.hok _ _ hp2
    obtain ⟨u1, u2, rfl, ri, rj⟩ := vals2 r2
    obtain ⟨t1, rfl⟩ := ri
    obtain ⟨t2, rfl⟩ := rj
    exact ⟨x.2.1, ob, t1, t2, n, rfl, Heap.get?_push_of_some _ hob, hc, hdd⟩
  have refs : ∀ u ∈ acc.toList, ∃ a, u = Value.ref a := fun u hu => by
    rw [ea] at hu
    obtain ⟨x, _, rfl⟩ := List.mem_map.mp hu
    exact ⟨_, rfl⟩
  refine wpAny_bind (wpAny_holding (wpAny_call_entry PyProof.Rows.slot_list_sort ⟨_, hoL, rfl⟩ PyProof.Rows.entry_list_sort
    (SrtO.list_sort_ord (s := { s with heap := h'.push (seqObj "list" acc.toList.toArray 0), toks := tk }) (SrtO.swo_lex fun u => pairAt H (backV u)) hoL (by rw [hal, sizeLine_eq]; omega) (fun h2 => SrtO.pairs_sortableO (by omega) isP fun o e => ?_) fun out g1 g2 => ⟨_, rfl, ?_⟩) (PyProof.Rows.args_list_sort _)))
  · have e' : some o = some (seqObj "list" acc.toList.toArray 0) := e.symm.trans hoL
    cases e'
    intro c
    exact absurd (Value.type.inj c) (by decide)
  · obtain ⟨e', he'⟩ := PyProof.Rows.sortedHeap_at (vs := acc.toList) (out := out.toArray) hoL
    have h3 : ∀ u ∈ out, ∃ a, u = Value.ref a := fun u hu => refs u (g2.perm.mem_iff.mp hu)
    have hp2 : (out.map backV).Perm ((ks.map fun x => x.2.1).map V.ref) := by
      have e2 : (ks.map fun x => x.2.1).map V.ref = acc.toList.map backV := by
        rw [eb, List.map_map, List.map_map, List.map_map]
        rfl
      rw [e2]
      exact g2.perm.map _
    have hlen : (out.map backV).length ≤ sizeLine := by
      rw [hp2.length_eq, List.length_map, List.length_map, sizeLine_eq]
      omega
    refine wpAny_pure ⟨_, rfl, .ref h'.objs.size, upd H h'.objs.size (.lst (out.map backV)), I1.laid (t' := tk) (fun b u e => ?_) (Nat.le_refl _)
      (show ObjOk X.prog X.w _ _ _ (.lst (out.map backV)) from ⟨hlen, out, e', vals_back h3, he'⟩), rfl, q _ _ _ (isKeys_of pr) (SrtO.srtd_map g1) hp2 (I1.hok.fresh (Nat.le_refl _))⟩
    have hb : b < h'.objs.size := Heap.lt_size e
    rw [PyProof.Rows.sortedHeap_old (Nat.ne_of_lt hb) (by rw [size_push']; exact Nat.lt_succ_of_lt hb)]
    exact Heap.get?_push_of_some _ e
theorem intPairs_keys : ∀ {kvs : List (List Key × D)} {ks : List (Int × Int)}, intPairs kvs = some ks → kvs.map (·.1) = ks.map fun p => [Sum.inl p.1, Sum.inl p.2]
  | [], ks, h => by simp only [intPairs] at h; cases h; rfl
  | kv :: r, ks, h => by
    simp only [intPairs] at h
    cases q1 : intPair kv.1 with
    | none => rw [q1] at h; cases h
    | some p =>
      cases q2 : intPairs r with
      | none => rw [q1, q2] at h; cases h
      | some ps =>
        rw [q1, q2] at h
        cases h
        rw [List.map_cons, List.map_cons, intPairs_keys q2]
        congr 1
        unfold intPair at q1
        split at q1
        · rename_i i j e
          cases q1
          exact e
        · cases q1
/-- many tuples become firm -/
theorem firm_all {K : PySem.W.Frag} {pm : Option Addr} {g : G} {H : Hp} : ∀ (bs : List Addr) {Hf : Hp}, Ex Hf H → MAt K pm g Hf H → (∀ b ∈ bs, ∃ xs, H b = some (.tup xs)) → ∃ Hf', Stp pm Hf H Hf' H ∧ MAt K pm g Hf' H ∧ ∀ b ∈ bs, Hf' b = H b
  | [], Hf, e, m, _ => ⟨Hf, Stp.refl e, m, fun b hb => absurd hb (by simp)⟩
  | b :: bs, Hf, e, m, h => by
    obtain ⟨xs, hb⟩ := h b List.mem_cons_self
    have s1 := Stp.firmT e hb (m.notTup hb)
    obtain ⟨Hf', s2, m2, k⟩ := firm_all bs s1.fh (m.firmT e hb) fun c hc => h c (List.mem_cons_of_mem _ hc)
    refine ⟨Hf', s1.trans s2, m2, fun c hc => ?_⟩
    rcases List.mem_cons.mp hc with z | hc
    · subst z
      rw [hb]
      exact s2.ff _ _ upd_same
    · exact k c hc
theorem paired_mem {α β : Type} {F : α → β → Prop} : ∀ {xs : List α} {ys : List β}, Paired F xs ys → ∀ y ∈ ys, ∃ x ∈ xs, F x y
  | _, _, .nil, _, h => absurd h (by simp)
  | _, _, .cons r t, y, h => by
    rcases List.mem_cons.mp h with e | h
    · subst e; exact ⟨_, List.mem_cons_self, r⟩
    · obtain ⟨x, a, b⟩ := paired_mem t y h
      exact ⟨x, List.mem_cons_of_mem _ a, b⟩
theorem isKeys_pairs {H : Hp} : ∀ {kws : List (List Key × V)} {bs : List Addr} {ks : List (Int × Int)}, IsKeys H kws bs → kws.map (·.1) = ks.map (fun p => [Sum.inl p.1, Sum.inl p.2]) → (bs.map V.ref).map (pairAt H) = ks
  | [], _, ks, .nil, e => by
    cases ks with
    | nil => rfl
    | cons _ _ => cases e
  | kw :: kws, b :: bs, ks, .cons r t, e => by
    cases ks with
    | nil => cases e
    | cons p ks =>
      rw [List.map_cons, List.map_cons] at e
      injection e with e1 e2
      rw [List.map_cons, List.map_cons, isKeys_pairs t e2]
      congr 1
      have r : H b = some (.tup (kw.1.map kV)) := r
      rw [e1] at r
      show (match H b with
        | some (.tup [.int i, .int j]) => (i, j)
        | _ => (0, 0)) = p
      rw [r]; rfl
theorem m_dsort (i : Nat) {x : Str} {yp xp : Pos} (hc : X.calm = true) (hv : PE X (.Name x xp) (tVar i)) (hg : Gl X "sorted") (hm : X.mg "sorted" = none) (hs1 : starEach [.Name x xp] X.env = (false, eval (.Name x xp) X.env) :: starEach [] X.env := by rfl) :
    PE X (.Call (.Name "sorted" yp) [.Name x xp] [] pos) (rdE X.K S (.dsort i)) :=
  PE.weak (pe_callB (call_sortedDT hc) hg hm (by decide +kernel) (pa_cons hv pa_nil hs1) (by decide +kernel) (by decide +kernel) hs1 rfl) fun σ H Q h => by
    obtain ⟨pm, ρ, g, Hf, rel, h⟩ := h
    simp only [evE] at h
    split at h
    · rename_i kvs hρ
      obtain ⟨p, kws, hσ, n1, n2, hp, hk, ha⟩ := ownD_at rel hρ
      split at h
      · rename_i hz
        cases q : intPairs kvs with
        | none => rw [q] at h; exact h.elim
        | some ks =>
          rw [q] at h
          have ek := intPairs_keys q
          rw [← hk] at ek
          have lk : kws.length = kvs.length := by
            have := congrArg List.length hk
            simpa using this
          refine ⟨_, hσ, p, kws, rfl, hp, by omega, fun kw hkw => ?_, fun bs ys l hK hs hpm hl => ?_⟩
          · have hm1 : kw.1 ∈ kws.map (·.1) := List.mem_map_of_mem hkw
            rw [ek] at hm1
            obtain ⟨pp, _, e⟩ := List.mem_map.mp hm1
            exact ⟨pp.1, pp.2, e.symm⟩
          · have tups : ∀ b ∈ bs, ∃ pp : Int × Int, H b = some (.tup [.int pp.1, .int pp.2]) := fun b hb => by
              obtain ⟨kw, hkw, e⟩ := paired_mem hK b hb
              have hm1 : kw.1 ∈ kws.map (·.1) := List.mem_map_of_mem hkw
              rw [ek] at hm1
              obtain ⟨pp, _, e2⟩ := List.mem_map.mp hm1
              refine ⟨pp, ?_⟩
              have e : H b = some (.tup (kw.1.map kV)) := e
              rw [← e2] at e
              exact e
            obtain ⟨Hf', st, mt, kk⟩ := firm_all bs rel.ex rel.mat fun b hb => by
              obtain ⟨pp, e⟩ := tups b hb
              exact ⟨_, e⟩
            have hyb : ∀ y ∈ ys, ∃ b, y = V.ref b ∧ b ∈ bs := fun y hy => by
              obtain ⟨b, hb, e⟩ := List.mem_map.mp (hpm.mem_iff.mp hy)
              exact ⟨b, e.symm, hb⟩
            have eks : ys.map (pairAt H) = ks.mergeSort lePair := by
              refine sorted_uniq (List.pairwise_map.mpr (List.Pairwise.imp (fun {a b} z => lexB_le z) hs)) (List.pairwise_mergeSort (le := lePair) (fun a b c h1 h2 => le_trans h1 h2) le_total ks) ?_
              have := hpm.map (pairAt H)
              rw [isKeys_pairs hK ek] at this
              exact this.trans (List.mergeSort_perm ks lePair).symm
            have atl : ∀ zs : List V, (∀ y ∈ zs, ∃ b, y = V.ref b ∧ b ∈ bs) → AtL X.K pm Hf' zs ((zs.map (pairAt H)).map fun p => PyData.tuple [.int p.1, .int p.2]) := fun zs => by
              induction zs with
              | nil => intro _; trivial
              | cons z zs ih =>
                intro hz
                refine ⟨?_, ih fun y hy => hz y (List.mem_cons_of_mem _ hy)⟩
                obtain ⟨b, rfl, hb⟩ := hz _ List.mem_cons_self
                obtain ⟨pp, e⟩ := tups b hb
                have ep : pairAt H (V.ref b) = pp := by
                  show (match H b with
                    | some (.tup [.int i, .int j]) => (i, j)
                    | _ => (0, 0)) = pp
                  rw [e]
                rw [ep]
                exact ⟨b, [.int pp.1, .int pp.2], rfl, by rw [kk b hb]; exact e, rfl, rfl, trivial⟩
            have a := atl ys hyb
            rw [eks] at a
            exact h _ _ (st.trans (Stp.new st.fh hl)) (mt.new hl st.fh) _ ⟨l, ys, rfl, upd_same, AtL.mono (Ex.new (fresh_back st.fh hl)) _ _ a⟩
      · exact h.elim
    · exact h.elim
end
end Mini

set_option maxRecDepth 100000
set_option maxHeartbeats 4000000
namespace Mini
open PySem L2 Evl PySem.Spec PyProof.Rows
section
variable {X : Cx} {S : Sg} {pos : Pos}
/-- told, size = ({}, n), told a captured name -/
theorem s_newDTc (i j : Nat) {n : Int} {jn : Nat} {tg : Expr} {ip dp : Pos} {k2 : Nat} {pt2 : Pos} (hg : PG X tg (gD X.K (.tp [i, j]))) (hij : i ≠ j := by decide)
    (hs : swapsWithSole [tg] (.Tuple [.Dict [] [] dp, .Constant (.int n) jn ip] k2 pt2) pos.line X.env = pure false := by rfl) (hw : swappedStores [tg] (.Tuple [.Dict [] [] dp, .Constant (.int n) jn ip] k2 pt2) X.env = pure none := by rfl)
    (h1 : (assignEach [tg] X.env).map (·.2) = [assign tg X.env] := by rfl) (he : starEach [.Dict [] [] dp, .Constant (.int n) jn ip] X.env = (false, eval (.Dict [] [] dp) X.env) :: starEach [.Constant (.int n) jn ip] X.env := by rfl) (he2 : starEach [.Constant (.int n) jn ip] X.env = (false, eval (.Constant (.int n) jn ip) X.env) :: starEach [] X.env := by rfl) :
    PS X (.Assign [tg] (.Tuple [.Dict [] [] dp, .Constant (.int n) jn ip] k2 pt2) pos) (rdS X.K S (.newDT i j (.cst (.int n)))) :=
  PS.weak (ps_asg (pe_tup (pa_cons pe_dnewT (pa_cons pe_int pa_nil he2) he)) hg hs hw h1) fun D σ H h => by
    obtain ⟨pm, Hf0, H0, ρ, g, Hf, rel, st, h⟩ := h
    simp only [exS, evE, R.bind_ok, if_pos hij] at h
    intro p hp
    refine ⟨by show 2 ≤ sizeLine; rw [sizeLine_eq]; decide, fun T hT => ?_⟩
    have f0 := st.free0 hp
    have fl := fresh_back rel.rel.ex hp
    have st1 : Stp pm Hf0 H0 Hf (upd H p (.dT [])) := st.mut f0 fl
    have r1 := rel.own (i := i) (o := .dT []) (e0 := .ownD []) f0 hp ⟨p, [], rfl, rel.rel.mat.ne hp, fl, upd_same, rfl, trivial⟩
    have st2 : Stp pm Hf0 H0 Hf (upd (upd H p (.dT [])) T (.tup [.ref p, .int n])) := st1.trans (Stp.own st1.fh hT)
    have r2 : RelA X.K pm H0 (σ.set i (some (.ref p))) (ρ.set i (some (.ownD []))) g Hf (upd (upd H p (.dT [])) T (.tup [.ref p, .int n])) := ⟨r1.rel.step (Stp.own st1.fh hT) (r1.rel.mat.own hT), r1.fresh⟩
    have hh : PostS X.K S pm Hf0 H0 ((R.of (setT (.nm j) (.int n) (ρ.set i (some (.ownD [])))) g).bind fun ρ1 g1 => R.ok (Fl.nx, ρ1) g1) (EndF X.K pm H0 Hf D) := h
    have z := setS (De := D) (v := .int n) (Q2 := D.nx) r2 st2 (show At X.K pm Hf (.int n) (.int n) from rfl) hh fun ρ1 σ1 r3 h2 => h2 Hf _ st2 r3.rel.mat (Ex.refl _) σ1 r3
    exact ⟨T, [.ref p, .int n], rfl, st_of upd_same, rfl, ⟨_, _, rfl, _, _, rfl, rfl, z⟩⟩
end
end Mini

set_option maxRecDepth 100000
set_option maxHeartbeats 4000000
/-! A law's end where the law's def keeps its promise at the caller's own surroundings (no repr under way there). Turned from HandS.EndTab. -/
namespace Mini
open PySem PySem.Spec PyProof.Rows L2 LamX
/-- a def called from the caller of laws -/
structure RunC (P : Program) (w : World) (K : PySem.W.Frag) (mg : Str → Option Value) (base : Heap) (CX : CXT) (f : Addr) (fd : FuncData) (ps : List Str) (sp : Sp) : Prop where
  run : ∀ (outer : List Env) (s : Shared) (H : Hp) (args : Args) (us : List Value) (vs : List V) (Q : VK) (E : XK), Env0 P w K mg base callerA outer s H → BindsTo s fd args (ps.zip us) → Vals vs us → sp vs H Q E →
    codeAny (model P w) callerA (.call (.ref f) args) (CR CX outer P w H s Q E) s
theorem law_callC {P : Program} {w : World} {K : PySem.W.Frag} {mg mb : Str → Option Value} {CX : CXT} {fa a : Addr} {cs : List (Addr × Addr)} {fd : FuncData} {x : Str} {sp : Sp} {s₁ : Shared} {vs : List Value} {ns : List Int}
    (KX : K.In s₁.heap) (hns : s₁.heap.Ns mainGlobals mg) (hb : s₁.heap.Ns builtinsNs mb) (hbb : ∀ x : Str, x ≠ "__name__" → mb x = bootBuiltins x) (hlim : s₁.heap.NoLimit) (hg : s₁.gens = #[])
    (hT : ∀ p ∈ cs, s₁.heap.get? p.2 = some { cls := .none, data := .fields #[] }) (nT : ∀ p ∈ cs, K.lookup p.2 = none) (C : ∀ p ∈ cs, PySem.W.CodeHd s₁.heap p.1 p.2)
    (hbm : ∃ (bm : Addr) (ob : Obj), mg "__builtins__" = some (.ref bm) ∧ bm ≠ builtinsNs ∧ s₁.heap.get? bm = some ob ∧ ob.cls = .type "module" ∧ ob.dict = some builtinsNs ∧ ob.data = .plain)
    (ha : s₁.heap.get? a = some { cls := .type "list", data := .seq vs.toArray }) (hi : IntsAre vs ns) (hl : ns.length ≤ sizeLine)
    (F : ∀ base : Heap, K.In base → base.Ns mainGlobals mg → (∀ p ∈ cs, TabB base mg p.1 p.2) → RunC P w K mg base CX fa fd [x] sp) (hbind : ∀ (s : Shared) (u : Value), BindsTo s fd ⟨[u], []⟩ [(x, u)])
    (hsp : ∀ H : Hp, (∀ p ∈ cs, H p.2 = some (.tbl #[])) → SqL K H a (ns.map V.int) → sp [.ref a] H (fun v _ => v = .bl true) fun _ _ _ => False)
    (hCX : ∀ H e s', CX [] H s₁ (fun _ _ _ => False) e s' → False) :
    codeAny (model P w) callerA (.call (.ref fa) ⟨[.ref a], []⟩) (fun r s' => r = .ok (.ret (.bool true)) ∧ OldK s₁.heap s'.heap ∧ s'.os = s₁.os ∧ AllBare s'.gens) s₁ := by
  have rv := vals_ints hi
  have lenV := hi.length
  have isT : ∀ b : Addr, b ∈ cs.map (·.2) → s₁.heap.get? b = some { cls := .none, data := .fields #[] } := fun b hb => by
    obtain ⟨p, hp, e⟩ := List.mem_map.mp hb
    rw [← e]
    exact hT p hp
  have aT : a ∉ cs.map (·.2) := fun z => by
    have q := isT a z
    rw [ha] at q
    have z' : Data.seq vs.toArray _ = Data.fields #[] := congrArg Obj.data (Option.some.inj q)
    cases z'
  have memT : ∀ p ∈ cs, p.2 ∈ cs.map (·.2) := fun p hp => List.mem_map.mpr ⟨p, hp, rfl⟩
  -- from an abstract heap in which nothing but the script and the tables may be tracked
  have core : ∀ H : Hp, (∀ p ∈ cs, H p.2 = some (.tbl #[])) → (∀ b, H b = none ∨ b ∈ cs.map (·.2) ∨ ∃ o xs, H b = some (.frz o (.lst xs))) → SqL K H a (ns.map V.int) → HOk P w H s₁.heap → (∀ b, H b ≠ none → b = a ∨ b ∈ cs.map (·.2)) → (H a ≠ none → K.lookup a = none) →
      codeAny (model P w) callerA (.call (.ref fa) ⟨[.ref a], []⟩) (fun r s' => r = .ok (.ret (.bool true)) ∧ OldK s₁.heap s'.heap ∧ s'.os = s₁.os ∧ AllBare s'.gens) s₁ := by
    intro H hH hO hS hok hA hK
    have base_of : ∀ {b : Addr} {o : Obj}, s₁.heap.get? b = some o → H b = none → (hidT s₁.heap H).get? b = some o := fun e n => hidT_get e n
    have noD : ∀ {b : Addr} {o : Obj}, s₁.heap.get? b = some o → (∀ vs n, o.data ≠ .seq vs n) → o.data ≠ .fields #[] → H b = none := fun {b o} e h1 h2 => by
      cases q : H b with
      | none => rfl
      | some u =>
        rcases hA b (by rw [q]; simp) with e' | e'
        · rw [e', ha] at e
          cases e
          exact (h1 _ _ rfl).elim
        · rw [isT b e'] at e
          cases e
          exact (h2 rfl).elim
    have noA : ∀ {b : Addr} {o : Obj} {es : Array DictEntry} {ep : Nat}, s₁.heap.get? b = some o → o.data = .dict es ep → H b = none := fun {b o es ep} e d => by
      refine noD e (fun vs n z => ?_) fun z => ?_
      · rw [d] at z
        cases z
      · rw [d] at z
        cases z
    have nsK : ∀ {b : Addr} {m : Str → Option Value}, s₁.heap.Ns b m → (hidT s₁.heap H).Ns b m := fun {b m} ⟨o, es, ep, e, d, r⟩ => ⟨o, es, ep, base_of e (noA e d), d, r⟩
    have hKb : K.In (hidT s₁.heap H) := fun b o e => base_of (KX b o e) (by
      cases q : H b with
      | none => rfl
      | some u =>
        rcases hA b (by rw [q]; simp) with e' | e'
        · rw [e'] at e q
          rw [hK (by rw [q]; simp)] at e
          cases e
        · obtain ⟨p, hp, ep⟩ := List.mem_map.mp e'
          rw [← ep, nT p hp] at e
          cases e)
    have hM : L2.Mod K mg (hidT s₁.heap H) := ⟨hKb, nsK hns, ⟨mb, nsK hb, hbb⟩, let ⟨mc, h1, h2⟩ := hlim; ⟨mc, nsK h1, h2⟩⟩
    have TB : ∀ p ∈ cs, TabB (hidT s₁.heap H) mg p.1 p.2 := fun p hp => by
      have hTp := hT p hp
      refine ⟨?_, ?_, fun z => ?_⟩
      · obtain ⟨o, us, file, tf, flags, tg, inF, text, tt, e1, r1, r2, r3, r4, r5, r6, r7, r8, hne⟩ := C p hp
        refine ⟨o, us, file, tf, flags, tg, inF, text, tt, base_of e1 (noD e1 (fun vs n z => ?_) fun z => ?_), r1, r2, r3, r4, r5, r6, r7, r8, hne⟩
        · rw [r2] at z
          cases z
        · rw [r2] at z
          cases z
          simp at r3
      · obtain ⟨bm, ob, b1, b2, b3, b4, b5, b6⟩ := hbm
        have nG : bm ≠ mainGlobals := fun q => by
          obtain ⟨o, es, ep, e, hd, _⟩ := hns
          rw [q, e] at b3
          cases b3
          rw [hd] at b6
          cases b6
        have nP : bm ≠ p.2 := fun q => by
          rw [q, hTp] at b3
          cases b3
          cases b6
        refine ⟨bm, ob, b1, b2, nG, nP, base_of b3 (noD b3 (fun vs n z => ?_) fun z => ?_), b4, b5, b6⟩
        · rw [b6] at z
          cases z
        · rw [b6] at z
          cases z
      · obtain ⟨o, es, ep, e, hd, _⟩ := hns
        rw [z, hTp] at e
        cases e
        cases hd
    have e0 : Env0 P w K mg (hidT s₁.heap H) callerA [] s₁ H := ⟨rfl, hM, fun b o e => of_hidT e, Nat.le_of_eq (hidT_size _ _), trivial, fun b hb => absurd (show b ∈ ([] : List Addr) from hb) (by simp), hok, .of_eq hg⟩
    refine codeAny_mono ((F _ hKb (nsK hns) TB).run [] s₁ H ⟨[.ref a], []⟩ [.ref a] [.ref a] _ _ e0 (hbind s₁ (.ref a)) (.cons rfl .nil) (hsp H hH hS)) fun r s' h => ?_
    cases r with
    | error e => exact (hCX H e s' h).elim
    | ok fl =>
      cases fl with
      | next => exact False.elim h
      | brk => exact False.elim h
      | cont => exact False.elim h
      | ret u =>
        obtain ⟨v, H', os, bare, un, hok', r', q⟩ := h
        have q' : v = .bl true := q
        subst q'
        obtain rfl : u = Value.bool true := r'
        have key : ∀ b o, b ∉ cs.map (·.2) → s₁.heap.get? b = some o → s'.heap.get? b = some o := fun b o nb e => by
          cases q : H b with
          | none => exact un.keep b o e q (by intro z; exact absurd (show b ∈ ([] : List Addr) from z) (by simp)) (by simp)
          | some u =>
            rcases hO b with z | z | ⟨ob, xs, z⟩
            · rw [q] at z; cases z
            · exact absurd z nb
            · have z2 := un.frzs b ob _ z
              obtain ⟨e1, _⟩ := hok b _ z
              obtain ⟨e2, _⟩ := hok' b _ z2
              rw [e] at e1; cases e1
              exact e2
        have grown : ∀ p ∈ cs, ∃ more : Array Value, s'.heap.get? p.2 = some { cls := .none, data := .fields more } := fun p hp => by
          obtain ⟨more, z⟩ := un.tbls p.2 #[] (hH p hp)
          exact ⟨_, hok' p.2 _ z⟩
        refine ⟨rfl, ⟨fun b o e => ?_, fun b o e => ?_⟩, os, bare⟩
        · by_cases hb : b ∈ cs.map (·.2)
          · obtain ⟨p, hp, ep⟩ := List.mem_map.mp hb
            obtain ⟨more, hm⟩ := grown p hp
            rw [← ep] at e ⊢
            rw [hT p hp] at e
            cases e
            exact .inr (.inl ⟨((C p hp).tab (hT p hp)).isCodeTable, rfl, #[], more, rfl, by rw [Array.empty_append]; exact hm⟩)
          · exact .inl (key b o hb e)
        · by_cases hb : b ∈ cs.map (·.2)
          · obtain ⟨p, hp, ep⟩ := List.mem_map.mp hb
            obtain ⟨more, hm⟩ := grown p hp
            rw [← ep]
            exact ⟨_, hm⟩
          · exact ⟨o, key b o hb e⟩
  cases hk : K.lookup a with
  | some o =>
    have e := KX a o hk
    rw [ha] at e
    cases e
    refine core (fun b => if b ∈ cs.map (·.2) then some (.tbl #[]) else none) (fun p hp => if_pos (memT p hp)) (fun b => ?_) (.inr ⟨_, vs.toArray, _, hk, rfl, rfl, rfl, by rw [List.size_toArray, lenV]; exact hl, by simpa using rv⟩) (fun b u z => ?_) (fun b z => ?_) fun z => absurd (show (if a ∈ cs.map (·.2) then some (HO.tbl #[]) else none) = none from if_neg aT) z
    · by_cases hb : b ∈ cs.map (·.2)
      · exact .inr (.inl hb)
      · exact .inl (if_neg hb)
    · by_cases hb : b ∈ cs.map (·.2)
      · have z' := (if_pos hb).symm.trans z
        cases z'
        exact isT b hb
      · have z' := (if_neg hb).symm.trans z
        cases z'
    · by_cases hb : b ∈ cs.map (·.2)
      · exact .inr hb
      · exact absurd (if_neg hb) z
  | none =>
    refine core (fun b => if b = a then some (.frz { cls := .type "list", data := .seq vs.toArray } (.lst (ns.map V.int))) else if b ∈ cs.map (·.2) then some (.tbl #[]) else none) (fun p hp => (if_neg (show ¬ p.2 = a from fun z => aT (by rw [← z]; exact memT p hp))).trans (if_pos (memT p hp))) (fun b => ?_)
      (.inl (.inr ⟨{ cls := .type "list", data := .seq vs.toArray }, if_pos rfl⟩)) (fun b u z => ?_) (fun b z => ?_) fun _ => hk
    · by_cases hb : b = a
      · exact .inr (.inr ⟨_, _, if_pos hb⟩)
      · by_cases hb2 : b ∈ cs.map (·.2)
        · exact .inr (.inl hb2)
        · exact .inl ((if_neg hb).trans (if_neg hb2))
    · by_cases hb : b = a
      · have z' := (if_pos hb).symm.trans z
        cases z'
        rw [hb]
        exact ⟨ha, by rw [List.length_map]; exact hl, vs, _, rv, ha⟩
      · have z1 := (if_neg hb).symm.trans z
        by_cases hb2 : b ∈ cs.map (·.2)
        · have z' := (if_pos hb2).symm.trans z1
          cases z'
          exact isT b hb2
        · have z' := (if_neg hb2).symm.trans z1
          cases z'
    · by_cases hb : b = a
      · exact .inl hb
      · by_cases hb2 : b ∈ cs.map (·.2)
        · exact .inr hb2
        · exact absurd ((if_neg hb).trans (if_neg hb2)) z
/-- what is known of the law's promise at the head's heap h -/
def LawAtC (l : PySem.W.OpenLaw) (w : World) (K : PySem.W.Frag) (CX : CXT) (n : Nat) (x : Str) (mg : Str → Option Value) (fa : Addr) (h : Heap) : Prop :=
  ∃ (fd : FuncData) (cs : List (Addr × Addr)) (sp : Sp), (∀ p ∈ cs, h.get? p.2 = some { cls := .none, data := .fields #[] }) ∧ (∀ p ∈ cs, K.lookup p.2 = none) ∧ (∀ p ∈ cs, PySem.W.CodeHd h p.1 p.2) ∧ (∀ (s : Shared) (u : Value), BindsTo s fd ⟨[u], []⟩ [(x, u)]) ∧
    (∀ (H : Hp) (a : Addr) (ns : List Int), ns.length ≤ n → (∀ z ∈ ns, Builtin.Int.intBits z ≤ 1048576) → (∀ p ∈ cs, H p.2 = some (.tbl #[])) → SqL K H a (ns.map V.int) → sp [.ref a] H (fun v _ => v = .bl true) fun _ _ _ => False) ∧
    ∀ base : Heap, K.In base → base.Ns mainGlobals mg → (∀ p ∈ cs, TabB base mg p.1 p.2) → RunC l.prog w K mg base CX fa fd [x] sp
theorem walk_ofC {l : PySem.W.OpenLaw} {n : Nat} {q : Program} {loose : List Str} {XP : (Str → Option Value) → Heap → Prop} {YP : World → Heap → Prop} {d : DefRec} {K : Params → PySem.W.Frag} {CX : World → CXT} {x : Str}
    (hn : l.most = some n) (hn2 : n ≤ sizeLine) (hdf : d.params.defaults = []) (hY : ∀ (w : World) (h : Heap), YP w h → (K w.params).In h)
    (F : ∀ (w : World) (s₀ : Shared) (mg mb : Str → Option Value) (fa : Addr) (h : Heap), PySem.W.Ground q loose [] XP w s₀ mg mb h → YP w h → (K w.params).In h → h.Ns mainGlobals mg → mg d.name = some (.ref fa) → LawAtC l w (K w.params) (CX w) n x mg fa h)
    (hCX : ∀ (w : World) (H : Hp) (s : Shared) (e : Value) (s' : Shared), CX w [] H s (fun _ _ _ => False) e s' → False) :
    PySem.W.WalkO q loose XP YP l.row.toRowW d [] (fun f vs => PySem.call f vs) := by
  refine Att.attach_callB hn hdf fun w s₀ s₁ mg mb fa o pm cd doc a vs ns G Y ho hd hcd hmg hobj hints hlen hbits hg => ?_
  have KX := hY w _ Y
  obtain ⟨fd, cs, sp, hT, nT, C, hb, hsp, hF⟩ := F w s₀ mg mb fa _ G Y KX G.T.g hmg
  exact law_callC KX G.T.g G.T.b G.T.builtins G.T.nolimit hg hT nT C G.T.bmain hobj hints (Nat.le_trans hlen hn2) hF hb (fun H hH hS => hsp H a ns hlen hbits hH hS) fun H e s' => hCX w H s₁ e s'
end Mini

set_option maxRecDepth 100000
set_option maxHeartbeats 4000000
namespace Mini
open PySem L2 Evl PySem.Spec PyProof.Rows
mutual
theorem At.pmN {K : PySem.W.Frag} {pm : Option Addr} {H : Hp} : ∀ (d : D) (v : V), At K none H v d → At K pm H v d
  | .none, _, h => h
  | .bool _, _, h => h
  | .int _, _, h => h
  | .str _, _, h => h
  | .tuple ds, _, h => by
    obtain ⟨a, xs, r, h1, h2⟩ := h
    exact ⟨a, xs, r, h1, AtL.pmN ds xs h2⟩
  | .list ds, _, h => by
    obtain ⟨a, xs, r, h1, h2⟩ := h
    exact ⟨a, xs, r, h1, AtL.pmN ds xs h2⟩
  | .dict _, _, h => by
    obtain ⟨_, p, e, _⟩ := h
    cases e
theorem AtL.pmN {K : PySem.W.Frag} {pm : Option Addr} {H : Hp} : ∀ (ds : List D) (vs : List V), AtL K none H vs ds → AtL K pm H vs ds
  | [], [], h => h
  | d :: ds, v :: vs, h => ⟨At.pmN d v h.1, AtL.pmN ds vs h.2⟩
  | [], _ :: _, h => h
  | _ :: _, [], h => h
end
section
variable {X : Cx} {S : Sg} {pos : Pos}
/-- return {'cells': e1, 'left': e2, 'at': e3}: a new state of the draws -/
theorem p_begun {k1 k2 k3 : Str} {j1 j2 j3 : Nat} {p1 p2 p3 dpos : Pos} {e1 e2 e3 : Expr} {m1 m2 m3 : ME} (h1 : PE X e1 (rdE X.K S m1)) (h2 : PE X e2 (rdE X.K S m2)) (h3 : PE X e3 (rdE X.K S m3)) (n12 : k1 ≠ k2) (n13 : k1 ≠ k3) (n23 : k2 ≠ k3) :
    PSs X [.Return (some (.Dict [some (.Constant (.str k1) j1 p1), some (.Constant (.str k2) j2 p2), some (.Constant (.str k3) j3 p3)] [e1, e2, e3] dpos)) pos]
      (fun D σ H => ∃ ρ Hf d1 d2 d3, Rel X.K none σ ρ [] Hf H ∧ evE S.call m1 ρ [] = .ok d1 [] ∧ evE S.call m2 ρ [] = .ok d2 [] ∧ evE S.call m3 ρ [] = .ok d3 [] ∧
        ∀ Hf' H' p, Stp none Hf H Hf' H' → MAt X.K (some p) [(k1, d1), (k2, d2), (k3, d3)] Hf' H' → H p = none → Hf' p = none → Ex Hf' H' → D.rt (.ref p) H') :=
  PSs.weak (pss_cons (ps_ret (pe_disp (pps_cons pe_str h1 (pps_cons pe_str h2 (pps_cons pe_str h3 pps_nil))) rfl rfl (by simp) (by simp))) pss_nil) fun D σ H h => by
    obtain ⟨ρ, Hf, d1, d2, d3, rel, q1, q2, q3, k⟩ := h
    intro p hp
    have fl := fresh_back rel.ex hp
    have s0 : Stp none Hf H Hf (upd H p (.dK [])) := Stp.own rel.ex hp
    have r0 := rel.step s0 (rel.mat.own hp)
    refine ⟨none, ρ, [], Hf, r0, ?_⟩
    rw [q1]
    intro Hf1 H1 s1 m1 v1 a1
    have r1 := r0.step s1 m1
    refine ⟨none, ρ, [], Hf1, r1, ?_⟩
    rw [q2]
    intro Hf2 H2 s2 m2 v2 a2
    have r2 := r1.step s2 m2
    refine ⟨none, ρ, [], Hf2, r2, ?_⟩
    rw [q3]
    intro Hf3 H3 s3 m3 v3 a3
    have s13 := (s1.trans s2).trans s3
    have hp3 : H3 p = some (.dK []) := s13.hh p _ (fun z => nomatch z) (fun _ z => by cases z) upd_same
    have fp : Hf3 p = none := s13.keepN fl upd_same
    refine ⟨hp3, [(Sum.inr k1, v1), (Sum.inr k2, v2), (Sum.inr k3, v3)], rfl, by simp, ?_⟩
    have em : mergeK [] [((Sum.inr k1 : Key), v1), (Sum.inr k2, v2), (Sum.inr k3, v3)] = [(Sum.inr k1, v1), (Sum.inr k2, v2), (Sum.inr k3, v3)] := by
      have e1 : (Sum.inr k1 : Key) ≠ Sum.inr k2 := fun z => n12 (Sum.inr.inj z)
      have e2 : (Sum.inr k1 : Key) ≠ Sum.inr k3 := fun z => n13 (Sum.inr.inj z)
      have e3 : (Sum.inr k2 : Key) ≠ Sum.inr k3 := fun z => n23 (Sum.inr.inj z)
      simp [mergeK, putK, e1, e2, e3, e1.symm, e2.symm, e3.symm]
    rw [em]
    have a1' := At.mono (s2.ff.trans s3.ff) _ _ a1
    have a2' := At.mono s3.ff _ _ a2
    have exf : Ex Hf3 (upd H3 p (.dK [(Sum.inr k1, v1), (Sum.inr k2, v2), (Sum.inr k3, v3)])) := Ex.mut s3.fh fp
    exact k Hf3 _ p ((s0.trans s13).mut hp fp) ⟨⟨fp, _, upd_same, rfl, At.pmN _ _ a1', At.pmN _ _ a2', At.pmN _ _ a3, trivial⟩, m3.tb.mut (nt_of hp3 (nt_dK _)), m3.tf⟩ hp fp exf
end
end Mini

set_option maxRecDepth 100000
set_option maxHeartbeats 4000000
/-! list(zip(xs, ys)): the pairs stay in the list, so the tuple given out first is never free again -/
namespace Mini
open PySem PySem.Spec PyProof.Rows PySem.W
section
variable {prog : Program} {w : World} {A : Around} {E : Value → Shared → Prop} {s : Shared} {z TI TO i1 i2 : Addr} {fp1 fp2 : List Addr} {n i : Nat} {P1 P2 : Nat → Value → Prop} {St1 St2 : Nat → Heap → Prop}
theorem zipDH_next_item {T : Addr} {f : Bool} {oT : Obj} {Q : Value → Shared → Prop} (S : ZipSep2 z TI TO i1 i2 fp1 fp2) (D1 : Draws prog w A i1 fp1 n P1 St1) (D2 : Draws prog w A i2 fp2 n P2 St2)
    (hz : IsZipHeld s.heap z TI TO T f) (hT : s.heap.get? T = some oT) (hTI : IsTupOf2 s.heap TI (.ref i1) (.ref i2)) (st1 : St1 i s.heap) (st2 : St2 i s.heap) (hlt : i < n)
    (hQ : ∀ x1 x2 h' tk, P1 i x1 → P2 i x2 → IsZipHeld h' z TI TO T true → St1 (i + 1) h' → St2 (i + 1) h' → IsTupOf2 h' s.heap.objs.size x1 x2 → h'.objs.size = s.heap.objs.size + 1 →
      (∀ c o, c ≠ z → c ≠ i1 → c ≠ i2 → s.heap.get? c = some o → h'.get? c = some o) → Q (.ref s.heap.objs.size) { s with heap := h', toks := tk }) :
    wpAny (model prog w) A (Builtin.«zip.__next__» ⟨[.ref z], []⟩) (fun fin s' => ∃ v, fin = .done (.ret v) ∧ Q v s') E s := by
  obtain ⟨hp, g, d, tk0, os⟩ := s
  show wpAny _ _ (field (.ref z) 2 >>= _) _ _ _
  refine wpAny_bind (wpAny_field hz rfl (x := .bool false) rfl ?_)
  show wpAny _ _ (field (.ref z) 3 >>= _) _ _ _
  refine wpAny_bind (wpAny_field hz rfl (x := .ref TI) rfl ?_)
  refine wpAny_bind (wpAny_seqItems hTI rfl ?_)
  show wpAny _ _ (Builtin.SmallTypes.ownedTupleIsFree (.ref z) >>= _) _ _ _
  refine wpAny_bind (wpAny_tupleHeld_zip hz hT fun h₁ hz₁ hs₁ => ?_)
  replace hs₁ : Heap.SameBut z hp h₁ := hs₁
  simp only [Bool.false_eq_true, if_false]
  refine wpAny_bind ?_
  rw [← Array.forIn_toList]
  simp only [List.forIn_cons, List.forIn_nil]
  refine wpAny_bind (wpAny_bind (wpAny_holding ?_))
  show wpAny _ _ (Builtin.SmallTypes.nextOf (.ref i1) >>= _) _ _ ⟨h₁, g, d, tk0, os⟩
  refine wpAny_bind (D1.item i _ _ _ hlt (D1.over st1 hs₁ S.zf1) fun x1 p1 tk1 hx1 sn1 hp1 => wpAny_pure ?_)
  replace hp1 : Heap.SameBut i1 h₁ p1 := hp1
  refine wpAny_pure ?_
  refine wpAny_bind (wpAny_bind (wpAny_holding ?_))
  show wpAny _ _ (Builtin.SmallTypes.nextOf (.ref i2) >>= _) _ _ ⟨p1, g, d, tk1, os⟩
  refine wpAny_bind (D2.item i _ _ _ hlt (D2.over (D2.over st2 hs₁ S.zf2) hp1 S.sep1_2) fun x2 p2 tk2 hx2 sn2 hp2 => wpAny_pure ?_)
  replace hp2 : Heap.SameBut i2 p1 p2 := hp2
  refine wpAny_pure (wpAny_pure ?_)
  show wpAny _ _ (newTuple [x1, x2] >>= _) _ _ ⟨p2, g, d, tk2, os⟩
  refine wpAny_bind (wpAny_newTuple ?_)
  have hsz : p2.objs.size = hp.objs.size := by rw [hp2.1, hp1.1, hs₁.1]
  have hz₃ : IsZipHeld p2 z TI TO T true := hp2.extBut _ _ S.zi2 (hp1.extBut _ _ S.zi1 hz₁)
  have hk : ∀ c o, c ≠ z → c ≠ i1 → c ≠ i2 → hp.get? c = some o → p2.get? c = some o := fun c o c1 c2 c3 e => hp2.extBut _ _ c3 (hp1.extBut _ _ c2 (hs₁.extBut _ _ c1 e))
  refine wpAny_pure ⟨_, rfl, ?_⟩
  show Q (.ref p2.objs.size) _
  have hpr : IsTupOf2 (p2.push { cls := .type "tuple", data := .seq #[x1, x2] }) p2.objs.size x1 x2 := Heap.get?_push_size _ rfl
  have hz4 : (p2.push { cls := .type "tuple", data := .seq #[x1, x2] }).objs.size = p2.objs.size + 1 := Heap.size_push ..
  rw [hsz] at hpr hz4 ⊢
  exact hQ x1 x2 _ tk2 hx1 hx2 (Heap.get?_push_of_some _ hz₃) (D1.frame _ _ _ (D1.over sn1 hp2 S.sep2_1) fun b hb o e => Heap.get?_push_of_some _ e) (D2.frame _ _ _ sn2 fun b hb o e => Heap.get?_push_of_some _ e) hpr hz4
    fun c o c1 c2 c3 e => Heap.get?_push_of_some _ (hk c o c1 c2 c3 e)
theorem zipDH_next_end {T : Addr} {f : Bool} {oT : Obj} {Q : Fin → Shared → Prop} (S : ZipSep2 z TI TO i1 i2 fp1 fp2) (D1 : Draws prog w A i1 fp1 n P1 St1)
    (hz : IsZipHeld s.heap z TI TO T f) (hT : s.heap.get? T = some oT) (hTI : IsTupOf2 s.heap TI (.ref i1) (.ref i2)) (st1 : St1 n s.heap)
    (hE : ∀ h' e, (∀ c o, c ≠ z → c ≠ i1 → c ≠ i2 → s.heap.get? c = some o → h'.get? c = some o) → (∃ o, h'.get? e = some o ∧ o.cls = .type "StopIteration") → E (.ref e) { s with heap := h' }) :
    wpAny (model prog w) A (Builtin.«zip.__next__» ⟨[.ref z], []⟩) Q E s := by
  obtain ⟨hp, g, d, tk0, os⟩ := s
  show wpAny _ _ (field (.ref z) 2 >>= _) _ _ _
  refine wpAny_bind (wpAny_field hz rfl (x := .bool false) rfl ?_)
  show wpAny _ _ (field (.ref z) 3 >>= _) _ _ _
  refine wpAny_bind (wpAny_field hz rfl (x := .ref TI) rfl ?_)
  refine wpAny_bind (wpAny_seqItems hTI rfl ?_)
  show wpAny _ _ (Builtin.SmallTypes.ownedTupleIsFree (.ref z) >>= _) _ _ _
  refine wpAny_bind (wpAny_tupleHeld_zip hz hT fun h₁ hz₁ hs₁ => ?_)
  replace hs₁ : Heap.SameBut z hp h₁ := hs₁
  simp only [Bool.false_eq_true, if_false]
  refine wpAny_bind ?_
  rw [← Array.forIn_toList]
  simp only [List.forIn_cons, List.forIn_nil]
  refine wpAny_bind (wpAny_bind (wpAny_holding ?_))
  show wpAny _ _ (Builtin.SmallTypes.nextOf (.ref i1) >>= _) _ _ ⟨h₁, g, d, tk0, os⟩
  refine wpAny_bind (D1.done ⟨h₁, g, d, tk0, os⟩ _ _ (D1.over st1 hs₁ S.zf1) fun q e hq he => ?_)
  exact hE q e (fun c o c1 c2 c3 x => hq _ _ c2 (hs₁.extBut _ _ c1 x)) he
theorem pyNext_zipDH_item {T : Addr} {f : Bool} {oT : Obj} {Q : Option Value → Shared → Prop} (S : ZipSep2 z TI TO i1 i2 fp1 fp2) (D1 : Draws prog w A.in1 i1 fp1 n P1 St1) (D2 : Draws prog w A.in1 i2 fp2 n P2 St2)
    (hz : IsZipHeld s.heap z TI TO T f) (hT : s.heap.get? T = some oT) (hTI : IsTupOf2 s.heap TI (.ref i1) (.ref i2)) (st1 : St1 i s.heap) (st2 : St2 i s.heap) (hlt : i < n)
    (hQ : ∀ x1 x2 h' tk, P1 i x1 → P2 i x2 → IsZipHeld h' z TI TO T true → St1 (i + 1) h' → St2 (i + 1) h' → IsTupOf2 h' s.heap.objs.size x1 x2 → h'.objs.size = s.heap.objs.size + 1 →
      (∀ c o, c ≠ z → c ≠ i1 → c ≠ i2 → s.heap.get? c = some o → h'.get? c = some o) → Q (some (.ref s.heap.objs.size)) { s with heap := h', toks := tk }) :
    wpAny (model prog w) A (pyNext (.ref z)) Q E s := by
  have hTy : s.TypeIs (.ref z) "zip" := ⟨_, hz, rfl⟩
  unfold pyNext
  exact wpAny_bind (wpAny_attempt (wpAny_callSpecial?_slot (name := Str.ofString "__next__") hTy F.slot_zip_next
    (wpAny_call_entry F.slot_zip_next hTy F.entry_zip_next
      (zipDH_next_item S D1 D2 hz hT hTI st1 st2 hlt fun x1 x2 h' tk y1 y2 a1 a3 a4 a5 a6 a7 => wpAny_pure (hQ x1 x2 h' tk y1 y2 a1 a3 a4 a5 a6 a7)) (F.args_zip_next_1 _))))
theorem pyNext_zipDH_end {T : Addr} {f : Bool} {oT : Obj} {Q : Option Value → Shared → Prop} (S : ZipSep2 z TI TO i1 i2 fp1 fp2) (D1 : Draws prog w A.in1 i1 fp1 n P1 St1)
    (hz : IsZipHeld s.heap z TI TO T f) (hT : s.heap.get? T = some oT) (hTI : IsTupOf2 s.heap TI (.ref i1) (.ref i2)) (st1 : St1 n s.heap)
    (hQ : ∀ h', (∀ c o, c ≠ z → c ≠ i1 → c ≠ i2 → s.heap.get? c = some o → h'.get? c = some o) → Q none { s with heap := h' }) : wpAny (model prog w) A (pyNext (.ref z)) Q E s := by
  have hTy : s.TypeIs (.ref z) "zip" := ⟨_, hz, rfl⟩
  unfold pyNext
  refine wpAny_bind (wpAny_attempt (wpAny_callSpecial?_slot (name := Str.ofString "__next__") hTy F.slot_zip_next
    (wpAny_call_entry F.slot_zip_next hTy F.entry_zip_next (zipDH_next_end S D1 hz hT hTI st1 fun h' e hk he => ?_) (F.args_zip_next_1 _))))
  obtain ⟨o, ho, hc⟩ := he
  refine wpAny_bind (wpAny_isInstance (T := "StopIteration") (b := true) ⟨o, ho, hc⟩ isSubtype_stop ?_)
  exact wpAny_pure (hQ _ hk)

/-- how the zip stands after i turns, whose pairs are all kept -/
structure ZAt (S z TI TO i1 i2 : Addr) (P1 P2 : Nat → Value → Prop) (St1 St2 : Nat → Heap → Prop) (i : Nat) (acc : Array Value) (h : Heap) : Prop where
  tI : IsTupOf2 h TI (.ref i1) (.ref i2)
  tO : ∃ o, h.get? TO = some o
  s1 : St1 i h
  s2 : St2 i h
  zs : (i = 0 ∧ IsZip h z TI TO .none ∧ IsTupOf2 h TO .none .none) ∨ ∃ T f, acc[0]? = some (.ref T) ∧ IsZipHeld h z TI TO T f
  sz : acc.size = i
  nd : acc.toList.Nodup
  it : ∀ j v, acc[j]? = some v → ∃ T x y, v = .ref T ∧ T ≠ z ∧ T ≠ TI ∧ T ≠ TO ∧ T ≠ i1 ∧ T ≠ i2 ∧ S < T ∧ P1 j x ∧ P2 j y ∧ IsTupOf2 h T x y
theorem ZAt.typed {S : Addr} {acc : Array Value} (Z : ZAt S z TI TO i1 i2 P1 P2 St1 St2 i acc s.heap) : s.TypeIs (.ref z) "zip" := by
  rcases Z.zs with ⟨_, h, _⟩ | ⟨T, f, _, h⟩
  · exact ⟨_, h, rfl⟩
  · exact ⟨_, h, rfl⟩
theorem ZAt.keep {S : Addr} {acc : Array Value} {h h' : Heap} (Z : ZAt S z TI TO i1 i2 P1 P2 St1 St2 i acc h) (f1 : ∀ j h h', St1 j h → (∀ b ∈ fp1, ∀ o, h.get? b = some o → h'.get? b = some o) → St1 j h') (f2 : ∀ j h h', St2 j h → (∀ b ∈ fp2, ∀ o, h.get? b = some o → h'.get? b = some o) → St2 j h')
    (hS1 : S ∉ fp1) (hS2 : S ∉ fp2) (hSz : S ≠ z) (hSI : S ≠ TI) (hSO : S ≠ TO) (hk : ∀ b o, b ≠ S → h.get? b = some o → h'.get? b = some o) : ZAt S z TI TO i1 i2 P1 P2 St1 St2 i acc h' where
  tI := hk _ _ hSI.symm Z.tI
  tO := let ⟨o, e⟩ := Z.tO; ⟨o, hk _ _ hSO.symm e⟩
  s1 := f1 _ _ _ Z.s1 fun b hb o e => hk b o (fun q => hS1 (q ▸ hb)) e
  s2 := f2 _ _ _ Z.s2 fun b hb o e => hk b o (fun q => hS2 (q ▸ hb)) e
  zs := by
    rcases Z.zs with ⟨a, b, c⟩ | ⟨T, f, a, b⟩
    · exact .inl ⟨a, hk _ _ hSz.symm b, hk _ _ hSO.symm c⟩
    · exact .inr ⟨T, f, a, hk _ _ hSz.symm b⟩
  sz := Z.sz
  nd := Z.nd
  it := fun j v e => by
    obtain ⟨T, x, y, a1, a2, a3, a4, a5, a6, a7, a8, a9, a10⟩ := Z.it j v e
    exact ⟨T, x, y, a1, a2, a3, a4, a5, a6, a7, a8, a9, hk _ _ (Nat.ne_of_gt a7) a10⟩
theorem zip_step {S : Addr} {acc : Array Value} {oS : Obj} {Q : Option Value → Shared → Prop} (Sp : ZipSep2 z TI TO i1 i2 fp1 fp2) (D1 : Draws prog w A.in1 i1 fp1 n P1 St1) (D2 : Draws prog w A.in1 i2 fp2 n P2 St2)
    (hSz : S ≠ z) (hSI : S ≠ TI) (hSO : S ≠ TO) (hS1 : S ≠ i1) (hS2 : S ≠ i2) (Z : ZAt S z TI TO i1 i2 P1 P2 St1 St2 i acc s.heap) (hi : i < n) (hS : s.heap.get? S = some oS)
    (hQ : ∀ v h' tk, ZAt S z TI TO i1 i2 P1 P2 St1 St2 (i + 1) (acc.push v) h' → h'.get? S = some oS → (∀ c o, c ≠ z → c ≠ TO → c ≠ i1 → c ≠ i2 → s.heap.get? c = some o → h'.get? c = some o) → Q (some v) { s with heap := h', toks := tk }) :
    wpAny (model prog w) A (pyNext (.ref z)) Q E s := by
  obtain ⟨o1, e1⟩ := D1.live _ _ Z.s1
  obtain ⟨o2, e2⟩ := D2.live _ _ Z.s2
  obtain ⟨oO, eO⟩ := Z.tO
  have zl : z < s.heap.objs.size := by
    rcases Z.zs with ⟨_, h, _⟩ | ⟨T, f, _, h⟩
    · exact Heap.lt_size h
    · exact Heap.lt_size h
  have l1 := Heap.lt_size e1
  have l2 := Heap.lt_size e2
  have lO := Heap.lt_size eO
  have lI := Heap.lt_size Z.tI
  have lS := Heap.lt_size hS
  have n0 : acc.size = i := Z.sz
  have items : ∀ {h' : Heap} {x1 x2 : Value}, P1 i x1 → P2 i x2 → IsTupOf2 h' s.heap.objs.size x1 x2 → (∀ c o, c ≠ z → c ≠ TO → c ≠ i1 → c ≠ i2 → s.heap.get? c = some o → h'.get? c = some o) → ∀ j v, (acc.push (.ref s.heap.objs.size))[j]? = some v →
      ∃ T x y, v = .ref T ∧ T ≠ z ∧ T ≠ TI ∧ T ≠ TO ∧ T ≠ i1 ∧ T ≠ i2 ∧ S < T ∧ P1 j x ∧ P2 j y ∧ IsTupOf2 h' T x y := by
    intro h' x1 x2 p1 p2 hT hk j v e
    rw [Array.getElem?_push] at e
    split at e
    · rename_i q
      cases e
      rw [q, n0]
      exact ⟨_, x1, x2, rfl, Nat.ne_of_gt zl, Nat.ne_of_gt lI, Nat.ne_of_gt lO, Nat.ne_of_gt l1, Nat.ne_of_gt l2, lS, p1, p2, hT⟩
    · obtain ⟨T, x, y, a1, a2, a3, a4, a5, a6, a7, a8, a9, a10⟩ := Z.it j v e
      exact ⟨T, x, y, a1, a2, a3, a4, a5, a6, a7, a8, a9, hk _ _ a2 a4 a5 a6 a10⟩
  have ndp : (acc.push (.ref s.heap.objs.size)).toList.Nodup := by
    rw [Array.toList_push, List.nodup_append]
    refine ⟨Z.nd, by simp, fun v hv u hu => ?_⟩
    rw [List.mem_singleton.mp hu]
    intro q
    subst q
    obtain ⟨j, hj⟩ := List.getElem?_of_mem hv
    obtain ⟨T, x, y, a1, a2, a3, a4, a5, a6, a7, a8, a9, a10⟩ := Z.it j _ (by rw [← Array.getElem?_toList]; exact hj)
    cases a1
    exact Nat.lt_irrefl _ (Heap.lt_size a10)
  rcases Z.zs with ⟨h0, hz, hO⟩ | ⟨T, f, h0, hz⟩
  · subst h0
    refine wpAny_pyNext_zipD2_item Sp D1 D2 hz Z.tI hO Z.s1 Z.s2 hi hi fun x1 x2 h' tk p1 p2 b1 b2 d1 d2 b5 b6 b7 => ?_
    refine hQ _ h' tk ⟨b7 _ _ Sp.TIz Sp.TITO Sp.TIi1 Sp.TIi2 Z.tI, ⟨_, b2⟩, d1, d2, .inr ⟨s.heap.objs.size, false, ?_, b1⟩, by rw [Array.size_push, n0], ndp, items p1 p2 b5 b7⟩ (b7 _ _ hSz hSO hS1 hS2 hS) b7
    rw [Array.getElem?_push, if_pos n0.symm]
  · obtain ⟨T', x0, y0, q1, q2, q3, q4, q5, q6, q7, q8, q9, q10⟩ := Z.it 0 _ h0
    cases q1
    refine pyNext_zipDH_item Sp D1 D2 hz q10 Z.tI Z.s1 Z.s2 hi fun x1 x2 h' tk p1 p2 b1 d1 d2 b5 b6 b7 => ?_
    have b8 : ∀ c o, c ≠ z → c ≠ TO → c ≠ i1 → c ≠ i2 → s.heap.get? c = some o → h'.get? c = some o := fun c o c1 _ c3 c4 e => b7 c o c1 c3 c4 e
    refine hQ _ h' tk ⟨b8 _ _ Sp.TIz Sp.TITO Sp.TIi1 Sp.TIi2 Z.tI, ⟨_, b7 _ _ Sp.TOz Sp.Ti1 Sp.Ti2 eO⟩, d1, d2, .inr ⟨T, true, ?_, b1⟩, by rw [Array.size_push, n0], ndp, items p1 p2 b5 b8⟩ (b8 _ _ hSz hSO hS1 hS2 hS) b8
    rw [Array.getElem?_push, if_neg (Nat.ne_of_lt (Array.getElem?_eq_some_iff.mp h0).1)]
    exact h0
theorem zip_stop {S : Addr} {acc : Array Value} {oS : Obj} {Q : Option Value → Shared → Prop} (hh : A.handled = none) (Sp : ZipSep2 z TI TO i1 i2 fp1 fp2) (D1 : Draws prog w A.in1 i1 fp1 n P1 St1) (D2 : Draws prog w A.in1 i2 fp2 n P2 St2)
    (hSz : S ≠ z) (hSI : S ≠ TI) (hSO : S ≠ TO) (hS1 : S ≠ i1) (hS2 : S ≠ i2) (Z : ZAt S z TI TO i1 i2 P1 P2 St1 St2 n acc s.heap) (hS : s.heap.get? S = some oS)
    (hQ : ∀ h' tk, (∀ j v, acc[j]? = some v → ∃ T x y, v = .ref T ∧ S < T ∧ P1 j x ∧ P2 j y ∧ IsTupOf2 h' T x y) → h'.get? S = some oS → (∀ c o, c ≠ z → c ≠ TO → c ≠ i1 → c ≠ i2 → s.heap.get? c = some o → h'.get? c = some o) → Q none { s with heap := h', toks := tk }) :
    wpAny (model prog w) A (pyNext (.ref z)) Q E s := by
  have items : ∀ {h' : Heap}, (∀ c o, c ≠ z → c ≠ TO → c ≠ i1 → c ≠ i2 → s.heap.get? c = some o → h'.get? c = some o) → ∀ j v, acc[j]? = some v → ∃ T x y, v = .ref T ∧ S < T ∧ P1 j x ∧ P2 j y ∧ IsTupOf2 h' T x y := by
    intro h' hk j v e
    obtain ⟨T, x, y, a1, a2, a3, a4, a5, a6, a7, a8, a9, a10⟩ := Z.it j v e
    exact ⟨T, x, y, a1, a7, a8, a9, hk _ _ a2 a4 a5 a6 a10⟩
  rcases Z.zs with ⟨h0, hz, hO⟩ | ⟨T, f, h0, hz⟩
  · refine wpAny_pyNext_zipD2_end Sp D1 D2 hz Z.tI hO Z.s1 Z.s2 (Nat.le_refl _) (Nat.le_refl _) (.inl rfl) fun h' tk b7 => ?_
    exact hQ h' tk (items b7) (b7 _ _ hSz hSO hS1 hS2 hS) b7
  · obtain ⟨T', x0, y0, q1, q2, q3, q4, q5, q6, q7, q8, q9, q10⟩ := Z.it 0 _ h0
    cases q1
    refine pyNext_zipDH_end Sp D1 hz q10 Z.tI Z.s1 fun h' b7 => ?_
    have b8 : ∀ c o, c ≠ z → c ≠ TO → c ≠ i1 → c ≠ i2 → s.heap.get? c = some o → h'.get? c = some o := fun c o c1 _ c3 c4 e => b7 c o c1 c3 c4 e
    exact hQ h' s.toks (items b8) (b8 _ _ hSz hSO hS1 hS2 hS) b8
/-- the loop that fills a list from the zip -/
theorem zip_loop {S : Addr} {res : Value} {R : Result → Shared → Prop} (hh : A.handled = none) (Sp : ZipSep2 z TI TO i1 i2 fp1 fp2) (D1 : ∀ A : Around, A.handled = none → Draws prog w A i1 fp1 n P1 St1) (D2 : ∀ A : Around, A.handled = none → Draws prog w A i2 fp2 n P2 St2)
    (hSz : S ≠ z) (hSI : S ≠ TI) (hSO : S ≠ TO) (hS1 : S ∉ fp1) (hS2 : S ∉ fp2) (hn : n ≤ sizeLine) : ∀ (k i : Nat) (s : Shared) (acc : Array Value) (c : Nat), n - i = k → i ≤ n → ZAt S z TI TO i1 i2 P1 P2 St1 St2 i acc s.heap → s.heap.get? S = some { cls := .type "list", dict := none, data := .seq acc c, slots := #[] } →
    (∀ h' tk acc' c', acc'.size = n → acc'.toList.Nodup → (∀ j v, acc'[j]? = some v → ∃ T x y, v = .ref T ∧ S < T ∧ P1 j x ∧ P2 j y ∧ IsTupOf2 h' T x y) → h'.get? S = some { cls := .type "list", dict := none, data := .seq acc' c', slots := #[] } →
      (∀ c o, c ≠ S → c ≠ z → c ≠ TO → c ≠ i1 → c ≠ i2 → s.heap.get? c = some o → h'.get? c = some o) → R (.ok (.ret res)) { s with heap := h', toks := tk }) →
    codeAny (model prog w) A (.builtin "list.extend.loop" ⟨[.ref S, .ref z, res], []⟩) R s := by
  have hS1' : S ≠ i1 := fun q => hS1 (q ▸ Sp.mem1)
  have hS2' : S ≠ i2 := fun q => hS2 (q ▸ Sp.mem2)
  have hh2 : A.in1.in1.handled = none := hh
  intro k
  induction k with
  | zero =>
    intro i s acc c hk hi Z hS hR
    have hin : i = n := by omega
    subst hin
    refine codeAny_builtin PySem.F.entry_extend_loop ?_
    rw [Around.under_plainId PySem.F.plain_extend_loop _]
    show wpAny _ A.in1 (pyNext (.ref z) >>= _) _ _ s
    refine wpAny_bind (zip_stop (A := A.in1) hh Sp (D1 _ hh2) (D2 _ hh2) hSz hSI hSO hS1' hS2' Z hS fun h' tk it hS' hk' => ?_)
    exact wpAny_pure (hR h' tk acc c Z.sz Z.nd it hS' fun c o _ c1 c2 c3 c4 e => hk' c o c1 c2 c3 c4 e)
  | succ k ih =>
    intro i s acc c hk hi Z hS hR
    have hlt : i < n := by omega
    have n0 : acc.size = i := Z.sz
    refine codeAny_builtin PySem.F.entry_extend_loop ?_
    rw [Around.under_plainId PySem.F.plain_extend_loop _]
    show wpAny _ A.in1 (pyNext (.ref z) >>= _) _ _ s
    refine wpAny_bind (zip_step (A := A.in1) Sp (D1 _ hh2) (D2 _ hh2) hSz hSI hSO hS1' hS2' Z hlt hS fun v h' tk Z' hS' hk' => ?_)
    show wpAny _ A.in1 (updateSeq S (·.push v) >>= _) _ _ _
    refine wpAny_bind ?_
    have oth : ∀ b o, b ≠ S → h'.get? b = some o → (h'.update S (Obj.mapSeq (·.push v))).get? b = some o := fun b o hb e => (Heap.get?_update_other _ _ (Ne.symm hb)).trans e
    refine wpAny_updateSeq hS' rfl (wpAny_pure ⟨plainId_quiet PySem.F.plain_extend_loop _, ih (i + 1) _ (acc.push v) _ (by omega) hlt (Z'.keep (D1 _ hh).frame (D2 _ hh).frame hS1 hS2 hSz hSI hSO oth) (Heap.get?_update_self _ hS' rfl) fun h'' tk'' acc' c' sz nd it hS'' hk'' => ?_⟩)
      (by rw [n0]; omega) (by show (acc.push v).size ≤ sizeLine + 1; rw [Array.size_push, n0]; omega)
    exact hR h'' tk'' acc' c' sz nd it hS'' fun c o c0 c1 c2 c3 c4 e => hk'' c o c0 c1 c2 c3 c4 (oth c o c0 (hk' c o c1 c2 c3 c4 e))
end
end Mini

set_option maxRecDepth 100000
set_option maxHeartbeats 4000000
namespace Mini
open PySem PySem.Spec PyProof.Rows PySem.W
theorem zip_nolen : typeLookup (.type "zip") "__len__" = pure none := by rw [typeLookup_type, builtinLookup_eq_fast]; kernel_rfl
theorem zip_nohint : typeLookup (.type "zip") "__length_hint__" = pure none := by rw [typeLookup_type, builtinLookup_eq_fast]; kernel_rfl
section
variable {prog : Program} {w : World} {A : Around} {E : Value → Shared → Prop} {s : Shared} {z TI TO i1 i2 : Addr} {fp1 fp2 : List Addr} {n i : Nat} {P1 P2 : Nat → Value → Prop} {St1 St2 : Nat → Heap → Prop}
theorem zip_self {S : Addr} {acc : Array Value} {Q : Value → Shared → Prop} (Z : ZAt S z TI TO i1 i2 P1 P2 St1 St2 i acc s.heap) (h : Q (.ref z) s) : wpAny (model prog w) A (pyIter (.ref z)) Q E s := by
  rcases Z.zs with ⟨_, hz, _⟩ | ⟨T, f, _, hz⟩
  · exact wpAny_pyIter_zip hz h
  · have hT : s.TypeIs (.ref z) "zip" := ⟨_, hz, rfl⟩
    refine wpAny_pyIter_slot hT F.slot_zip_iter (wpAny_call_entry F.slot_zip_iter hT F.entry_zip_iter ?_ (F.args_zip_iter_1 _))
    show wpAny _ _ (ret (.ref z)) _ _ s
    exact wpAny_pure ⟨_, rfl, "zip", _, hT, F.slot_zip_next.lookup, h⟩
theorem zip_extend {S : Addr} {res : Value} {c₀ : Nat} {R : Result → Shared → Prop} (hh : A.handled = none) (Sp : ZipSep2 z TI TO i1 i2 fp1 fp2) (D1 : ∀ A : Around, A.handled = none → Draws prog w A i1 fp1 n P1 St1) (D2 : ∀ A : Around, A.handled = none → Draws prog w A i2 fp2 n P2 St2)
    (hSz : S ≠ z) (hSI : S ≠ TI) (hSO : S ≠ TO) (hS1 : S ∉ fp1) (hS2 : S ∉ fp2) (hn : n ≤ sizeLine) (Z : ZAt S z TI TO i1 i2 P1 P2 St1 St2 0 #[] s.heap) (hS : s.heap.get? S = some { cls := .type "list", dict := none, data := .seq #[] c₀, slots := #[] })
    (hR : ∀ h' tk acc' c', acc'.size = n → acc'.toList.Nodup → (∀ j v, acc'[j]? = some v → ∃ T x y, v = .ref T ∧ S < T ∧ P1 j x ∧ P2 j y ∧ IsTupOf2 h' T x y) → h'.get? S = some { cls := .type "list", dict := none, data := .seq acc' c', slots := #[] } →
      (∀ c o, c ≠ S → c ≠ z → c ≠ TO → c ≠ i1 → c ≠ i2 → s.heap.get? c = some o → h'.get? c = some o) → R (.ok (.ret res)) { s with heap := h', toks := tk }) :
    wpAny (model prog w) A.in1 (Builtin.List.listExtendWith (.ref S) (.ref z) res)
      (fun fin s' => match fin with | .done f => R (.ok f) s' | .again c' => c'.quiet = true ∧ codeAny (model prog w) A c' R s') (fun e s' => R (.error e) s') s := by
  have key : ∀ (h : Heap) (c₁ : Nat), ZAt S z TI TO i1 i2 P1 P2 St1 St2 0 #[] h → (∀ b o, b ≠ S → s.heap.get? b = some o → h.get? b = some o) →
      h.get? S = some { cls := .type "list", dict := none, data := .seq #[] c₁, slots := #[] } → codeAny (model prog w) A (.builtin "list.extend.loop" ⟨[.ref S, .ref z, res], []⟩) R { s with heap := h } := by
    intro h c₁ Z1 hk hS₁
    exact zip_loop hh Sp D1 D2 hSz hSI hSO hS1 hS2 hn n 0 _ #[] c₁ rfl (Nat.zero_le _) Z1 hS₁ fun h' tk acc' c' sz nd it hS' hk' => hR h' tk acc' c' sz nd it hS' fun c o c0 c1 c2 c3 c4 e => hk' c o c0 c1 c2 c3 c4 (hk c o c0 e)
  unfold Builtin.List.listExtendWith
  refine wpAny_bind (wpAny_typeOf (T := "zip") Z.typed ?_)
  have h1 : Builtin.List.listSameRef (.ref S) (.ref z) = false := by simp [Builtin.List.listSameRef, hSz]
  have h2 : (Value.type "zip" == Value.type "list") = false := by decide
  have h3 : (Value.type "zip" == Value.type "tuple") = false := by decide
  simp only [h1, h2, h3, Bool.or_false, Bool.false_eq_true, if_false]
  refine wpAny_bind (zip_self Z ?_)
  refine wpAny_bind (wpAny_holding ?_)
  unfold Builtin.List.listLengthHint
  refine wpAny_bind (wpAny_specialOf Z.typed zip_nolen ?_)
  show wpAny _ A.in1 (specialOf (Value.ref z) (Str.ofString "__length_hint__") >>= _) _ _ _
  refine wpAny_bind (wpAny_specialOf Z.typed zip_nohint ?_)
  refine wpAny_pure ?_
  show wpAny _ A.in1 (rule "list.extend.makes-room" >>= fun _ => Builtin.List.listTouch (.ref S) >>= fun _ =>
    again (.builtin "list.extend.loop" ⟨[.ref S, .ref z, res], []⟩)) _ _ _
  refine wpAny_bind (wpAny_rule ?_)
  refine wpAny_bind ?_
  show wpAny _ A.in1 (updateSeq S (·.push .none) >>= fun _ => updateSeq S (·.pop)) _ _ _
  refine wpAny_bind (wpAny_updateSeq hS rfl ?_)
  have hS₂ := Heap.get?_update_self (Obj.mapSeq (·.push Value.none)) hS rfl
  refine wpAny_updateSeq hS₂ rfl ?_
  have hS₃ := Heap.get?_update_self (Obj.mapSeq (·.pop)) hS₂ rfl
  have oth : ∀ b o, b ≠ S → s.heap.get? b = some o → ((s.heap.update S (Obj.mapSeq (·.push Value.none))).update S (Obj.mapSeq (·.pop))).get? b = some o :=
    fun b o hb e => (Heap.get?_update_other _ _ (Ne.symm hb)).trans ((Heap.get?_update_other _ _ (Ne.symm hb)).trans e)
  exact wpAny_pure ⟨plainId_quiet PySem.F.plain_extend_loop _, key _ _ (Z.keep (D1 _ hh).frame (D2 _ hh).frame hS1 hS2 hSz hSI hSO oth) oth hS₃⟩
/-- list(z), z a zip at its beginning -/
theorem zip_list {Q : Value → Shared → Prop} (hh : A.handled = none) (Sp : ZipSep2 z TI TO i1 i2 fp1 fp2) (D1 : ∀ A : Around, A.handled = none → Draws prog w A i1 fp1 n P1 St1) (D2 : ∀ A : Around, A.handled = none → Draws prog w A i2 fp2 n P2 St2)
    (hf1 : ∀ b ∈ fp1, b < s.heap.objs.size) (hf2 : ∀ b ∈ fp2, b < s.heap.objs.size) (hn : n ≤ sizeLine) (hI : IsTupOf2 s.heap TI (.ref i1) (.ref i2)) (hO : IsTupOf2 s.heap TO .none .none) (hz : IsZip s.heap z TI TO .none) (st1 : St1 0 s.heap) (st2 : St2 0 s.heap)
    (hQ : ∀ h' tk acc' c', acc'.size = n → acc'.toList.Nodup → (∀ j v, acc'[j]? = some v → ∃ T x y, v = .ref T ∧ s.heap.objs.size < T ∧ P1 j x ∧ P2 j y ∧ IsTupOf2 h' T x y) → h'.get? s.heap.objs.size = some { cls := .type "list", dict := none, data := .seq acc' c', slots := #[] } →
      (∀ c o, c ≠ z → c ≠ TO → c ≠ i1 → c ≠ i2 → s.heap.get? c = some o → h'.get? c = some o) → Q (.ref s.heap.objs.size) { s with heap := h', toks := tk }) :
    wpAny (model prog w) A (call (.type "list") [.ref z]) Q E s := by
  refine callType_codes (Q₁ := fun obj s₁ => obj = .ref s.heap.objs.size ∧ s₁ = { s with heap := s.heap.push { cls := .type "list", data := .seq #[] } }) PySem.F.called_list (PySem.F.typeCall_list_1 _) PySem.F.entry_list_init
    (code_list_new _ ⟨rfl, rfl⟩) fun obj s₁ h₁ => ?_
  obtain ⟨rfl, rfl⟩ := h₁
  have hS : (s.heap.push { cls := .type "list", data := .seq #[] }).get? s.heap.objs.size = some { cls := .type "list", data := .seq #[] } := Heap.get?_push_size _ rfl
  have hSz : s.heap.objs.size ≠ z := Nat.ne_of_gt (Heap.lt_size hz)
  have hSI : s.heap.objs.size ≠ TI := Nat.ne_of_gt (Heap.lt_size hI)
  have hSO : s.heap.objs.size ≠ TO := Nat.ne_of_gt (Heap.lt_size hO)
  have hS1 : s.heap.objs.size ∉ fp1 := fun q => Nat.lt_irrefl _ (hf1 _ q)
  have hS2 : s.heap.objs.size ∉ fp2 := fun q => Nat.lt_irrefl _ (hf2 _ q)
  have Z0 : ZAt s.heap.objs.size z TI TO i1 i2 P1 P2 St1 St2 0 #[] (s.heap.push { cls := .type "list", data := .seq #[] }) :=
    ⟨Heap.get?_push_of_some _ hI, ⟨_, Heap.get?_push_of_some _ hO⟩, (D1 _ hh).frame _ _ _ st1 fun b _ o e => Heap.get?_push_of_some _ e, (D2 _ hh).frame _ _ _ st2 fun b _ o e => Heap.get?_push_of_some _ e, .inl ⟨rfl, Heap.get?_push_of_some _ hz, Heap.get?_push_of_some _ hO⟩, rfl, List.nodup_nil, fun j v e => by simp at e⟩
  refine ⟨⟨_, hS, rfl⟩, PySem.F.args_list_init_2 _ _, ?_⟩
  show wpAny _ _ (do let old ← Builtin.List.listItems (.ref s.heap.objs.size); Builtin.List.listUpdate (.ref s.heap.objs.size) (fun _ => #[]); letGo old.toList.reverse; Builtin.List.listExtendWith (.ref s.heap.objs.size) (.ref z) .none) _ _ _
  refine wpAny_bind ?_
  unfold Builtin.List.listItems
  refine wpAny_bind (wpAny_seqItems hS rfl (wpAny_pure ?_))
  show wpAny _ _ (updateSeq s.heap.objs.size (fun _ => #[]) >>= fun _ => letGo (#[] : Array Value).toList.reverse >>= fun _ => Builtin.List.listExtendWith (.ref s.heap.objs.size) (.ref z) .none) _ _ _
  refine wpAny_bind (wpAny_updateSeq hS rfl ?_)
  have hS₂ := Heap.get?_update_self (Obj.mapSeq (fun _ => (#[] : Array Value))) hS rfl
  have oth : ∀ b o, b ≠ s.heap.objs.size → (s.heap.push { cls := .type "list", data := .seq #[] }).get? b = some o → ((s.heap.push { cls := .type "list", data := .seq #[] }).update s.heap.objs.size (Obj.mapSeq (fun _ => (#[] : Array Value)))).get? b = some o :=
    fun b o hb e => (Heap.get?_update_other _ _ (Ne.symm hb)).trans e
  refine wpAny_bind (wpAny_letGo ?_)
  refine zip_extend (A := A.in1) hh Sp D1 D2 hSz hSI hSO hS1 hS2 hn (Z0.keep (D1 _ hh).frame (D2 _ hh).frame hS1 hS2 hSz hSI hSO oth) hS₂ fun h' tk acc' c' sz nd it hS' hk => ?_
  exact ⟨rfl, hQ h' tk acc' c' sz nd it hS' fun c o c1 c2 c3 c4 e => hk c o (Nat.ne_of_lt (Heap.lt_size e)) c1 c2 c3 c4 (oth c o (Nat.ne_of_lt (Heap.lt_size e)) (Heap.get?_push_of_some _ e))⟩
end
end Mini

set_option maxRecDepth 100000
set_option maxHeartbeats 4000000
namespace Mini
open PySem L2 Evl PySem.Spec PyProof.Rows PySem.W
theorem lzip_args {K : PySem.W.Frag} {S : Sg} {pm : Option Addr} {ρ : Env1} {g : G} {Hf H : Hp} {ma mb : ME} {Q : VK} (h : PostS K S pm Hf H (evE S.call (.lzip ma mb) ρ g) (fun d _ Hf' H' => ∀ v, At K pm Hf' v d → Q v H')) :
    PostS K S pm Hf H (evA S.call (.cons ma (.cons mb .nil)) ρ g) (fun ds g2 Hf2 H2 => ∃ xs ys, ds = [.tuple xs, .list ys] ∧ xs.length = ys.length ∧ xs.length < 1000000 ∧ ∀ Hf' H', Stp pm Hf2 H2 Hf' H' → MAt K pm g2 Hf' H' → ∀ v, At K pm Hf' v (.list (zipD xs ys)) → Q v H') := by
  simp only [evE] at h
  simp only [evA]
  cases q1 : evE S.call ma ρ g with
  | exc a b c => rw [q1] at h; exact h
  | stuck => rw [q1] at h; exact h
  | ok x g1 =>
    rw [q1] at h
    simp only [R.bind_ok] at h ⊢
    cases q2 : evE S.call mb ρ g1 with
    | exc a b c => rw [q2] at h; exact h
    | stuck => rw [q2] at h; exact h
    | ok y g2 =>
      rw [q2] at h
      simp only [R.bind_ok] at h ⊢
      split at h
      · rename_i xs ys
        split at h
        · rename_i hl
          intro Hf2 H2 s2 m2
          exact ⟨xs, ys, rfl, hl.1, hl.2, fun Hf' H' s' m' v a => h Hf' H' (s2.trans s') m' v a⟩
        · exact h.elim
      · exact h.elim
section
variable {X : Cx} {S : Sg} {pos : Pos}
/-- pairs that stand are taken into the heap's picture, one by one -/
theorem lay_tups {K : PySem.W.Frag} {pins : List (Addr × Obj)} {σ : L2.St} {pm : Option Addr} {g : G} {fin : Heap} : ∀ (rows : List (Addr × V × V)) (s : Shared) (Hf H : Hp), L2.Inv X pins σ H s → Ex Hf H → MAt K pm g Hf H → (rows.map (·.1)).Nodup →
    (∀ r ∈ rows, s.heap.get? r.1 = none ∧ H r.1 = none ∧ ∃ u1 u2, RelV r.2.1 u1 ∧ RelV r.2.2 u2 ∧ IsTupOf2 fin r.1 u1 u2) → (∀ b o, s.heap.get? b = some o → fin.get? b = some o) →
    ∃ (Hf' H' : Hp) (G : Heap) (tk : Nat), L2.Inv X pins σ H' { s with heap := G, toks := tk } ∧ (∀ b o, G.get? b = some o → fin.get? b = some o) ∧ (∀ b, s.heap.get? b = none → b ∉ rows.map (·.1) → G.get? b = none) ∧ (∀ b, H b = none → b ∉ rows.map (·.1) → H' b = none) ∧
      Stp pm Hf H Hf' H' ∧ MAt K pm g Hf' H' ∧ ∀ r ∈ rows, Hf' r.1 = some (.tup [r.2.1, r.2.2])
  | [], s, Hf, H, I, ex, m, _, _, hk => ⟨Hf, H, s.heap, s.toks, I, hk, fun b q _ => q, fun b q _ => q, Stp.refl ex, m, fun r hr => nomatch hr⟩
  | r :: rows, s, Hf, H, I, ex, m, nd, hr, hk => by
    obtain ⟨n1, n2, u1, u2, r1, r2, hT⟩ := hr r List.mem_cons_self
    obtain ⟨G1, g1, g2⟩ := restrict fin fun b => decide (b = r.1 ∨ s.heap.get? b ≠ none)
    have k1 : ∀ b o, s.heap.get? b = some o → G1.get? b = some o := fun b o e => by
      rw [g1 b (by simp [e])]
      exact hk b o e
    have k2 : ∀ b o, G1.get? b = some o → fin.get? b = some o := fun b o e => by
      by_cases q : b = r.1 ∨ s.heap.get? b ≠ none
      · rw [← g1 b (by simpa using q)]; exact e
      · rw [g2 b (by simpa using q)] at e; cases e
    have hT1 : G1.get? r.1 = some { cls := .type "tuple", data := .seq #[u1, u2] } := by
      rw [g1 r.1 (by simp)]
      exact hT
    have new : ObjOk X.prog X.w (upd H r.1 (.tup [r.2.1, r.2.2])) G1 r.1 (.tup [r.2.1, r.2.2]) := ⟨by show 2 ≤ sizeLine; decide, [u1, u2], .cons r1 (.cons r2 .nil), ⟨_, hT1, rfl, _, rfl⟩⟩
    have I1 : L2.Inv X pins σ (upd H r.1 (.tup [r.2.1, r.2.2])) { s with heap := G1, toks := s.toks } := I.laidN k1 n1 n2 new
    have nd' : r.1 ∉ rows.map (·.1) ∧ (rows.map (·.1)).Nodup := List.nodup_cons.mp nd
    have st1 : Stp pm Hf H (upd Hf r.1 (.tup [r.2.1, r.2.2])) (upd H r.1 (.tup [r.2.1, r.2.2])) := Stp.new ex n2
    have nz : ∀ b, s.heap.get? b = none → b ≠ r.1 → G1.get? b = none := fun b q ne => g2 b (by simp [q, ne])
    obtain ⟨Hf', H', G, tk, I', k3, k4, k5, st', m', hf'⟩ := lay_tups rows { s with heap := G1, toks := s.toks } _ _ I1 st1.fh (m.new n2 ex) nd'.2 (fun q hq => by
      obtain ⟨z1, z2, z3⟩ := hr q (List.mem_cons_of_mem _ hq)
      have ne : q.1 ≠ r.1 := fun e => nd'.1 (e ▸ List.mem_map.mpr ⟨q, hq, rfl⟩)
      exact ⟨nz _ z1 ne, by rw [upd_ne ne]; exact z2, z3⟩) k2
    refine ⟨Hf', H', G, tk, I', k3, fun b q nb => ?_, fun b q nb => ?_, st1.trans st', m', fun q hq => ?_⟩
    · have ne : b ≠ r.1 := fun e => nb (e ▸ List.mem_cons_self)
      exact k4 b (nz b q ne) fun z => nb (List.mem_cons_of_mem _ z)
    · have ne : b ≠ r.1 := fun e => nb (e ▸ List.mem_cons_self)
      exact k5 b (by rw [upd_ne ne]; exact q) fun z => nb (List.mem_cons_of_mem _ z)
    · rcases List.mem_cons.mp hq with e | e
      · rw [e]
        exact st'.ff _ _ upd_same
      · exact hf' q e
end
end Mini

set_option maxRecDepth 100000
set_option maxHeartbeats 4000000
namespace Mini
open PySem L2 Evl PySem.Spec PyProof.Rows PySem.W
theorem boot_list2 : bootBuiltins "list" = some (.type "list") := by decide +kernel
/-- the rows of a zip that has been kept, as values of the heap's picture -/
theorem rows_of {fin : Heap} {D : Addr} {xv yv : List V} {its its2 : List Value} (r1 : Vals xv its) (r2 : Vals yv its2) (hl : xv.length = yv.length) {acc : Array Value} (hz : acc.size = xv.length) (hnd : acc.toList.Nodup)
    (hit : ∀ (j : Nat) (v : Value), acc[j]? = some v → ∃ T x y, v = Value.ref T ∧ D < T ∧ its.toArray[j]? = some x ∧ its2.toArray[j]? = some y ∧ IsTupOf2 fin T x y) :
    ∃ rows : List (Addr × V × V), acc.toList = rows.map (fun r => Value.ref r.1) ∧ rows.map (·.2.1) = xv ∧ rows.map (·.2.2) = yv ∧ (rows.map (·.1)).Nodup ∧ ∀ r ∈ rows, D < r.1 ∧ ∃ u1 u2, RelV r.2.1 u1 ∧ RelV r.2.2 u2 ∧ IsTupOf2 fin r.1 u1 u2 := by
  have key : ∀ (l : List Value) (xv yv : List V) (its its2 : List Value), Vals xv its → Vals yv its2 → l.length = xv.length → xv.length = yv.length →
      (∀ (j : Nat) (v : Value), l[j]? = some v → ∃ T x y, v = Value.ref T ∧ D < T ∧ its[j]? = some x ∧ its2[j]? = some y ∧ IsTupOf2 fin T x y) →
      ∃ rows : List (Addr × V × V), l = rows.map (fun r => Value.ref r.1) ∧ rows.map (·.2.1) = xv ∧ rows.map (·.2.2) = yv ∧ ∀ r ∈ rows, D < r.1 ∧ ∃ u1 u2, RelV r.2.1 u1 ∧ RelV r.2.2 u2 ∧ IsTupOf2 fin r.1 u1 u2 := by
    intro l
    induction l with
    | nil =>
      intro xv yv its its2 r1 r2 h1 h2 _
      have e1 : xv = [] := List.length_eq_zero_iff.mp h1.symm
      have e2 : yv = [] := List.length_eq_zero_iff.mp (by rw [← h2, ← h1]; rfl)
      exact ⟨[], rfl, e1.symm, e2.symm, fun r hr => nomatch hr⟩
    | cons v l ih =>
      intro xv yv its its2 r1 r2 h1 h2 hit
      cases r1 with
      | nil => simp at h1
      | @cons x u xs us rx rs =>
        cases r2 with
        | nil => simp at h2
        | @cons y u2 ys us2 ry rs2 =>
          obtain ⟨T, a, b, e1, e2, e3, e4, e5⟩ := hit 0 v rfl
          have e3' : u = a := by simpa using e3
          have e4' : u2 = b := by simpa using e4
          subst e3' e4'
          obtain ⟨rows, q1, q2, q3, q4⟩ := ih xs ys us us2 rs rs2 (by simpa using h1) (by simpa using h2) (fun j v' hv => by
            obtain ⟨T, a, b, z1, z2, z3, z4, z5⟩ := hit (j + 1) v' (by simpa using hv)
            exact ⟨T, a, b, z1, z2, by simpa using z3, by simpa using z4, z5⟩)
          refine ⟨(T, x, y) :: rows, by rw [e1, q1]; rfl, by rw [← q2]; rfl, by rw [← q3]; rfl, fun r hr => ?_⟩
          rcases List.mem_cons.mp hr with e | e
          · rw [e]; exact ⟨e2, u, u2, rx, ry, e5⟩
          · exact q4 r e
  obtain ⟨rows, q1, q2, q3, q4⟩ := key acc.toList xv yv its its2 r1 r2 (by rw [Array.length_toList, hz]) hl (fun j v hv => by
    obtain ⟨T, x, y, z1, z2, z3, z4, z5⟩ := hit j v (by rw [← Array.getElem?_toList]; exact hv)
    exact ⟨T, x, y, z1, z2, by simpa using z3, by simpa using z4, z5⟩)
  refine ⟨rows, q1, q2, q3, ?_, q4⟩
  have h0 : (rows.map fun r => Value.ref r.1).Nodup := q1 ▸ hnd
  have e : (rows.map fun r => Value.ref r.1) = (rows.map (·.1)).map Value.ref := by rw [List.map_map]; rfl
  rw [e] at h0
  exact List.Pairwise.of_map Value.ref (fun a b h e => h (by rw [e])) h0
theorem at_rows {K : PySem.W.Frag} {pm : Option Addr} {Hf : Hp} : ∀ (rows : List (Addr × V × V)) (xs ys : List D), AtL K pm Hf (rows.map (·.2.1)) xs → AtL K pm Hf (rows.map (·.2.2)) ys → (∀ r ∈ rows, Hf r.1 = some (.tup [r.2.1, r.2.2])) → AtL K pm Hf (rows.map fun r => V.ref r.1) (zipD xs ys)
  | [], [], [], _, _, _ => trivial
  | r :: rows, x :: xs, y :: ys, h1, h2, h => ⟨⟨r.1, [r.2.1, r.2.2], rfl, h r List.mem_cons_self, h1.1, h2.1, trivial⟩, at_rows rows xs ys h1.2 h2.2 fun q hq => h q (List.mem_cons_of_mem _ hq)⟩
  | [], _ :: _, _, h1, _, _ => h1.elim
  | [], [], _ :: _, _, h2, _ => h2.elim
  | _ :: _, [], _, h1, _, _ => h1.elim
  | _ :: _, _ :: _, [], _, h2, _ => h2.elim
theorem vals_rows : ∀ (rows : List (Addr × V × V)), Vals (rows.map fun r => V.ref r.1) (rows.map fun r => Value.ref r.1)
  | [] => .nil
  | r :: rows => .cons rfl (vals_rows rows)
section
variable {X : Cx} {S : Sg} {pos : Pos}
/-- list(zip(x, y)), x a tuple, y a list -/
theorem m_lzip {e e2 : Expr} {ma mb : ME} {p1 p pos2 : Pos} (hc : X.calm = true) (ha : PE X e (rdE X.K S ma)) (hb : PE X e2 (rdE X.K S mb)) (hg : Gl X "list") (hm : X.mg "list" = none) (hgz : Gl X "zip") (hmz : X.mg "zip" = none)
    (hs1 : starEach [.Call (.Name "zip" p) [e, e2] [] pos2] X.env = (false, eval (.Call (.Name "zip" p) [e, e2] [] pos2) X.env) :: starEach [] X.env := by rfl)
    (hs : starEach [e, e2] X.env = (false, eval e X.env) :: starEach [e2] X.env := by rfl) (hs2 : starEach [e2] X.env = (false, eval e2 X.env) :: starEach [] X.env := by rfl) (hpl : (backTo pos2 (starEach [e2] X.env)).any (·.1) = false := by rfl) :
    PE X (.Call (.Name "list" p1) [.Call (.Name "zip" p) [e, e2] [] pos2] [] pos) (rdE X.K S (.lzip ma mb)) := by
  refine ⟨fun pins s σ H Q I h => ?_⟩
  obtain ⟨pm, ρ, g, Hf, rel, h⟩ := h
  refine wpAny_Call_Name_kw (ld_blt I hg hm boot_list2 ?_)
  refine PyProof.Rows.callWith_type1 ?_ hs1 (by rfl)
  rw [hs1]
  refine Calls.spliced_cons ?_
  refine wpAny_Call_Name_kw (ld_blt I hgz hmz PyProof.Rows.boot_zip ?_)
  let Q' : List V → Hp → Prop := fun vs H2 => ∃ g2 Hf2 xs ys, Ex Hf2 H2 ∧ MAt X.K pm g2 Hf2 H2 ∧ AtL X.K pm Hf2 vs [.tuple xs, .list ys] ∧ xs.length = ys.length ∧ xs.length < 1000000 ∧ ∀ Hf' H', Stp pm Hf2 H2 Hf' H' → MAt X.K pm g2 Hf' H' → ∀ v, At X.K pm Hf' v (.list (zipD xs ys)) → Q v H'
  have hA : rdA X.K S (.cons ma (.cons mb .nil)) σ H Q' := ⟨pm, ρ, g, Hf, rel, (lzip_args h).mono fun ds g2 Hf2 H2 s2 m2 q vs a => by
    obtain ⟨xs, ys, rfl, l1, l2, k⟩ := q
    exact ⟨g2, Hf2, xs, ys, s2.fh, m2, a, l1, l2, k⟩⟩
  refine PyProof.Rows.callWith_type1 (thn ((m_cons ha (m_cons hb m_nil hs2) hs).run pos2 pins s σ H Q' I hA) fun us s1 ⟨vs, H1, I1, r1, q1⟩ => ?_) hs hpl
  obtain ⟨g2, Hf2, xs, ys, ex, m2, aL, l1, l2, k⟩ := q1
  match vs, aL, r1 with
  | [va, vb], aL, r1 =>
    obtain ⟨⟨a, xv, rfl, ha1, ha2⟩, ⟨b, yv, rfl, hb1, hb2⟩, _⟩ := aL
    cases r1 with
    | cons ra rr =>
      cases rr with
      | cons rb rr =>
        cases rr
        cases ra
        cases rb
        obtain ⟨its, rv, p1, z1⟩ := I1.tuple (.inl (.inl (ex _ _ ha1)))
        obtain ⟨its2, rv2, p2, z2⟩ := I1.list (sq_of (ex _ _ hb1))
        have lx : xv.length = xs.length := ha2.length
        have ly : yv.length = ys.length := hb2.length
        have lv := rv.length
        have lv2 := rv2.length
        obtain ⟨oa, hoa, _⟩ := id p1
        have la : a < s1.heap.objs.size := Heap.lt_size hoa
        have lb : b < s1.heap.objs.size := p2.lt
        refine zip_begins2 (begins_tuple a its.toArray) (begins_list b its2.toArray) p1 p2.isList fun h' hz hTI hTO e1 e2 hsz hk => Calls.spliced_nil ?_
        have hh := I1.ok.hd hc
        have n1 : its.toArray.size = xv.length := by simp [lv]
        have n2 : its2.toArray.size = xv.length := by simp [← lv2]; omega
        have s0 : (Shared.heap { s1 with heap := h' }).objs.size = s1.heap.objs.size + 5 := hsz
        have D := PySem.W.ktu_apart s1.heap.objs.size a b la lb
        have Sp : ZipSep2 (s1.heap.objs.size + 4) (s1.heap.objs.size + 2) (s1.heap.objs.size + 3) s1.heap.objs.size (s1.heap.objs.size + 1) [s1.heap.objs.size, a] [s1.heap.objs.size + 1, b] :=
          ⟨D.TIz, D.TOz, D.TITO, D.TIi1, by simp, by simp [D.i1z.symm, D.l1z.symm], by simp [D.TOi1, D.l1TO.symm], D.TIi2, by simp, by simp [D.i2z.symm, D.l2z.symm], by simp [D.TOi2, D.l2TO.symm], by simp [D.i12, D.l2i1.symm], by simp [D.i12.symm, D.l1i2.symm]⟩
        have up : ∀ c : Nat, c < s1.heap.objs.size + 5 → c < (Shared.heap { s1 with heap := h' }).objs.size := fun c q => by rw [s0]; exact q
        refine zip_list (n := xv.length) (fp1 := [s1.heap.objs.size, a]) (fp2 := [s1.heap.objs.size + 1, b]) hh Sp
          (fun A hA => n1 ▸ Draws.tuple hA s1.heap.objs.size a (Nat.ne_of_lt la) its.toArray) (fun A hA => n2 ▸ Draws.list hA (s1.heap.objs.size + 1) b (Nat.ne_of_lt (Nat.lt_succ_of_lt lb)) its2.toArray)
          (fun c hcm => up c (by
            rcases List.mem_cons.mp hcm with e | e
            · rw [e]; exact Nat.lt_add_of_pos_right (by decide)
            · rw [List.mem_singleton.mp e]; exact Nat.lt_of_lt_of_le la (Nat.le_add_right _ _))) (fun c hcm => up c (by
            rcases List.mem_cons.mp hcm with e | e
            · rw [e]; exact Nat.add_lt_add_left (by decide) _
            · rw [List.mem_singleton.mp e]; exact Nat.lt_of_lt_of_le lb (Nat.le_add_right _ _))) (by rw [lx, sizeLine_eq]; omega) hTI hTO hz ⟨⟨_, e1, rfl, rfl⟩, (show s1.heap.IsTuple a its.toArray from p1).at fun o q => hk a o q⟩ ⟨⟨_, e2, rfl, rfl⟩, p2.isList.at fun o q => hk b o q⟩
          fun h'' tk acc' c' sz nd it hD hk' => ?_
        obtain ⟨rows, q1, q2, q3, q4, q5⟩ := rows_of rv rv2 (by rw [lx, ly, l1]) sz nd it
        have gd : s1.heap.objs.size < h'.objs.size := by rw [hsz]; exact Nat.lt_add_of_pos_right (by decide)
        have nz : ∀ b : Nat, s1.heap.objs.size ≤ b → s1.heap.get? b = none := fun b q => by
          cases e : s1.heap.get? b with
          | none => rfl
          | some o => exact absurd (Heap.lt_size e) (Nat.not_lt.mpr q)
        have kp : ∀ b o, s1.heap.get? b = some o → h''.get? b = some o := fun b o e => by
          have q := Heap.lt_size e
          exact hk' b o (Nat.ne_of_lt (Nat.lt_of_lt_of_le q (Nat.le_add_right _ _))) (Nat.ne_of_lt (Nat.lt_of_lt_of_le q (Nat.le_add_right _ _))) (Nat.ne_of_lt q) (Nat.ne_of_lt (Nat.lt_of_lt_of_le q (Nat.le_add_right _ _))) (hk b o e)
        obtain ⟨Hf', H', G, tkG, I2, k3, k4, k5, st', m', hf'⟩ := lay_tups (K := X.K) rows s1 Hf2 H1 I1 ex m2 q4 (fun r hr => by
          obtain ⟨z1, z2⟩ := q5 r hr
          have le : s1.heap.objs.size ≤ r.1 := Nat.le_of_lt (Nat.lt_trans gd z1)
          exact ⟨nz _ le, I1.hok.fresh le, z2⟩) kp
        have nD : h'.objs.size ∉ rows.map (·.1) := fun z => by
          obtain ⟨r, hr, e⟩ := List.mem_map.mp z
          have z1 := (q5 r hr).1
          rw [e] at z1
          exact Nat.lt_irrefl _ z1
        have hGD : G.get? h'.objs.size = none := k4 _ (nz _ (Nat.le_of_lt gd)) nD
        have hHD : H' h'.objs.size = none := k5 _ (I1.hok.fresh (Nat.le_of_lt gd)) nD
        have ea : acc' = (rows.map fun r => Value.ref r.1).toArray := by rw [← q1, Array.toArray_toList]
        have hlen : rows.length = xv.length := by rw [← q2, List.length_map]
        have new : ObjOk X.prog X.w (upd H' h'.objs.size (.lst (rows.map fun r => V.ref r.1))) h'' h'.objs.size (.lst (rows.map fun r => V.ref r.1)) :=
          ⟨by rw [List.length_map, hlen, lx, sizeLine_eq]; omega, rows.map fun r => Value.ref r.1, c', vals_rows rows, by rw [← ea]; exact hD⟩
        have I3 := I2.laidN (t' := tk) k3 hGD hHD new
        exact ⟨.ref h'.objs.size, _, I3, rfl, k _ _ (st'.trans (Stp.new st'.fh hHD)) (m'.new hHD st'.fh) _ ⟨h'.objs.size, _, rfl, upd_same, AtL.mono (Ex.new (fresh_back st'.fh hHD)) _ _ (at_rows rows xs ys (by rw [q2]; exact AtL.mono st'.ff _ _ ha2) (by rw [q3]; exact AtL.mono st'.ff _ _ hb2) hf')⟩⟩
end
end Mini

set_option maxRecDepth 100000
set_option maxHeartbeats 4000000
namespace Mini
open PySem PySem.Spec PyProof.Rows L2 LamX
/-- a def called from the caller of laws, by its body there -/
theorem runC_of {CX : CXT} {P : Program} {w : World} {K : PySem.W.Frag} {mg : Str → Option Value} {base : Heap} {k : Nat} {f : Addr} {fd : FuncData} {x qual : Str} {st : Stmt} {N ps : List Str} {sp : Sp} (F : Fun K x qual st f fd) (S : FnScope N ps (defScope st)) (hr : Room (k + 1) callerA)
    (len : ∀ vs H Q E, sp vs H Q E → vs.length = ps.length)
    (hbody : ∀ (cdv : Value) (outer : List Env) (s : Shared) (H : Hp) (vs : List V) (Q : VK) (E : XK), Room k (callerA.deeper (envOfC qual (defScope st) s.heap.objs.size f cdv)) → sp vs H Q E →
      ∃ t, PSs (cxOf CX P w K mg base N qual (defScope st) f cdv callerA outer s H E) (defBody st) t ∧ t { nx := fun _ H' => Q .non H', rt := Q } (start N vs) H) :
    RunC P w K mg base CX f fd ps sp := by
  obtain ⟨oc, od, kV, doc, pm, an, cdv, ct, osl, rfl, lk, hcd⟩ := F.ex
  refine ⟨fun outer s H args us vs Q E e0 hb r hsp => ?_⟩
  have hl := len _ _ _ _ hsp
  have KX : K.In s.heap := e0.mod.kin.keeps fun b o e => (e0.bs b o e).1
  have lim : s.heap.NoLimit := e0.mod.nolimit.keeps fun b o e => (e0.bs b o e).1
  have hkind : ∀ y ∈ ps.zip us, (defScope st).names.lookup y.1 = some .local ∨ ((defScope st).names.lookup y.1 = some .cell ∧ ((cellsFrom (s.heap.objs.size + 1) (defScope st).names []).lookup y.1).isSome = true) := fun ⟨n, v⟩ hy => by
    rcases S.par n (List.of_mem_zip hy).1 with q | q
    · exact .inl q
    · exact .inr ⟨q, PySem.W.cellsFrom_some _ _ _ (.inl q)⟩
  refine codeAny_call_function hr.depth (KX _ _ lk) rfl S.co S.gen rfl (PySem.W.codeRec_of KX hcd) (hb _ _ _ _ ?_)
  refine wpAny_newFunctionEnv_cells S.kind hkind fun env he s1 x => ?_
  subst he
  refine ⟨lim.keeps x.toInCall.keep, codeAny_func ?_⟩
  obtain ⟨t, ht, hq⟩ := hbody cdv outer s H vs Q E (hr.deeper _) hsp
  have I : L2.Inv (cxOf CX P w K mg base N qual (defScope st) f cdv callerA outer s H E) [] (start N vs) H s1 := inv_start S hr.hd e0 hl r x
  refine wpAny_mono (ht.run [] s1 (start N vs) H _ I hq) (fun fl s' hs => ?_) fun e s' hs => hs
  have fin : ∀ {σ' : L2.St} {H' : Hp} {v : V} {u : Value}, L2.Inv (cxOf CX P w K mg base N qual (defScope st) f cdv callerA outer s H E) [] σ' H' s' → RelV v u → Q v H' → CE outer P w H s Q u s' :=
    fun {σ' H' v u} J rv q => ⟨v, H', J.os, J.bare, J.base, J.hok, rv, q⟩
  cases fl with
  | ret u =>
    obtain ⟨v, σ', H', J, rv, q⟩ := hs
    exact fin J rv q
  | next =>
    obtain ⟨σ', H', J, q⟩ := hs
    exact fin (v := V.non) (u := Value.none) J rfl q
  | brk =>
    obtain ⟨_, _, _, q⟩ := hs
    exact False.elim q
  | cont =>
    obtain ⟨_, _, _, q⟩ := hs
    exact False.elim q
end Mini

set_option maxRecDepth 100000
namespace Mini
open PySem L2 Evl
def tab_ORDER : List (Str × Int) := [((Str.ofString "ring"), 0), ((Str.ofString "whole"), 1), ((Str.ofString "fraction"), 2), ((Str.ofString "tower"), 3)]
def cFv (c : Nat) : Str := [(Str.ofString "value"), (Str.ofString "value"), (Str.ofString "value"), (Str.ofString "value"), (Str.ofString "most")].getD c (Str.ofString "")
def f_is_number : Fn := ⟨3, 3, (.ret (.and (.isi .int (.var 0)) (.and (.not (.isi .bool (.var 0))) (.chain .le .le (.var 1) (.var 0) (.var 2)))))⟩
def f_is_prime : Fn := ⟨1, 2, (.seq (.ife (.not (.call 0 (.cons (.var 0) (.cons (.cst (PyData.int 2)) (.cons (.cst (PyData.int 1000)) .nil))))) (.ret (.cst (PyData.bool false))) .skip) (.ret (.blt .all (.cons (.lc [1] (.nm 1) (.rng2 (.cst (PyData.int 2)) (.var 0)) (.cmp .le (.bin .mul (.var 1) (.var 1)) (.var 0)) (.cmp .ne (.bin .mod (.var 0) (.var 1)) (.cst (PyData.int 0)))) .nil))))⟩
def f_is_kind : Fn := ⟨1, 1, (.seq (.ife (.or (.not (.isi .tuple (.var 0))) (.or (.cmp .eq (.blt .len (.cons (.var 0) .nil)) (.cst (PyData.int 0))) (.not (.isi .str (.ix (.var 0) (.cst (PyData.int 0))))))) (.ret (.cst (PyData.bool false))) .skip) (.seq (.ife (.cmp .inn (.ix (.var 0) (.cst (PyData.int 0))) (.tup (.cons (.cst (PyData.str (Str.ofString "whole"))) (.cons (.cst (PyData.str (Str.ofString "fraction"))) .nil)))) (.ret (.cmp .eq (.blt .len (.cons (.var 0) .nil)) (.cst (PyData.int 1)))) .skip) (.seq (.ife (.cmp .eq (.ix (.var 0) (.cst (PyData.int 0))) (.cst (PyData.str (Str.ofString "tower")))) (.ret (.and (.cmp .eq (.blt .len (.cons (.var 0) .nil)) (.cst (PyData.int 2))) (.call 1 (.cons (.ix (.var 0) (.cst (PyData.int 1))) .nil)))) .skip) (.seq (.ife (.or (.cmp .ne (.ix (.var 0) (.cst (PyData.int 0))) (.cst (PyData.str (Str.ofString "ring")))) (.or (.cmp .ne (.blt .len (.cons (.var 0) .nil)) (.cst (PyData.int 3))) (.or (.not (.call 1 (.cons (.ix (.var 0) (.cst (PyData.int 1))) .nil))) (.not (.call 0 (.cons (.ix (.var 0) (.cst (PyData.int 2))) (.cons (.cst (PyData.int 1)) (.cons (.cst (PyData.int 20)) .nil)))))))) (.ret (.cst (PyData.bool false))) .skip) (.ret (.cmp .le (.call 3 (.cons (.var 0) .nil)) (.cst (PyData.int 1000000))))))))⟩
def f_ring_size : Fn := ⟨1, 3, (.seq (.asg (.nm 1) (.cst (PyData.int 1))) (.seq (.forr (.nm 2) (.rng1 (.ix (.var 0) (.cst (PyData.int 2)))) (.asg (.nm 1) (.bin .mul (.var 1) (.ix (.var 0) (.cst (PyData.int 1)))))) (.ret (.var 1))))⟩
def f_kind_order : Fn := ⟨1, 1, (.ret (.bin .add (.lst (.cons (.gix tab_ORDER (.ix (.var 0) (.cst (PyData.int 0)))) .nil)) (.blt .list (.cons (.sl (.var 0) (.so (.cst (PyData.int 1))) .no) .nil))))⟩
def f_are_copies : Fn := ⟨1, 1, (.ret (.or (.and (.isi .str (.var 0)) (.cmp .eq (.var 0) (.cst (PyData.str (Str.ofString "many"))))) (.call 0 (.cons (.var 0) (.cons (.cst (PyData.int 1)) (.cons (.cst (PyData.int 1000)) .nil))))))⟩
def f_is_group : Fn := ⟨1, 6, (.seq (.ife (.or (.not (.isi .tuple (.var 0))) (.cmp .gt (.blt .len (.cons (.var 0) .nil)) (.cst (PyData.int 12)))) (.ret (.cst (PyData.bool false))) .skip) (.seq (.forr (.nm 1) (.seqT (.var 0)) (.ife (.or (.not (.isi .tuple (.var 1))) (.or (.cmp .ne (.blt .len (.cons (.var 1) .nil)) (.cst (PyData.int 2))) (.or (.not (.call 2 (.cons (.ix (.var 1) (.cst (PyData.int 0))) .nil))) (.not (.call 5 (.cons (.ix (.var 1) (.cst (PyData.int 1))) .nil)))))) (.ret (.cst (PyData.bool false))) .skip)) (.seq (.asg (.nm 2) (.lc [3, 4] (.tp [3, 4]) (.seqT (.var 0)) (.cst (.bool true)) (.call 4 (.cons (.var 3) .nil)))) (.ret (.blt .all (.cons (.lc [5] (.nm 5) (.rng1 (.bin .sub (.blt .len (.cons (.var 2) .nil)) (.cst (PyData.int 1)))) (.cst (.bool true)) (.cmp .lt (.ix (.var 2) (.var 5)) (.ix (.var 2) (.bin .add (.var 5) (.cst (PyData.int 1)))))) .nil))))))⟩
def f_need_group : Fn := ⟨1, 1, (.ife (.not (.call 6 (.cons (.var 0) .nil))) (.raise 0 (.var 0)) .skip)⟩
def f_raised : Fn := ⟨2, 4, (.seq (.asg (.nm 2) (.cst (PyData.int 1))) (.seq (.asg (.nm 3) (.var 0)) (.seq (.whl (.cmp .gt (.var 1) (.cst (PyData.int 0))) (.seq (.ife (.cmp .eq (.bin .mod (.var 1) (.cst (PyData.int 2))) (.cst (PyData.int 1))) (.asg (.nm 2) (.bin .mul (.var 2) (.var 3))) .skip) (.seq (.asg (.nm 1) (.bin .fdiv (.var 1) (.cst (PyData.int 2)))) (.ife (.cmp .gt (.var 1) (.cst (PyData.int 0))) (.asg (.nm 3) (.bin .mul (.var 3) (.var 3))) .skip)))) (.ret (.var 2)))))⟩
def f_size_here : Fn := ⟨1, 4, (.seq (.asg (.nm 1) (.cst (PyData.int 1))) (.seq (.forr (.tp [2, 3]) (.seqT (.var 0)) (.seq (.ife (.or (.cmp .ne (.ix (.var 2) (.cst (PyData.int 0))) (.cst (PyData.str (Str.ofString "ring")))) (.cmp .eq (.var 3) (.cst (PyData.str (Str.ofString "many"))))) (.ret (.cst (PyData.str (Str.ofString "many")))) .skip) (.asg (.nm 1) (.bin .mul (.var 1) (.call 8 (.cons (.call 3 (.cons (.var 2) .nil)) (.cons (.var 3) .nil))))))) (.ret (.var 1))))⟩
def f_sum_of_groups : Fn := ⟨2, 7, (.seq (.expr (.call 7 (.cons (.var 0) .nil))) (.seq (.expr (.call 7 (.cons (.var 1) .nil))) (.seq (.newD 2) (.seq (.forr (.tp [3, 4]) (.seqT (.bin .add (.var 0) (.var 1))) (.seq (.asg (.nm 6) (.dget 2 (.var 3) (.cst (PyData.int 0)))) (.dset 2 (.var 3) (.ifx (.cmp .inn (.cst (PyData.str (Str.ofString "many"))) (.tup (.cons (.var 6) (.cons (.var 4) .nil)))) (.cst (PyData.str (Str.ofString "many"))) (.bin .add (.var 6) (.var 4)))))) (.seq (.asg (.nm 5) (.blt .tuple (.cons (.sortL (.lockd 2 (.lc [3] (.nm 3) (.dkeys 2) (.cst (.bool true)) (.tup (.cons (.var 3) (.cons (.dix 2 (.var 3)) .nil))))) 4) .nil))) (.seq (.expr (.call 7 (.cons (.var 5) .nil))) (.ret (.var 5))))))))⟩
def f_is_power : Fn := ⟨2, 2, (.seq (.whl (.cmp .eq (.bin .mod (.var 0) (.var 1)) (.cst (PyData.int 0))) (.asg (.nm 0) (.bin .fdiv (.var 0) (.var 1)))) (.ret (.cmp .eq (.var 0) (.cst (PyData.int 1)))))⟩
def f_is_fraction : Fn := ⟨1, 1, (.seq (.ife (.or (.not (.isi .tuple (.var 0))) (.cmp .ne (.blt .len (.cons (.var 0) .nil)) (.cst (PyData.int 2)))) (.ret (.cst (PyData.bool false))) .skip) (.seq (.ife (.or (.not (.call 0 (.cons (.ix (.var 0) (.cst (PyData.int 0))) (.cons (.neg (.cst (PyData.int 1000000000000000000))) (.cons (.cst (PyData.int 1000000000000000000)) .nil))))) (.not (.call 0 (.cons (.ix (.var 0) (.cst (PyData.int 1))) (.cons (.cst (PyData.int 1)) (.cons (.cst (PyData.int 1000000000000000000)) .nil)))))) (.ret (.cst (PyData.bool false))) .skip) (.ret (.cmp .eq (.blt .gcd (.cons (.ix (.var 0) (.cst (PyData.int 0))) (.cons (.ix (.var 0) (.cst (PyData.int 1))) .nil))) (.cst (PyData.int 1))))))⟩
def f_is_place : Fn := ⟨2, 2, (.seq (.ife (.cmp .eq (.ix (.var 0) (.cst (PyData.int 0))) (.cst (PyData.str (Str.ofString "ring")))) (.ret (.call 0 (.cons (.var 1) (.cons (.cst (PyData.int 0)) (.cons (.bin .sub (.call 3 (.cons (.var 0) .nil)) (.cst (PyData.int 1))) .nil))))) .skip) (.seq (.ife (.cmp .eq (.ix (.var 0) (.cst (PyData.int 0))) (.cst (PyData.str (Str.ofString "whole")))) (.ret (.call 0 (.cons (.var 1) (.cons (.neg (.cst (PyData.int 1000000000000000000))) (.cons (.cst (PyData.int 1000000000000000000)) .nil))))) .skip) (.seq (.ife (.not (.call 12 (.cons (.var 1) .nil))) (.ret (.cst (PyData.bool false))) .skip) (.ret (.or (.cmp .eq (.ix (.var 0) (.cst (PyData.int 0))) (.cst (PyData.str (Str.ofString "fraction")))) (.and (.chain .le .lt (.cst (PyData.int 0)) (.ix (.var 1) (.cst (PyData.int 0))) (.ix (.var 1) (.cst (PyData.int 1)))) (.call 11 (.cons (.ix (.var 1) (.cst (PyData.int 1))) (.cons (.ix (.var 0) (.cst (PyData.int 1))) .nil)))))))))⟩
def f_zero_place : Fn := ⟨1, 1, (.ret (.ifx (.cmp .inn (.ix (.var 0) (.cst (PyData.int 0))) (.tup (.cons (.cst (PyData.str (Str.ofString "ring"))) (.cons (.cst (PyData.str (Str.ofString "whole"))) .nil)))) (.cst (PyData.int 0)) (.tup (.cons (.cst (PyData.int 0)) (.cons (.cst (PyData.int 1)) .nil)))))⟩
def f_are_places : Fn := ⟨2, 6, (.seq (.asg (.tp [2, 3]) (.var 0)) (.seq (.ife (.or (.not (.isi .tuple (.var 1))) (.not (.blt .all (.cons (.lc [5] (.nm 5) (.seqT (.var 1)) (.cst (.bool true)) (.call 13 (.cons (.var 2) (.cons (.var 5) .nil)))) .nil)))) (.ret (.cst (PyData.bool false))) .skip) (.seq (.asg (.nm 4) (.ifx (.cmp .eq (.var 3) (.cst (PyData.str (Str.ofString "many")))) (.cst (PyData.int 1000)) (.var 3))) (.ret (.and (.cmp .le (.blt .len (.cons (.var 1) .nil)) (.var 4)) (.or (.cmp .eq (.blt .len (.cons (.var 1) .nil)) (.cst (PyData.int 0))) (.cmp .ne (.ix (.var 1) (.neg (.cst (PyData.int 1)))) (.call 14 (.cons (.var 2) .nil)))))))))⟩
def f_is_element : Fn := ⟨2, 4, (.seq (.ife (.or (.not (.isi .tuple (.var 1))) (.cmp .ne (.blt .len (.cons (.var 1) .nil)) (.blt .len (.cons (.var 0) .nil)))) (.ret (.cst (PyData.bool false))) .skip) (.ret (.blt .all (.cons (.lc [2, 3] (.tp [2, 3]) (.zipT (.var 0) (.var 1)) (.cst (.bool true)) (.call 15 (.cons (.var 2) (.cons (.var 3) .nil)))) .nil))))⟩
def f_need_element : Fn := ⟨2, 2, (.seq (.expr (.call 7 (.cons (.var 0) .nil))) (.ife (.not (.call 16 (.cons (.var 0) (.cons (.var 1) .nil)))) (.raise 1 (.var 1)) .skip))⟩
def f_trimmed : Fn := ⟨2, 3, (.seq (.newLl 2 (.var 1)) (.seq (.whl (.pk [2] (.and (.cmp .gt (.blt .len (.cons (.var 2) .nil)) (.cst (PyData.int 0))) (.cmp .eq (.ix (.var 2) (.neg (.cst (PyData.int 1)))) (.call 14 (.cons (.ix (.var 0) (.cst (PyData.int 0))) .nil))))) (.pop 2)) (.seq (.frz 2) (.ret (.blt .tuple (.cons (.var 2) .nil))))))⟩
def f_lowest : Fn := ⟨2, 3, (.seq (.asg (.nm 2) (.blt .gcd (.cons (.var 0) (.cons (.var 1) .nil)))) (.ret (.tup (.cons (.bin .fdiv (.var 0) (.var 2)) (.cons (.bin .fdiv (.var 1) (.var 2)) .nil)))))⟩
def f_place_of : Fn := ⟨3, 5, (.seq (.ife (.cmp .eq (.ix (.var 0) (.cst (PyData.int 0))) (.cst (PyData.str (Str.ofString "ring")))) (.ret (.bin .mod (.bin .mul (.var 1) (.var 2)) (.call 3 (.cons (.var 0) .nil)))) .skip) (.seq (.ife (.cmp .eq (.ix (.var 0) (.cst (PyData.int 0))) (.cst (PyData.str (Str.ofString "whole")))) (.ret (.bin .mul (.var 1) (.var 2))) .skip) (.seq (.asg (.tp [3, 4]) (.call 19 (.cons (.bin .mul (.var 1) (.ix (.var 2) (.cst (PyData.int 0)))) (.cons (.ix (.var 2) (.cst (PyData.int 1))) .nil)))) (.ret (.ifx (.cmp .eq (.ix (.var 0) (.cst (PyData.int 0))) (.cst (PyData.str (Str.ofString "tower")))) (.tup (.cons (.bin .mod (.var 3) (.var 4)) (.cons (.var 4) .nil))) (.tup (.cons (.var 3) (.cons (.var 4) .nil))))))))⟩
def f_times_here : Fn := ⟨3, 7, (.seq (.newL 3) (.seq (.forr (.tp [4, 5]) (.zipT (.var 0) (.var 2)) (.app 3 (.call 18 (.cons (.var 4) (.cons (.lc [6] (.nm 6) (.seqT (.var 5)) (.cst (.bool true)) (.call 20 (.cons (.ix (.var 4) (.cst (PyData.int 0))) (.cons (.var 1) (.cons (.var 6) .nil))))) .nil))))) (.seq (.frz 3) (.ret (.blt .tuple (.cons (.var 3) .nil))))))⟩
def f_power_in : Fn := ⟨3, 4, (.seq (.ife (.cmp .eq (.var 0) (.cst (PyData.int 0))) (.ret (.var 2)) .skip) (.seq (.asg (.nm 3) (.cst (PyData.int 0))) (.seq (.whl (.and (.cmp .lt (.var 3) (.var 2)) (.cmp .eq (.bin .mod (.var 0) (.var 1)) (.cst (PyData.int 0)))) (.seq (.asg (.nm 0) (.bin .fdiv (.var 0) (.var 1))) (.asg (.nm 3) (.bin .add (.var 3) (.cst (PyData.int 1)))))) (.ret (.var 3)))))⟩
def f_place_parts : Fn := ⟨3, 3, (.seq (.ife (.cmp .eq (.var 1) (.cst (PyData.int 0))) (.ret (.cmp .eq (.var 2) (.call 14 (.cons (.var 0) .nil)))) .skip) (.seq (.ife (.cmp .eq (.ix (.var 0) (.cst (PyData.int 0))) (.cst (PyData.str (Str.ofString "ring")))) (.ret (.cmp .eq (.bin .mod (.var 2) (.call 8 (.cons (.ix (.var 0) (.cst (PyData.int 1))) (.cons (.call 22 (.cons (.var 1) (.cons (.ix (.var 0) (.cst (PyData.int 1))) (.cons (.ix (.var 0) (.cst (PyData.int 2))) .nil)))) .nil)))) (.cst (PyData.int 0)))) .skip) (.ret (.or (.cmp .ne (.ix (.var 0) (.cst (PyData.int 0))) (.cst (PyData.str (Str.ofString "whole")))) (.cmp .eq (.bin .mod (.var 2) (.var 1)) (.cst (PyData.int 0)))))))⟩
def f_parts_here : Fn := ⟨3, 6, (.seq (.forr (.tp [3, 4]) (.zipT (.var 0) (.var 2)) (.ife (.not (.blt .all (.cons (.lc [5] (.nm 5) (.seqT (.var 4)) (.cst (.bool true)) (.call 23 (.cons (.ix (.var 3) (.cst (PyData.int 0))) (.cons (.var 1) (.cons (.var 5) .nil))))) .nil))) (.ret (.cst (PyData.bool false))) .skip)) (.ret (.cst (PyData.bool true))))⟩
def f_many_times : Fn := ⟨3, 3, (.seq (.expr (.call 7 (.cons (.var 0) .nil))) (.seq (.ife (.not (.call 0 (.cons (.var 1) (.cons (.neg (.cst (PyData.int 1000000000000000000))) (.cons (.cst (PyData.int 1000000000000000000)) .nil))))) (.raise 3 (.var 1)) .skip) (.seq (.expr (.call 17 (.cons (.var 0) (.cons (.var 2) .nil)))) (.ret (.call 21 (.cons (.var 0) (.cons (.var 1) (.cons (.var 2) .nil))))))))⟩
def f_divides : Fn := ⟨3, 3, (.seq (.expr (.call 7 (.cons (.var 0) .nil))) (.seq (.ife (.not (.call 0 (.cons (.var 1) (.cons (.cst (PyData.int 0)) (.cons (.cst (PyData.int 1000000000000)) .nil))))) (.raise 3 (.var 1)) .skip) (.seq (.expr (.call 17 (.cons (.var 0) (.cons (.var 2) .nil)))) (.ret (.call 24 (.cons (.var 0) (.cons (.var 1) (.cons (.var 2) .nil))))))))⟩
def f_longer_by : Fn := ⟨2, 9, (.seq (.asg (.tp [2, 3]) (.var 1)) (.seq (.asg (.nm 4) (.lst (.cons (.tup .nil) .nil))) (.seq (.forr (.nm 5) (.rng1 (.var 3)) (.asg (.nm 4) (.lc2 [7, 8] [8] (.nm 7) (.seqL (.var 4)) (.cst (.bool true)) (.nm 8) (.rng1 (.call 3 (.cons (.var 2) .nil))) (.cst (.bool true)) (.bin .add (.var 7) (.tup (.cons (.var 8) .nil)))))) (.ret (.lc2 [6, 7] [7] (.nm 6) (.seqL (.var 0)) (.cst (.bool true)) (.nm 7) (.seqL (.var 4)) (.cst (.bool true)) (.bin .add (.var 6) (.tup (.cons (.call 18 (.cons (.var 1) (.cons (.var 7) .nil))) .nil))))))))⟩
def f_all_elements : Fn := ⟨1, 4, (.seq (.expr (.call 7 (.cons (.var 0) .nil))) (.seq (.asg (.nm 1) (.call 9 (.cons (.var 0) .nil))) (.seq (.ife (.or (.cmp .eq (.var 1) (.cst (PyData.str (Str.ofString "many")))) (.cmp .gt (.var 1) (.cst (PyData.int 100000)))) (.raise 4 (.cst (PyData.int 100000))) .skip) (.seq (.asg (.nm 2) (.lst (.cons (.tup .nil) .nil))) (.seq (.forr (.nm 3) (.seqT (.var 0)) (.asg (.nm 2) (.call 27 (.cons (.var 2) (.cons (.var 3) .nil))))) (.ret (.blt .tuple (.cons (.var 2) .nil))))))))⟩
def f_is_shape : Fn := ⟨1, 2, (.seq (.ife (.not (.isi .tuple (.var 0))) (.ret (.cst (PyData.bool false))) .skip) (.seq (.forr (.nm 1) (.seqT (.var 0)) (.seq (.ife (.or (.not (.isi .tuple (.var 1))) (.or (.cmp .ne (.blt .len (.cons (.var 1) .nil)) (.cst (PyData.int 2))) (.not (.call 0 (.cons (.ix (.var 1) (.cst (PyData.int 0))) (.cons (.cst (PyData.int 0)) (.cons (.cst (PyData.int 1000000000000)) .nil))))))) (.ret (.cst (PyData.bool false))) .skip) (.ife (.not (.call 0 (.cons (.ix (.var 1) (.cst (PyData.int 1))) (.cons (.neg (.cst (PyData.int 1000000000000))) (.cons (.cst (PyData.int 1000000000000)) .nil))))) (.ret (.cst (PyData.bool false))) .skip))) (.ret (.cst (PyData.bool true)))))⟩
def f_need_shape : Fn := ⟨1, 1, (.ife (.not (.call 29 (.cons (.var 0) .nil))) (.raise 2 (.var 0)) .skip)⟩
def f_ring_step : Fn := ⟨2, 5, (.seq (.asg (.nm 2) (.cst (PyData.int 0))) (.seq (.forr (.tp [3, 4]) (.seqT (.var 1)) (.ife (.cmp .ne (.var 4) (.cst (PyData.int 0))) (.asg (.nm 2) (.blt .max2 (.cons (.var 2) (.cons (.bin .sub (.call 22 (.cons (.var 3) (.cons (.ix (.var 0) (.cst (PyData.int 1))) (.cons (.ix (.var 0) (.cst (PyData.int 2))) .nil)))) (.call 22 (.cons (.var 4) (.cons (.ix (.var 0) (.cst (PyData.int 1))) (.cons (.ix (.var 0) (.cst (PyData.int 2))) .nil))))) .nil)))) .skip)) (.ret (.var 2))))⟩
def f_whole_step : Fn := ⟨1, 5, (.seq (.asg (.nm 1) (.cst (PyData.int 1))) (.seq (.forr (.tp [2, 3]) (.seqT (.var 0)) (.ife (.cmp .ne (.var 3) (.cst (PyData.int 0))) (.seq (.asg (.nm 4) (.bin .fdiv (.var 2) (.blt .gcd (.cons (.var 2) (.cons (.var 3) .nil))))) (.asg (.nm 1) (.ifx (.or (.cmp .eq (.var 4) (.cst (PyData.int 0))) (.cmp .eq (.var 1) (.cst (PyData.int 0)))) (.cst (PyData.int 0)) (.bin .fdiv (.bin .mul (.var 1) (.var 4)) (.blt .gcd (.cons (.var 1) (.cons (.var 4) .nil))))))) .skip)) (.ret (.var 1))))⟩
def f_is_cut : Fn := ⟨1, 3, (.ret (.blt .any (.cons (.lc [1, 2] (.tp [1, 2]) (.seqT (.var 0)) (.cst (.bool true)) (.and (.cmp .eq (.var 1) (.cst (PyData.int 0))) (.cmp .ne (.var 2) (.cst (PyData.int 0))))) .nil)))⟩
def f_tower_step : Fn := ⟨2, 6, (.seq (.asg (.nm 2) (.cst PyData.none)) (.seq (.forr (.tp [3, 4]) (.seqT (.var 1)) (.ife (.and (.cmp .eq (.var 3) (.cst (PyData.int 0))) (.cmp .ne (.var 4) (.cst (PyData.int 0)))) (.seq (.asg (.nm 5) (.cst (PyData.int 0))) (.seq (.whl (.cmp .eq (.bin .mod (.var 4) (.var 0)) (.cst (PyData.int 0))) (.seq (.asg (.nm 4) (.bin .fdiv (.var 4) (.var 0))) (.asg (.nm 5) (.bin .add (.var 5) (.cst (PyData.int 1)))))) (.asg (.nm 2) (.ifx (.cmp .is (.var 2) (.cst PyData.none)) (.var 5) (.blt .min2 (.cons (.var 2) (.cons (.var 5) .nil))))))) .skip)) (.ret (.var 2))))⟩
def f_index_in : Fn := ⟨3, 6, (.seq (.asg (.nm 3) (.bin .add (.var 1) (.var 2))) (.seq (.ife (.cmp .eq (.ix (.var 0) (.cst (PyData.int 0))) (.cst (PyData.str (Str.ofString "ring")))) (.ret (.call 8 (.cons (.ix (.var 0) (.cst (PyData.int 1))) (.cons (.bin .sub (.call 31 (.cons (.var 0) (.cons (.var 3) .nil))) (.call 31 (.cons (.var 0) (.cons (.var 1) .nil)))) .nil)))) .skip) (.seq (.ife (.cmp .eq (.ix (.var 0) (.cst (PyData.int 0))) (.cst (PyData.str (Str.ofString "whole")))) (.seq (.asg (.tp [4, 5]) (.tup (.cons (.call 32 (.cons (.var 1) .nil)) (.cons (.call 32 (.cons (.var 3) .nil)) .nil)))) (.seq (.ife (.cmp .eq (.var 4) (.cst (PyData.int 0))) (.ret (.cst (PyData.int 1))) .skip) (.ret (.ifx (.cmp .eq (.var 5) (.cst (PyData.int 0))) (.cst (PyData.str (Str.ofString "many"))) (.bin .fdiv (.var 5) (.var 4)))))) .skip) (.seq (.ife (.cmp .eq (.ix (.var 0) (.cst (PyData.int 0))) (.cst (PyData.str (Str.ofString "fraction")))) (.ret (.ifx (.and (.call 33 (.cons (.var 3) .nil)) (.not (.call 33 (.cons (.var 1) .nil)))) (.cst (PyData.str (Str.ofString "many"))) (.cst (PyData.int 1)))) .skip) (.seq (.asg (.tp [4, 5]) (.tup (.cons (.call 34 (.cons (.ix (.var 0) (.cst (PyData.int 1))) (.cons (.var 1) .nil))) (.cons (.call 34 (.cons (.ix (.var 0) (.cst (PyData.int 1))) (.cons (.var 3) .nil))) .nil)))) (.seq (.ife (.cmp .is (.var 4) (.cst PyData.none)) (.ret (.ifx (.cmp .is (.var 5) (.cst PyData.none)) (.cst (PyData.int 1)) (.cst (PyData.str (Str.ofString "many"))))) .skip) (.ret (.call 8 (.cons (.ix (.var 0) (.cst (PyData.int 1))) (.cons (.bin .sub (.var 4) (.var 5)) .nil))))))))))⟩
def f_index_here : Fn := ⟨3, 7, (.seq (.asg (.nm 3) (.cst (PyData.int 1))) (.seq (.forr (.tp [4, 5]) (.seqT (.var 0)) (.seq (.asg (.nm 6) (.call 35 (.cons (.var 4) (.cons (.var 1) (.cons (.var 2) .nil))))) (.seq (.ife (.or (.cmp .eq (.var 6) (.cst (PyData.str (Str.ofString "many")))) (.and (.cmp .eq (.var 5) (.cst (PyData.str (Str.ofString "many")))) (.cmp .ne (.var 6) (.cst (PyData.int 1))))) (.ret (.cst (PyData.str (Str.ofString "many")))) .skip) (.ife (.cmp .ne (.var 6) (.cst (PyData.int 1))) (.asg (.nm 3) (.bin .mul (.var 3) (.call 8 (.cons (.var 6) (.cons (.var 5) .nil))))) .skip)))) (.ret (.var 3))))⟩
def f_index_of : Fn := ⟨3, 3, (.seq (.expr (.call 7 (.cons (.var 0) .nil))) (.seq (.expr (.call 30 (.cons (.var 1) .nil))) (.seq (.expr (.call 30 (.cons (.var 2) .nil))) (.ret (.call 36 (.cons (.var 0) (.cons (.var 1) (.cons (.var 2) .nil))))))))⟩
def f_law_next : Fn := ⟨2, 7, (.seq (.whl (.and (.cmp .ne (.mget (.var 0) (Str.ofString "left")) (.lst .nil)) (.cmp .eq (.ix (.mget (.var 0) (Str.ofString "left")) (.cst (PyData.int 0))) (.cst (PyData.int 0)))) (.mset (.var 0) (Str.ofString "left") (.sl (.mget (.var 0) (Str.ofString "left")) (.so (.cst (PyData.int 1))) .no))) (.seq (.ife (.cmp .ne (.mget (.var 0) (Str.ofString "left")) (.lst .nil)) (.seq (.asg (.nm 6) (.ix (.mget (.var 0) (Str.ofString "left")) (.cst (PyData.int 0)))) (.seq (.mset (.var 0) (Str.ofString "left") (.bin .add (.lst (.cons (.bin .fdiv (.var 6) (.var 1)) .nil)) (.sl (.mget (.var 0) (Str.ofString "left")) (.so (.cst (PyData.int 1))) .no))) (.ret (.bin .mod (.blt .int (.cons (.var 6) .nil)) (.var 1))))) .skip) (.seq (.asg (.tp [2, 3]) (.tup (.cons (.mget (.var 0) (Str.ofString "at")) (.cons (.mget (.var 0) (Str.ofString "cells")) .nil)))) (.seq (.mset (.var 0) (Str.ofString "at") (.bin .add (.var 2) (.cst (PyData.int 1)))) (.seq (.asg (.nm 4) (.ifx (.cmp .ne (.var 3) (.lst .nil)) (.ix (.var 3) (.bin .mod (.var 2) (.blt .len (.cons (.var 3) .nil)))) (.cst (PyData.int 0)))) (.seq (.asg (.nm 5) (.bin .mul (.bin .mod (.blt .int (.cons (.var 4) .nil)) (.cst (PyData.int 2147483629))) (.bin .add (.bin .mul (.cst (PyData.int 2)) (.var 2)) (.cst (PyData.int 7))))) (.seq (.asg (.nm 5) (.bin .mod (.blt .int (.cons (.bin .add (.bin .add (.bin .add (.var 5) (.bin .mul (.bin .mul (.cst (PyData.int 7541)) (.var 2)) (.var 2))) (.bin .mul (.cst (PyData.int 87911)) (.var 2))) (.cst (PyData.int 23))) .nil)) (.cst (PyData.int 2147483647)))) (.ret (.bin .mod (.bin .fdiv (.bin .mod (.bin .mul (.bin .mod (.blt .int (.cons (.bin .mul (.var 5) (.var 5)) .nil)) (.cst (PyData.int 2147483629))) (.cst (PyData.int 16807))) (.cst (PyData.int 2147483647))) (.cst (PyData.int 13))) (.var 1))))))))))⟩
def f_law_of : Fn := ⟨2, 2, (.ret (.ix (.var 1) (.call 39 (.cons (.var 0) (.cons (.blt .len (.cons (.var 1) .nil)) .nil)))))⟩
def f_law_like : Fn := ⟨2, 3, (.seq (.ife (.isi .tuple (.var 1)) (.ret (.and (.isi .tuple (.var 0)) (.and (.cmp .eq (.blt .len (.cons (.var 0) .nil)) (.blt .len (.cons (.var 1) .nil))) (.cmp .eq (.lc [2] (.nm 2) (.rng1 (.blt .len (.cons (.var 1) .nil))) (.not (.call 41 (.cons (.ix (.var 0) (.var 2)) (.cons (.ix (.var 1) (.var 2)) .nil)))) (.var 2)) (.lst .nil))))) .skip) (.seq (.ife (.cmp .is (.var 1) (.cst PyData.none)) (.ret (.cmp .is (.var 0) (.cst PyData.none))) .skip) (.seq (.ife (.isi .str (.var 1)) (.ret (.and (.isi .str (.var 0)) (.cmp .eq (.var 0) (.var 1)))) .skip) (.ret (.and (.isi .int (.var 0)) (.and (.cmp .eq (.isi .bool (.var 0)) (.isi .bool (.var 1))) (.cmp .eq (.var 0) (.var 1))))))))⟩
def f_law_power : Fn := ⟨2, 4, (.seq (.asg (.nm 2) (.cst (PyData.int 1))) (.seq (.forr (.nm 3) (.rng1 (.var 1)) (.asg (.nm 2) (.bin .mul (.var 2) (.var 0)))) (.ret (.var 2))))⟩
def f_law_group : Fn := ⟨2, 9, (.seq (.newDT 2 3 (.cst (PyData.int 1))) (.seq (.forr (.nm 4) (.rng1 (.call 39 (.cons (.var 0) (.cons (.cst (PyData.int 4)) .nil)))) (.seq (.asg (.nm 5) (.call 40 (.cons (.var 0) (.cons (.lst (.cons (.cst (PyData.int 2)) (.cons (.cst (PyData.int 2)) (.cons (.cst (PyData.int 2)) (.cons (.cst (PyData.int 3)) (.cons (.cst (PyData.int 3)) (.cons (.cst (PyData.int 5)) (.cons (.cst (PyData.int 7)) .nil)))))))) .nil)))) (.seq (.asg (.tp [6, 7]) (.tup (.cons (.bin .add (.cst (PyData.int 1)) (.call 39 (.cons (.var 0) (.cons (.cst (PyData.int 3)) .nil)))) (.cons (.bin .add (.cst (PyData.int 1)) (.call 39 (.cons (.var 0) (.cons (.cst (PyData.int 2)) .nil)))) .nil)))) (.seq (.asg (.nm 8) (.call 42 (.cons (.call 42 (.cons (.var 5) (.cons (.var 6) .nil))) (.cons (.var 7) .nil)))) (.ife (.cmp .le (.bin .mul (.var 3) (.var 8)) (.var 1)) (.seq (.dset 2 (.tup (.cons (.var 5) (.cons (.var 6) .nil))) (.bin .add (.dget 2 (.tup (.cons (.var 5) (.cons (.var 6) .nil))) (.cst (PyData.int 0))) (.var 7))) (.asg (.nm 3) (.bin .mul (.var 3) (.var 8)))) .skip))))) (.ret (.blt .tuple (.cons (.lc [5, 6] (.tp [5, 6]) (.seqL (.dsort 2)) (.cst (.bool true)) (.tup (.cons (.tup (.cons (.cst (PyData.str (Str.ofString "ring"))) (.cons (.var 5) (.cons (.var 6) .nil)))) (.cons (.dix 2 (.tup (.cons (.var 5) (.cons (.var 6) .nil)))) .nil)))) .nil)))))⟩
def f_law_moduli : Fn := ⟨1, 4, (.seq (.asg (.nm 1) (.lst .nil)) (.seq (.forr (.tp [2, 3]) (.seqT (.var 0)) (.asg (.nm 1) (.bin .add (.var 1) (.bin .mul (.lst (.cons (.call 42 (.cons (.ix (.var 2) (.cst (PyData.int 1))) (.cons (.ix (.var 2) (.cst (PyData.int 2))) .nil))) .nil)) (.var 3))))) (.ret (.var 1))))⟩
def f_law_rows : Fn := ⟨1, 6, (.seq (.asg (.nm 1) (.lst (.cons (.tup .nil) .nil))) (.seq (.forr (.nm 2) (.seqL (.var 0)) (.seq (.asg (.nm 3) (.lst .nil)) (.seq (.forr (.nm 4) (.seqL (.var 1)) (.asg (.nm 3) (.bin .add (.var 3) (.lc [5] (.nm 5) (.rng1 (.var 2)) (.cst (.bool true)) (.bin .add (.var 4) (.tup (.cons (.var 5) .nil))))))) (.asg (.nm 1) (.var 3))))) (.ret (.var 1))))⟩
def f_law_divides : Fn := ⟨3, 5, (.seq (.asg (.tp [3, 4]) (.tup (.cons (.var 0) (.cons (.var 1) .nil)))) (.seq (.whl (.cmp .ne (.var 4) (.cst (PyData.int 0))) (.asg (.tp [3, 4]) (.tup (.cons (.var 4) (.cons (.bin .mod (.var 3) (.var 4)) .nil))))) (.ret (.cmp .eq (.bin .mod (.var 2) (.var 3)) (.cst (PyData.int 0))))))⟩
def f_law_shape : Fn := ⟨1, 2, (.ret (.blt .tuple (.cons (.lc [1] (.nm 1) (.rng1 (.call 39 (.cons (.var 0) (.cons (.cst (PyData.int 4)) .nil)))) (.cst (.bool true)) (.tup (.cons (.call 40 (.cons (.var 0) (.cons (.lst (.cons (.cst (PyData.int 0)) (.cons (.cst (PyData.int 0)) (.cons (.cst (PyData.int 1)) (.cons (.cst (PyData.int 2)) (.cons (.cst (PyData.int 3)) (.cons (.cst (PyData.int 4)) (.cons (.cst (PyData.int 6)) (.cons (.cst (PyData.int 8)) (.cons (.cst (PyData.int 9)) .nil)))))))))) .nil))) (.cons (.call 40 (.cons (.var 0) (.cons (.lst (.cons (.cst (PyData.int 1)) (.cons (.cst (PyData.int 1)) (.cons (.neg (.cst (PyData.int 1))) (.cons (.cst (PyData.int 2)) (.cons (.cst (PyData.int 3)) (.cons (.cst (PyData.int 4)) (.cons (.cst (PyData.int 0)) (.cons (.cst (PyData.int 6)) (.cons (.cst (PyData.int 9)) .nil)))))))))) .nil))) .nil)))) .nil)))⟩
def f_law_in : Fn := ⟨3, 6, (.seq (.forr (.tp [3, 4]) (.seqT (.var 1)) (.ife (.cmp .ne (.lc [5] (.nm 5) (.rng1 (.blt .len (.cons (.var 0) .nil))) (.not (.call 46 (.cons (.var 3) (.cons (.ix (.var 0) (.var 5)) (.cons (.bin .mod (.bin .mul (.var 4) (.ix (.var 2) (.var 5))) (.ix (.var 0) (.var 5))) .nil))))) (.var 5)) (.lst .nil)) (.ret (.cst (PyData.bool false))) .skip)) (.ret (.cst (PyData.bool true))))⟩
def f_law_count : Fn := ⟨3, 6, (.seq (.asg (.nm 3) (.call 44 (.cons (.var 0) .nil))) (.seq (.asg (.nm 4) (.lc [5] (.nm 5) (.seqL (.call 45 (.cons (.var 3) .nil))) (.call 48 (.cons (.var 3) (.cons (.var 1) (.cons (.var 5) .nil)))) (.var 5))) (.ret (.bin .fdiv (.blt .len (.cons (.var 4) .nil)) (.blt .len (.cons (.lc [5] (.nm 5) (.seqL (.var 4)) (.call 48 (.cons (.var 3) (.cons (.var 2) (.cons (.var 5) .nil)))) (.var 5)) .nil))))))⟩
def f_law_common : Fn := ⟨2, 2, (.seq (.whl (.cmp .ne (.var 1) (.cst (PyData.int 0))) (.asg (.tp [0, 1]) (.tup (.cons (.var 1) (.cons (.bin .mod (.var 0) (.var 1)) .nil))))) (.ret (.blt .abs (.cons (.var 0) .nil))))⟩
def f_law_whole : Fn := ⟨1, 6, (.seq (.asg (.nm 1) (.lc [4, 5] (.tp [4, 5]) (.seqT (.var 0)) (.cmp .ne (.var 5) (.cst (PyData.int 0))) (.bin .fdiv (.var 4) (.call 50 (.cons (.var 4) (.cons (.var 5) .nil)))))) (.seq (.asg (.nm 2) (.cst (PyData.int 1))) (.seq (.forr (.nm 3) (.seqL (.var 1)) (.asg (.nm 2) (.ifx (.or (.cmp .eq (.var 3) (.cst (PyData.int 0))) (.cmp .eq (.var 2) (.cst (PyData.int 0)))) (.cst (PyData.int 0)) (.bin .fdiv (.bin .mul (.var 2) (.var 3)) (.call 50 (.cons (.var 2) (.cons (.var 3) .nil))))))) (.ret (.var 2)))))⟩
def f_law_torsion : Fn := ⟨2, 6, (.seq (.newL 2) (.seq (.forr (.tp [3, 4]) (.seqT (.var 1)) (.ife (.and (.cmp .eq (.var 3) (.cst (PyData.int 0))) (.cmp .ne (.var 4) (.cst (PyData.int 0)))) (.seq (.asg (.nm 5) (.cst (PyData.int 1))) (.seq (.whl (.cmp .eq (.bin .mod (.var 4) (.bin .mul (.var 5) (.var 0))) (.cst (PyData.int 0))) (.asg (.nm 5) (.bin .mul (.var 5) (.var 0)))) (.app 2 (.var 5)))) .skip)) (.seq (.frz 2) (.ret (.ifx (.cmp .ne (.var 2) (.lst .nil)) (.blt .min1 (.cons (.var 2) .nil)) (.cst PyData.none))))))⟩
def f_law_endless : Fn := ⟨3, 10, (.seq (.asg (.tp [3, 4]) (.tup (.cons (.call 51 (.cons (.var 1) .nil)) (.cons (.call 51 (.cons (.bin .add (.var 1) (.var 2)) .nil)) .nil)))) (.seq (.asg (.nm 5) (.ifx (.cmp .eq (.var 3) (.cst (PyData.int 0))) (.cst (PyData.int 1)) (.ifx (.cmp .eq (.var 4) (.cst (PyData.int 0))) (.cst (PyData.str (Str.ofString "many"))) (.bin .fdiv (.var 4) (.var 3))))) (.seq (.ife (.not (.call 41 (.cons (.call 37 (.cons (.tup (.cons (.tup (.cons (.tup (.cons (.cst (PyData.str (Str.ofString "whole"))) .nil)) (.cons (.cst (PyData.int 1)) .nil))) .nil)) (.cons (.var 1) (.cons (.var 2) .nil)))) (.cons (.var 5) .nil)))) (.ret (.cst (PyData.bool false))) .skip) (.seq (.ife (.not (.call 41 (.cons (.call 37 (.cons (.tup (.cons (.tup (.cons (.tup (.cons (.cst (PyData.str (Str.ofString "whole"))) .nil)) (.cons (.cst (PyData.int 2)) .nil))) .nil)) (.cons (.var 1) (.cons (.var 2) .nil)))) (.cons (.ifx (.cmp .inn (.var 5) (.lst (.cons (.cst (PyData.int 1)) (.cons (.cst (PyData.str (Str.ofString "many"))) .nil)))) (.var 5) (.bin .mul (.var 5) (.var 5))) .nil)))) (.ret (.cst (PyData.bool false))) .skip) (.seq (.asg (.nm 6) (.lc [8] (.nm 8) (.seqT (.tup (.cons (.var 1) (.cons (.bin .add (.var 1) (.var 2)) .nil)))) (.cst (.bool true)) (.cmp .ne (.lc [9] (.nm 9) (.seqT (.var 8)) (.and (.cmp .eq (.ix (.var 9) (.cst (PyData.int 0))) (.cst (PyData.int 0))) (.cmp .ne (.ix (.var 9) (.cst (PyData.int 1))) (.cst (PyData.int 0)))) (.var 9)) (.lst .nil)))) (.seq (.ife (.not (.call 41 (.cons (.call 37 (.cons (.tup (.cons (.tup (.cons (.tup (.cons (.cst (PyData.str (Str.ofString "fraction"))) .nil)) (.cons (.cst (PyData.str (Str.ofString "many"))) .nil))) .nil)) (.cons (.var 1) (.cons (.var 2) .nil)))) (.cons (.ifx (.and (.ix (.var 6) (.cst (PyData.int 1))) (.not (.ix (.var 6) (.cst (PyData.int 0))))) (.cst (PyData.str (Str.ofString "many"))) (.cst (PyData.int 1))) .nil)))) (.ret (.cst (PyData.bool false))) .skip) (.seq (.asg (.nm 7) (.call 40 (.cons (.var 0) (.cons (.lst (.cons (.cst (PyData.int 2)) (.cons (.cst (PyData.int 3)) .nil))) .nil)))) (.seq (.asg (.tp [3, 4]) (.tup (.cons (.call 52 (.cons (.var 7) (.cons (.var 1) .nil))) (.cons (.call 52 (.cons (.var 7) (.cons (.bin .add (.var 1) (.var 2)) .nil))) .nil)))) (.seq (.asg (.nm 5) (.ifx (.cmp .is (.var 3) (.cst PyData.none)) (.ifx (.cmp .is (.var 4) (.cst PyData.none)) (.cst (PyData.int 1)) (.cst (PyData.str (Str.ofString "many")))) (.bin .fdiv (.var 3) (.var 4)))) (.ret (.call 41 (.cons (.call 37 (.cons (.tup (.cons (.tup (.cons (.tup (.cons (.cst (PyData.str (Str.ofString "tower"))) (.cons (.var 7) .nil))) (.cons (.cst (PyData.int 1)) .nil))) .nil)) (.cons (.var 1) (.cons (.var 2) .nil)))) (.cons (.var 5) .nil)))))))))))))⟩
def f_law : Fn := ⟨1, 18, (.seq (.forr (.nm 2) (.rng1 (.cst (PyData.int 4))) (.seq (.asg (.tp [3, 4, 5]) (.tup (.cons (.call 47 (.cons (.var 1) .nil)) (.cons (.call 47 (.cons (.var 1) .nil)) (.cons (.call 47 (.cons (.var 1) .nil)) .nil))))) (.seq (.asg (.nm 6) (.call 43 (.cons (.var 1) (.cons (.cst (PyData.int 60)) .nil)))) (.seq (.asg (.nm 7) (.call 49 (.cons (.var 6) (.cons (.var 3) (.cons (.var 4) .nil))))) (.seq (.ife (.or (.not (.call 41 (.cons (.call 37 (.cons (.var 6) (.cons (.var 3) (.cons (.var 4) .nil)))) (.cons (.var 7) .nil)))) (.not (.call 53 (.cons (.var 1) (.cons (.var 3) (.cons (.var 4) .nil)))))) (.ret (.cst (PyData.bool false))) .skip) (.seq (.ife (.cmp .ne (.bin .mul (.var 7) (.call 49 (.cons (.var 6) (.cons (.bin .add (.var 3) (.var 4)) (.cons (.var 5) .nil))))) (.call 37 (.cons (.var 6) (.cons (.var 3) (.cons (.bin .add (.var 4) (.var 5)) .nil))))) (.ret (.cst (PyData.bool false))) .skip) (.seq (.asg (.nm 8) (.call 43 (.cons (.var 1) (.cons (.cst (PyData.int 12)) .nil)))) (.seq (.ife (.not (.call 41 (.cons (.call 37 (.cons (.call 10 (.cons (.var 6) (.cons (.var 8) .nil))) (.cons (.var 3) (.cons (.var 4) .nil)))) (.cons (.bin .mul (.var 7) (.call 49 (.cons (.var 8) (.cons (.var 3) (.cons (.var 4) .nil))))) .nil)))) (.ret (.cst (PyData.bool false))) .skip) (.seq (.asg (.nm 9) (.tup (.cons (.cst (PyData.str (Str.ofString "ring"))) (.cons (.call 40 (.cons (.var 1) (.cons (.lst (.cons (.cst (PyData.int 2)) (.cons (.cst (PyData.int 3)) .nil))) .nil))) (.cons (.bin .add (.cst (PyData.int 1)) (.call 39 (.cons (.var 1) (.cons (.cst (PyData.int 3)) .nil)))) .nil))))) (.seq (.asg (.tp [10, 11]) (.tup (.cons (.call 49 (.cons (.tup (.cons (.tup (.cons (.var 9) (.cons (.cst (PyData.int 1)) .nil))) .nil)) (.cons (.var 3) (.cons (.var 4) .nil)))) (.cons (.bin .add (.cst (PyData.int 1)) (.call 39 (.cons (.var 1) (.cons (.cst (PyData.int 30)) .nil)))) .nil)))) (.seq (.ife (.not (.call 41 (.cons (.call 37 (.cons (.tup (.cons (.tup (.cons (.var 9) (.cons (.var 11) .nil))) .nil)) (.cons (.var 3) (.cons (.var 4) .nil)))) (.cons (.call 42 (.cons (.var 10) (.cons (.var 11) .nil))) .nil)))) (.ret (.cst (PyData.bool false))) .skip) (.seq (.ife (.not (.call 41 (.cons (.call 37 (.cons (.tup (.cons (.tup (.cons (.var 9) (.cons (.cst (PyData.str (Str.ofString "many"))) .nil))) .nil)) (.cons (.var 3) (.cons (.var 4) .nil)))) (.cons (.ifx (.cmp .eq (.var 10) (.cst (PyData.int 1))) (.cst (PyData.int 1)) (.cst (PyData.str (Str.ofString "many")))) .nil)))) (.ret (.cst (PyData.bool false))) .skip) (.seq (.asg (.nm 12) (.call 44 (.cons (.var 6) .nil))) (.seq (.forr (.tp [13, 14]) (.seqL (.sl (.lzip (.call 28 (.cons (.var 6) .nil)) (.call 45 (.cons (.var 12) .nil))) .no (.so (.cst (PyData.int 20))))) (.ife (.and (.cmp .eq (.lc [17] (.nm 17) (.seqT (.var 3)) (.not (.call 26 (.cons (.var 6) (.cons (.ix (.var 17) (.cst (PyData.int 0))) (.cons (.call 25 (.cons (.var 6) (.cons (.ix (.var 17) (.cst (PyData.int 1))) (.cons (.var 13) .nil)))) .nil))))) (.var 17)) (.lst .nil)) (.not (.call 48 (.cons (.var 12) (.cons (.var 3) (.cons (.var 14) .nil)))))) (.ret (.cst (PyData.bool false))) .skip)) (.forr (.nm 15) (.seqL (.lst (.cons (.cst PyData.none) (.cons (.lst .nil) (.cons (.tup (.cons (.tup (.cons (.cst (PyData.int 1)) .nil)) .nil)) (.cons (.tup (.cons (.tup (.cons (.neg (.cst (PyData.int 1))) (.cons (.cst (PyData.int 1)) .nil))) .nil)) (.cons (.tup (.cons (.tup (.cons (.cst (PyData.int 1)) (.cons (.cst PyData.none) .nil))) .nil)) (.cons (.tup (.cons (.tup (.cons (.cst (PyData.bool true)) (.cons (.cst (PyData.int 1)) .nil))) .nil)) (.cons (.tup (.cons (.tup (.cons (.bin .add (.bin .pow (.cst (PyData.int 10)) (.cst (PyData.int 12))) (.cst (PyData.int 1))) (.cons (.cst (PyData.int 1)) .nil))) .nil)) (.cons (.cst (PyData.str (Str.ofString "a"))) .nil)))))))))) (.tryq 37 [6, 3, 15] 2 16 15)))))))))))))))) (.ret (.cst (PyData.bool true))))⟩
end Mini

set_option maxRecDepth 100000
set_option maxHeartbeats 8000000
namespace Mini
open PySem L2 Evl
def topS (i : Nat) : Stmt := PySem.Challenge.pw_saidofadding_k03_whole_indices.main.body.getD i (.Pass ⟨0, 0, 0, 0⟩)
def nmL : List Str := [Str.ofString "is_number", Str.ofString "is_prime", Str.ofString "is_kind", Str.ofString "ring_size", Str.ofString "kind_order", Str.ofString "are_copies", Str.ofString "is_group", Str.ofString "need_group", Str.ofString "raised", Str.ofString "size_here", Str.ofString "sum_of_groups", Str.ofString "is_power", Str.ofString "is_fraction", Str.ofString "is_place", Str.ofString "zero_place", Str.ofString "are_places", Str.ofString "is_element", Str.ofString "need_element", Str.ofString "trimmed", Str.ofString "lowest", Str.ofString "place_of", Str.ofString "times_here", Str.ofString "power_in", Str.ofString "place_parts", Str.ofString "parts_here", Str.ofString "many_times", Str.ofString "divides", Str.ofString "longer_by", Str.ofString "all_elements", Str.ofString "is_shape", Str.ofString "need_shape", Str.ofString "ring_step", Str.ofString "whole_step", Str.ofString "is_cut", Str.ofString "tower_step", Str.ofString "index_in", Str.ofString "index_here", Str.ofString "index_of", Str.ofString "_law_begun", Str.ofString "_law_next", Str.ofString "_law_of", Str.ofString "_law_like", Str.ofString "_law_power", Str.ofString "_law_group", Str.ofString "_law_moduli", Str.ofString "_law_rows", Str.ofString "_law_divides", Str.ofString "_law_shape", Str.ofString "_law_in", Str.ofString "_law_count", Str.ofString "_law_common", Str.ofString "_law_whole", Str.ofString "_law_torsion", Str.ofString "_law_endless", Str.ofString "law"]
def nm (f : Nat) : Str := nmL.getD f (Str.ofString "")
abbrev s_is_number : Stmt := topS 11
abbrev N_is_number : List Str := [Str.ofString "value", Str.ofString "least", Str.ofString "most"]
abbrev s_is_prime : Stmt := topS 18
abbrev N_is_prime : List Str := [Str.ofString "value", Str.ofString "by"]
abbrev s_is_kind : Stmt := topS 19
abbrev N_is_kind : List Str := [Str.ofString "value"]
abbrev s_ring_size : Stmt := topS 20
abbrev N_ring_size : List Str := [Str.ofString "kind", Str.ofString "size", Str.ofString "turn"]
abbrev s_kind_order : Stmt := topS 21
abbrev N_kind_order : List Str := [Str.ofString "kind"]
abbrev s_are_copies : Stmt := topS 22
abbrev N_are_copies : List Str := [Str.ofString "value"]
abbrev s_is_group : Stmt := topS 23
abbrev N_is_group : List Str := [Str.ofString "value", Str.ofString "summand", Str.ofString "orders", Str.ofString "kind", Str.ofString "copies", Str.ofString "at"]
abbrev s_need_group : Stmt := topS 24
abbrev N_need_group : List Str := [Str.ofString "group"]
abbrev s_raised : Stmt := topS 25
abbrev N_raised : List Str := [Str.ofString "base", Str.ofString "times", Str.ofString "out", Str.ofString "square"]
abbrev s_size_here : Stmt := topS 26
abbrev N_size_here : List Str := [Str.ofString "group", Str.ofString "size", Str.ofString "kind", Str.ofString "copies"]
abbrev s_sum_of_groups : Stmt := topS 27
abbrev N_sum_of_groups : List Str := [Str.ofString "one", Str.ofString "other", Str.ofString "copies", Str.ofString "kind", Str.ofString "many", Str.ofString "told", Str.ofString "before"]
abbrev s_is_power : Stmt := topS 31
abbrev N_is_power : List Str := [Str.ofString "value", Str.ofString "prime"]
abbrev s_is_fraction : Stmt := topS 32
abbrev N_is_fraction : List Str := [Str.ofString "value"]
abbrev s_is_place : Stmt := topS 33
abbrev N_is_place : List Str := [Str.ofString "kind", Str.ofString "value"]
abbrev s_zero_place : Stmt := topS 34
abbrev N_zero_place : List Str := [Str.ofString "kind"]
abbrev s_are_places : Stmt := topS 35
abbrev N_are_places : List Str := [Str.ofString "summand", Str.ofString "value", Str.ofString "kind", Str.ofString "copies", Str.ofString "most", Str.ofString "place"]
abbrev s_is_element : Stmt := topS 36
abbrev N_is_element : List Str := [Str.ofString "group", Str.ofString "value", Str.ofString "summand", Str.ofString "part"]
abbrev s_need_element : Stmt := topS 37
abbrev N_need_element : List Str := [Str.ofString "group", Str.ofString "element"]
abbrev s_trimmed : Stmt := topS 38
abbrev N_trimmed : List Str := [Str.ofString "summand", Str.ofString "places", Str.ofString "out"]
abbrev s_lowest : Stmt := topS 39
abbrev N_lowest : List Str := [Str.ofString "above", Str.ofString "below", Str.ofString "common"]
abbrev s_place_of : Stmt := topS 40
abbrev N_place_of : List Str := [Str.ofString "kind", Str.ofString "factor", Str.ofString "place", Str.ofString "above", Str.ofString "below"]
abbrev s_times_here : Stmt := topS 41
abbrev N_times_here : List Str := [Str.ofString "group", Str.ofString "factor", Str.ofString "element", Str.ofString "out", Str.ofString "summand", Str.ofString "places", Str.ofString "place"]
abbrev s_power_in : Stmt := topS 42
abbrev N_power_in : List Str := [Str.ofString "value", Str.ofString "prime", Str.ofString "most", Str.ofString "many"]
abbrev s_place_parts : Stmt := topS 43
abbrev N_place_parts : List Str := [Str.ofString "kind", Str.ofString "by", Str.ofString "place"]
abbrev s_parts_here : Stmt := topS 44
abbrev N_parts_here : List Str := [Str.ofString "group", Str.ofString "by", Str.ofString "element", Str.ofString "summand", Str.ofString "places", Str.ofString "place"]
abbrev s_many_times : Stmt := topS 45
abbrev N_many_times : List Str := [Str.ofString "group", Str.ofString "factor", Str.ofString "element"]
abbrev s_divides : Stmt := topS 46
abbrev N_divides : List Str := [Str.ofString "group", Str.ofString "by", Str.ofString "element"]
abbrev s_longer_by : Stmt := topS 47
abbrev N_longer_by : List Str := [Str.ofString "points", Str.ofString "summand", Str.ofString "kind", Str.ofString "copies", Str.ofString "rows", Str.ofString "turn", Str.ofString "element", Str.ofString "row", Str.ofString "place"]
abbrev s_all_elements : Stmt := topS 48
abbrev N_all_elements : List Str := [Str.ofString "group", Str.ofString "size", Str.ofString "out", Str.ofString "summand"]
abbrev s_is_shape : Stmt := topS 51
abbrev N_is_shape : List Str := [Str.ofString "value", Str.ofString "pair"]
abbrev s_need_shape : Stmt := topS 52
abbrev N_need_shape : List Str := [Str.ofString "shape"]
abbrev s_ring_step : Stmt := topS 53
abbrev N_ring_step : List Str := [Str.ofString "kind", Str.ofString "shape", Str.ofString "step", Str.ofString "by", Str.ofString "factor"]
abbrev s_whole_step : Stmt := topS 54
abbrev N_whole_step : List Str := [Str.ofString "shape", Str.ofString "step", Str.ofString "by", Str.ofString "factor", Str.ofString "own"]
abbrev s_is_cut : Stmt := topS 55
abbrev N_is_cut : List Str := [Str.ofString "shape", Str.ofString "by", Str.ofString "factor"]
abbrev s_tower_step : Stmt := topS 56
abbrev N_tower_step : List Str := [Str.ofString "prime", Str.ofString "shape", Str.ofString "step", Str.ofString "by", Str.ofString "factor", Str.ofString "own"]
abbrev s_index_in : Stmt := topS 57
abbrev N_index_in : List Str := [Str.ofString "kind", Str.ofString "one", Str.ofString "other", Str.ofString "both", Str.ofString "first", Str.ofString "second"]
abbrev s_index_here : Stmt := topS 58
abbrev N_index_here : List Str := [Str.ofString "group", Str.ofString "one", Str.ofString "other", Str.ofString "out", Str.ofString "kind", Str.ofString "copies", Str.ofString "own"]
abbrev s_index_of : Stmt := topS 59
abbrev N_index_of : List Str := [Str.ofString "group", Str.ofString "one", Str.ofString "other"]
abbrev s_law_begun : Stmt := topS 61
abbrev N_law_begun : List Str := [Str.ofString "script", Str.ofString "cell"]
abbrev s_law_next : Stmt := topS 62
abbrev N_law_next : List Str := [Str.ofString "m", Str.ofString "many", Str.ofString "at", Str.ofString "cells", Str.ofString "cell", Str.ofString "blend", Str.ofString "rest"]
abbrev s_law_of : Stmt := topS 63
abbrev N_law_of : List Str := [Str.ofString "m", Str.ofString "some"]
abbrev s_law_like : Stmt := topS 64
abbrev N_law_like : List Str := [Str.ofString "got", Str.ofString "due", Str.ofString "k"]
abbrev s_law_power : Stmt := topS 65
abbrev N_law_power : List Str := [Str.ofString "prime", Str.ofString "turns", Str.ofString "out", Str.ofString "turn"]
abbrev s_law_group : Stmt := topS 66
abbrev N_law_group : List Str := [Str.ofString "m", Str.ofString "most", Str.ofString "told", Str.ofString "size", Str.ofString "turn", Str.ofString "prime", Str.ofString "power", Str.ofString "copies", Str.ofString "more"]
abbrev s_law_moduli : Stmt := topS 67
abbrev N_law_moduli : List Str := [Str.ofString "group", Str.ofString "out", Str.ofString "kind", Str.ofString "copies"]
abbrev s_law_rows : Stmt := topS 68
abbrev N_law_rows : List Str := [Str.ofString "moduli", Str.ofString "rows", Str.ofString "modulus", Str.ofString "longer", Str.ofString "row", Str.ofString "place"]
abbrev s_law_divides : Stmt := topS 69
abbrev N_law_divides : List Str := [Str.ofString "by", Str.ofString "modulus", Str.ofString "place", Str.ofString "one", Str.ofString "other"]
abbrev s_law_shape : Stmt := topS 70
abbrev N_law_shape : List Str := [Str.ofString "m", Str.ofString "turn"]
abbrev s_law_in : Stmt := topS 71
abbrev N_law_in : List Str := [Str.ofString "moduli", Str.ofString "shape", Str.ofString "row", Str.ofString "by", Str.ofString "factor", Str.ofString "k"]
abbrev s_law_count : Stmt := topS 72
abbrev N_law_count : List Str := [Str.ofString "group", Str.ofString "one", Str.ofString "other", Str.ofString "moduli", Str.ofString "rows", Str.ofString "row"]
abbrev s_law_common : Stmt := topS 73
abbrev N_law_common : List Str := [Str.ofString "one", Str.ofString "other"]
abbrev s_law_whole : Stmt := topS 74
abbrev N_law_whole : List Str := [Str.ofString "shape", Str.ofString "found", Str.ofString "least", Str.ofString "step", Str.ofString "by", Str.ofString "factor"]
abbrev s_law_torsion : Stmt := topS 75
abbrev N_law_torsion : List Str := [Str.ofString "prime", Str.ofString "shape", Str.ofString "sizes", Str.ofString "by", Str.ofString "factor", Str.ofString "size"]
abbrev s_law_endless : Stmt := topS 76
abbrev N_law_endless : List Str := [Str.ofString "m", Str.ofString "one", Str.ofString "other", Str.ofString "first", Str.ofString "second", Str.ofString "due", Str.ofString "cut", Str.ofString "prime", Str.ofString "shape", Str.ofString "pair"]
abbrev s_law : Stmt := topS 77
abbrev N_law : List Str := [Str.ofString "script", Str.ofString "m", Str.ofString "turn", Str.ofString "one", Str.ofString "other", Str.ofString "third", Str.ofString "group", Str.ofString "due", Str.ofString "second", Str.ofString "kind", Str.ofString "own", Str.ofString "many", Str.ofString "moduli", Str.ofString "element", Str.ofString "row", Str.ofString "odd", Str.ofString "e", Str.ofString "pair"]
def psL : List (List Str) := [[Str.ofString "value", Str.ofString "least", Str.ofString "most"], [Str.ofString "value"], [Str.ofString "value"], [Str.ofString "kind"], [Str.ofString "kind"], [Str.ofString "value"], [Str.ofString "value"], [Str.ofString "group"], [Str.ofString "base", Str.ofString "times"], [Str.ofString "group"], [Str.ofString "one", Str.ofString "other"], [Str.ofString "value", Str.ofString "prime"], [Str.ofString "value"], [Str.ofString "kind", Str.ofString "value"], [Str.ofString "kind"], [Str.ofString "summand", Str.ofString "value"], [Str.ofString "group", Str.ofString "value"], [Str.ofString "group", Str.ofString "element"], [Str.ofString "summand", Str.ofString "places"], [Str.ofString "above", Str.ofString "below"], [Str.ofString "kind", Str.ofString "factor", Str.ofString "place"], [Str.ofString "group", Str.ofString "factor", Str.ofString "element"], [Str.ofString "value", Str.ofString "prime", Str.ofString "most"], [Str.ofString "kind", Str.ofString "by", Str.ofString "place"], [Str.ofString "group", Str.ofString "by", Str.ofString "element"], [Str.ofString "group", Str.ofString "factor", Str.ofString "element"], [Str.ofString "group", Str.ofString "by", Str.ofString "element"], [Str.ofString "points", Str.ofString "summand"], [Str.ofString "group"], [Str.ofString "value"], [Str.ofString "shape"], [Str.ofString "kind", Str.ofString "shape"], [Str.ofString "shape"], [Str.ofString "shape"], [Str.ofString "prime", Str.ofString "shape"], [Str.ofString "kind", Str.ofString "one", Str.ofString "other"], [Str.ofString "group", Str.ofString "one", Str.ofString "other"], [Str.ofString "group", Str.ofString "one", Str.ofString "other"], [Str.ofString "script"], [Str.ofString "m", Str.ofString "many"], [Str.ofString "m", Str.ofString "some"], [Str.ofString "got", Str.ofString "due"], [Str.ofString "prime", Str.ofString "turns"], [Str.ofString "m", Str.ofString "most"], [Str.ofString "group"], [Str.ofString "moduli"], [Str.ofString "by", Str.ofString "modulus", Str.ofString "place"], [Str.ofString "m"], [Str.ofString "moduli", Str.ofString "shape", Str.ofString "row"], [Str.ofString "group", Str.ofString "one", Str.ofString "other"], [Str.ofString "one", Str.ofString "other"], [Str.ofString "shape"], [Str.ofString "prime", Str.ofString "shape"], [Str.ofString "m", Str.ofString "one", Str.ofString "other"], [Str.ofString "script"]]
def psf (f : Nat) : List Str := psL.getD f []
structure Tx (P : Program) (w : World) (K : PySem.W.Frag) (mg : Str → Option Value) (ad : Nat → Addr) (fdd : Nat → FuncData) (cA : Nat → Addr) : Prop where
  g : ∀ f, f < 55 → mg (nm f) = some (.ref (ad f))
  kp : ∀ f, f < 55 → PySem.W.keepIn K (.ref (ad f)) = true
  b : ∀ f, f < 55 → Binds K (fdd f) (psf f) []
  e_BadGroup : ∃ fI, PySem.ErrX.ErrTxt P K mg "BadGroup" (cFv 0) (cA 0) fI
  e_BadElement : ∃ fI, PySem.ErrX.ErrTxt P K mg "BadElement" (cFv 1) (cA 1) fI
  e_BadShape : ∃ fI, PySem.ErrX.ErrTxt P K mg "BadShape" (cFv 2) (cA 2) fI
  e_BadNumber : ∃ fI, PySem.ErrX.ErrTxt P K mg "BadNumber" (cFv 3) (cA 3) fI
  e_TooMany : ∃ fI, PySem.ErrX.ErrTxt P K mg "TooMany" (cFv 4) (cA 4) fI
  d_ORDER : ∃ p, mg "ORDER" = some (.ref p) ∧ ∀ kv ∈ tab_ORDER, KDct K w p kv.1 (.int kv.2)
  abs : mg "abs" = none
  all : mg "all" = none
  any : mg "any" = none
  bool : mg "bool" = none
  int : mg "int" = none
  isinstance : mg "isinstance" = none
  len : mg "len" = none
  list : mg "list" = none
  max : mg "max" = none
  min : mg "min" = none
  range : mg "range" = none
  repr : mg "repr" = none
  sorted : mg "sorted" = none
  str : mg "str" = none
  tuple : mg "tuple" = none
  zip : mg "zip" = none
  t_ENDLESS : ∃ t, mg "ENDLESS" = some (.str (Str.ofString "many") t)
  t_MOST_COPIES : ∃ t, mg "MOST_COPIES" = some (.int 1000 t)
  t_MOST_ELEMENTS : ∃ t, mg "MOST_ELEMENTS" = some (.int 100000 t)
  t_MOST_FACTOR : ∃ t, mg "MOST_FACTOR" = some (.int 1000000000000 t)
  t_MOST_PLACE : ∃ t, mg "MOST_PLACE" = some (.int 1000000000000000000 t)
  t_MOST_PLACES : ∃ t, mg "MOST_PLACES" = some (.int 1000 t)
  t_MOST_PRIME : ∃ t, mg "MOST_PRIME" = some (.int 1000 t)
  t_MOST_RING : ∃ t, mg "MOST_RING" = some (.int 1000000 t)
  t_MOST_SUMMANDS : ∃ t, mg "MOST_SUMMANDS" = some (.int 12 t)
  c_gcd : mg "gcd" = some (.builtin "math.gcd")
section
variable {P : Program} {w : World} {K : PySem.W.Frag} {mg : Str → Option Value} {base : Heap} {ad : Nat → Addr} {fdd : Nat → FuncData} {cA : Nat → Addr} {call : Nat → List PyData → G → R PyData} {k W : Nat}
theorem cx_px {N : List Str} {qual : Str} {sc : Scope} {f : Addr} {cdv : Value} {A : Around} {outer : List Env} {s : Shared} {H : Hp} {E : XK} : Passes (L2.CX P w) (cxOf (L2.CX P w) P w K mg base N qual sc f cdv A outer s H E) E := passes_call (takes_of rfl rfl rfl rfl) (fun _ _ _ _ h => h)
theorem cx_po {N : List Str} {qual : Str} {sc : Scope} {f : Addr} {cdv : Value} {A : Around} {outer : List Env} {s : Shared} {H : Hp} {E : XK} : PassesOwn (model P w) (A.deeper (PyProof.Rows.envOfC qual sc s.heap.objs.size f cdv)) (PyProof.Rows.envOfC qual sc s.heap.objs.size f cdv) (cxOf (L2.CX P w) P w K mg base N qual sc f cdv A outer s H E).xe := PassesOwn.leaving
theorem sc_is_number : FnScope N_is_number [Str.ofString "value", Str.ofString "least", Str.ofString "most"] (defScope s_is_number) := ⟨rfl, rfl, rfl, by decide +kernel, rfl, by decide +kernel, by decide +kernel⟩
theorem w_is_number (T : Tx P w K mg ad fdd cA) (G : ∀ (f : Nat) (E : XK), FnOk P w K mg base (L2.CX P w) k (ad f) (fdd f) (psf f) (spD K ⟨cA, cFv, call, W, E⟩ f)) (f : Addr) (cdv : Value) (A : Around) (outer : List Env) (s : Shared) (H : Hp) (E : XK) (hr : Room k (A.deeper (PyProof.Rows.envOfC "is_number" (defScope s_is_number) s.heap.objs.size f cdv))) :
    PSs (cxOf (L2.CX P w) P w K mg base N_is_number "is_number" (defScope s_is_number) f cdv A outer s H E) (defBody s_is_number) (rdS K ⟨cA, cFv, call, W, E⟩ f_is_number.body) := by
  have nd : N_is_number.Nodup := sc_is_number.nd
  have hu := hr.units
  have hu1 := hu_of hr
  have hx : Passes (L2.CX P w) (cxOf (L2.CX P w) P w K mg base N_is_number "is_number" (defScope s_is_number) f cdv A outer s H E) E := cx_px
  have hpo : PassesOwn (model P w) _ _ (cxOf (L2.CX P w) P w K mg base N_is_number "is_number" (defScope s_is_number) f cdv A outer s H E).xe := cx_po
  exact (s_one (s_ret (m_and (m_isi .int (m_var 0 (pv 0)) rfl T.isinstance rfl rfl T.int) (m_and (m_not (m_isi .bool (m_var 0 (pv 0)) rfl T.isinstance rfl rfl T.bool)) (m_one (m_chain o_le o_le (m_var 1 (pv 1)) (m_var 0 (pv 0)) (m_var 2 (pv 2))))))))
theorem sc_is_prime : FnScope N_is_prime [Str.ofString "value"] (defScope s_is_prime) := ⟨rfl, rfl, rfl, by decide +kernel, rfl, by decide +kernel, by decide +kernel⟩
theorem w_is_prime (T : Tx P w K mg ad fdd cA) (G : ∀ (f : Nat) (E : XK), FnOk P w K mg base (L2.CX P w) k (ad f) (fdd f) (psf f) (spD K ⟨cA, cFv, call, W, E⟩ f)) (f : Addr) (cdv : Value) (A : Around) (outer : List Env) (s : Shared) (H : Hp) (E : XK) (hr : Room k (A.deeper (PyProof.Rows.envOfC "is_prime" (defScope s_is_prime) s.heap.objs.size f cdv))) :
    PSs (cxOf (L2.CX P w) P w K mg base N_is_prime "is_prime" (defScope s_is_prime) f cdv A outer s H E) (defBody s_is_prime) (rdS K ⟨cA, cFv, call, W, E⟩ f_is_prime.body) := by
  have nd : N_is_prime.Nodup := sc_is_prime.nd
  have hu := hr.units
  have hu1 := hu_of hr
  have hx : Passes (L2.CX P w) (cxOf (L2.CX P w) P w K mg base N_is_prime "is_prime" (defScope s_is_prime) f cdv A outer s H E) E := cx_px
  have hpo : PassesOwn (model P w) _ _ (cxOf (L2.CX P w) P w K mg base N_is_prime "is_prime" (defScope s_is_prime) f cdv A outer s H E).xe := cx_po
  obtain ⟨_, c_MOST_PRIME⟩ := T.t_MOST_PRIME
  exact (s_seq (s_if (t_not (t_val (m_call (G 0 _) hr rfl (T.g 0 (by decide)) (T.kp 0 (by decide)) (T.b 0 (by decide)) hx (m_cons (m_var 0 (pv 0)) (m_cons m_int (m_cons (m_glob rfl c_MOST_PRIME) m_nil)))))) (s_one (s_ret m_bl)) s_nil) (s_one (s_ret (m_bltB (b_all rfl) rfl T.all (by decide +kernel) (m_cons (m_lc [((Str.ofString "by"), 1)] rfl nd (i_rng2 rfl T.range m_int (m_var 0 (pv 0))) (blkOk_by (N := N_is_prime) (sc := (defScope s_is_prime)) (own := [((Str.ofString "by"), 1)]) (by decide +kernel)) (fun _ _ _ _ _ => (pg_name (i := 1) nd rfl (by first | exact Or.inl rfl | exact Or.inr rfl))) (fun _ _ _ _ _ => pts_one (t_cmp o_le (m_bin o_mul (m_var 1 (pv 1)) (m_var 1 (pv 1))) (m_var 0 (pv 0)))) (fun _ _ _ _ _ => (m_cmp (o_ne hu) (m_bin o_mod (m_var 0 (pv 0)) (m_var 1 (pv 1))) m_int))) m_nil)))))
theorem sc_is_kind : FnScope N_is_kind [Str.ofString "value"] (defScope s_is_kind) := ⟨rfl, rfl, rfl, by decide +kernel, rfl, by decide +kernel, by decide +kernel⟩
theorem w_is_kind (T : Tx P w K mg ad fdd cA) (G : ∀ (f : Nat) (E : XK), FnOk P w K mg base (L2.CX P w) k (ad f) (fdd f) (psf f) (spD K ⟨cA, cFv, call, W, E⟩ f)) (f : Addr) (cdv : Value) (A : Around) (outer : List Env) (s : Shared) (H : Hp) (E : XK) (hr : Room k (A.deeper (PyProof.Rows.envOfC "is_kind" (defScope s_is_kind) s.heap.objs.size f cdv))) :
    PSs (cxOf (L2.CX P w) P w K mg base N_is_kind "is_kind" (defScope s_is_kind) f cdv A outer s H E) (defBody s_is_kind) (rdS K ⟨cA, cFv, call, W, E⟩ f_is_kind.body) := by
  have nd : N_is_kind.Nodup := sc_is_kind.nd
  have hu := hr.units
  have hu1 := hu_of hr
  have hx : Passes (L2.CX P w) (cxOf (L2.CX P w) P w K mg base N_is_kind "is_kind" (defScope s_is_kind) f cdv A outer s H E) E := cx_px
  have hpo : PassesOwn (model P w) _ _ (cxOf (L2.CX P w) P w K mg base N_is_kind "is_kind" (defScope s_is_kind) f cdv A outer s H E).xe := cx_po
  obtain ⟨_, c_MOST_RING⟩ := T.t_MOST_RING
  exact (s_seq (s_if (PW.pt (w_or (t_not (t_val (m_isi .tuple (m_var 0 (pv 0)) rfl T.isinstance rfl rfl T.tuple))) (w_or (t_cmp (o_eq hu) (m_bltB b_len rfl T.len (by decide +kernel) (m_cons (m_var 0 (pv 0)) m_nil)) m_int) (w_or1 (t_not (t_val (m_isi .str (m_ix (m_var 0 (pv 0)) m_int) rfl T.isinstance rfl rfl T.str))))))) (s_one (s_ret m_bl)) s_nil) (s_seq (s_if (t_cmp o_in (m_ix (m_var 0 (pv 0)) m_int) (m_tup (m_cons m_str (m_cons m_str m_nil)))) (s_one (s_ret (m_cmp (o_eq hu) (m_bltB b_len rfl T.len (by decide +kernel) (m_cons (m_var 0 (pv 0)) m_nil)) m_int))) s_nil) (s_seq (s_if (t_cmp (o_eq hu) (m_ix (m_var 0 (pv 0)) m_int) m_str) (s_one (s_ret (m_and (m_cmp (o_eq hu) (m_bltB b_len rfl T.len (by decide +kernel) (m_cons (m_var 0 (pv 0)) m_nil)) m_int) (m_one (m_call (G 1 _) hr rfl (T.g 1 (by decide)) (T.kp 1 (by decide)) (T.b 1 (by decide)) hx (m_cons (m_ix (m_var 0 (pv 0)) m_int) m_nil)))))) s_nil) (s_seq (s_if (PW.pt (w_or (t_cmp (o_ne hu) (m_ix (m_var 0 (pv 0)) m_int) m_str) (w_or (t_cmp (o_ne hu) (m_bltB b_len rfl T.len (by decide +kernel) (m_cons (m_var 0 (pv 0)) m_nil)) m_int) (w_or (t_not (t_val (m_call (G 1 _) hr rfl (T.g 1 (by decide)) (T.kp 1 (by decide)) (T.b 1 (by decide)) hx (m_cons (m_ix (m_var 0 (pv 0)) m_int) m_nil)))) (w_or1 (t_not (t_val (m_call (G 0 _) hr rfl (T.g 0 (by decide)) (T.kp 0 (by decide)) (T.b 0 (by decide)) hx (m_cons (m_ix (m_var 0 (pv 0)) m_int) (m_cons m_int (m_cons m_int m_nil))))))))))) (s_one (s_ret m_bl)) s_nil) (s_one (s_ret (m_cmp o_le (m_call (G 3 _) hr rfl (T.g 3 (by decide)) (T.kp 3 (by decide)) (T.b 3 (by decide)) hx (m_cons (m_var 0 (pv 0)) m_nil)) (m_glob rfl c_MOST_RING))))))))
theorem sc_ring_size : FnScope N_ring_size [Str.ofString "kind"] (defScope s_ring_size) := ⟨rfl, rfl, rfl, by decide +kernel, rfl, by decide +kernel, by decide +kernel⟩
theorem w_ring_size (T : Tx P w K mg ad fdd cA) (G : ∀ (f : Nat) (E : XK), FnOk P w K mg base (L2.CX P w) k (ad f) (fdd f) (psf f) (spD K ⟨cA, cFv, call, W, E⟩ f)) (f : Addr) (cdv : Value) (A : Around) (outer : List Env) (s : Shared) (H : Hp) (E : XK) (hr : Room k (A.deeper (PyProof.Rows.envOfC "ring_size" (defScope s_ring_size) s.heap.objs.size f cdv))) :
    PSs (cxOf (L2.CX P w) P w K mg base N_ring_size "ring_size" (defScope s_ring_size) f cdv A outer s H E) (defBody s_ring_size) (rdS K ⟨cA, cFv, call, W, E⟩ f_ring_size.body) := by
  have nd : N_ring_size.Nodup := sc_ring_size.nd
  have hu := hr.units
  have hu1 := hu_of hr
  have hx : Passes (L2.CX P w) (cxOf (L2.CX P w) P w K mg base N_ring_size "ring_size" (defScope s_ring_size) f cdv A outer s H E) E := cx_px
  have hpo : PassesOwn (model P w) _ _ (cxOf (L2.CX P w) P w K mg base N_ring_size "ring_size" (defScope s_ring_size) f cdv A outer s H E).xe := cx_po
  exact (s_seq (s_set 1 nd m_int) (s_seq (s_for (t := (.nm 2)) hpo rfl (i_rng1 rfl T.range (m_ix (m_var 0 (pv 0)) m_int)) (pg_name (i := 2) nd rfl (by first | exact Or.inl rfl | exact Or.inr rfl)) (s_one (s_set 1 nd (m_bin o_mul (m_var 1 (pv 1)) (m_ix (m_var 0 (pv 0)) m_int))))) (s_one (s_ret (m_var 1 (pv 1))))))
theorem sc_kind_order : FnScope N_kind_order [Str.ofString "kind"] (defScope s_kind_order) := ⟨rfl, rfl, rfl, by decide +kernel, rfl, by decide +kernel, by decide +kernel⟩
theorem w_kind_order (T : Tx P w K mg ad fdd cA) (G : ∀ (f : Nat) (E : XK), FnOk P w K mg base (L2.CX P w) k (ad f) (fdd f) (psf f) (spD K ⟨cA, cFv, call, W, E⟩ f)) (f : Addr) (cdv : Value) (A : Around) (outer : List Env) (s : Shared) (H : Hp) (E : XK) (hr : Room k (A.deeper (PyProof.Rows.envOfC "kind_order" (defScope s_kind_order) s.heap.objs.size f cdv))) :
    PSs (cxOf (L2.CX P w) P w K mg base N_kind_order "kind_order" (defScope s_kind_order) f cdv A outer s H E) (defBody s_kind_order) (rdS K ⟨cA, cFv, call, W, E⟩ f_kind_order.body) := by
  have nd : N_kind_order.Nodup := sc_kind_order.nd
  have hu := hr.units
  have hu1 := hu_of hr
  have hx : Passes (L2.CX P w) (cxOf (L2.CX P w) P w K mg base N_kind_order "kind_order" (defScope s_kind_order) f cdv A outer s H E) E := cx_px
  have hpo : PassesOwn (model P w) _ _ (cxOf (L2.CX P w) P w K mg base N_kind_order "kind_order" (defScope s_kind_order) f cdv A outer s H E).xe := cx_po
  obtain ⟨_, d_ORDER⟩ := T.d_ORDER
  exact (s_one (s_ret (m_bin o_add (m_lst (m_cons (m_gix tab_ORDER rfl d_ORDER.1 d_ORDER.2 (m_ix (m_var 0 (pv 0)) m_int)) m_nil)) (m_bltT b_list rfl T.list (by decide +kernel) (m_cons (m_sl (m_var 0 (pv 0)) (po_so m_int) po_no) m_nil)))))
theorem sc_are_copies : FnScope N_are_copies [Str.ofString "value"] (defScope s_are_copies) := ⟨rfl, rfl, rfl, by decide +kernel, rfl, by decide +kernel, by decide +kernel⟩
theorem w_are_copies (T : Tx P w K mg ad fdd cA) (G : ∀ (f : Nat) (E : XK), FnOk P w K mg base (L2.CX P w) k (ad f) (fdd f) (psf f) (spD K ⟨cA, cFv, call, W, E⟩ f)) (f : Addr) (cdv : Value) (A : Around) (outer : List Env) (s : Shared) (H : Hp) (E : XK) (hr : Room k (A.deeper (PyProof.Rows.envOfC "are_copies" (defScope s_are_copies) s.heap.objs.size f cdv))) :
    PSs (cxOf (L2.CX P w) P w K mg base N_are_copies "are_copies" (defScope s_are_copies) f cdv A outer s H E) (defBody s_are_copies) (rdS K ⟨cA, cFv, call, W, E⟩ f_are_copies.body) := by
  have nd : N_are_copies.Nodup := sc_are_copies.nd
  have hu := hr.units
  have hu1 := hu_of hr
  have hx : Passes (L2.CX P w) (cxOf (L2.CX P w) P w K mg base N_are_copies "are_copies" (defScope s_are_copies) f cdv A outer s H E) E := cx_px
  have hpo : PassesOwn (model P w) _ _ (cxOf (L2.CX P w) P w K mg base N_are_copies "are_copies" (defScope s_are_copies) f cdv A outer s H E).xe := cx_po
  obtain ⟨_, c_MOST_COPIES⟩ := T.t_MOST_COPIES
  exact (s_one (s_ret (m_or (m_and (m_isi .str (m_var 0 (pv 0)) rfl T.isinstance rfl rfl T.str) (m_one (m_cmp (o_eq hu) (m_var 0 (pv 0)) m_str))) (m_one (m_call (G 0 _) hr rfl (T.g 0 (by decide)) (T.kp 0 (by decide)) (T.b 0 (by decide)) hx (m_cons (m_var 0 (pv 0)) (m_cons m_int (m_cons (m_glob rfl c_MOST_COPIES) m_nil))))))))
theorem sc_is_group : FnScope N_is_group [Str.ofString "value"] (defScope s_is_group) := ⟨rfl, rfl, rfl, by decide +kernel, rfl, by decide +kernel, by decide +kernel⟩
theorem w_is_group (T : Tx P w K mg ad fdd cA) (G : ∀ (f : Nat) (E : XK), FnOk P w K mg base (L2.CX P w) k (ad f) (fdd f) (psf f) (spD K ⟨cA, cFv, call, W, E⟩ f)) (f : Addr) (cdv : Value) (A : Around) (outer : List Env) (s : Shared) (H : Hp) (E : XK) (hr : Room k (A.deeper (PyProof.Rows.envOfC "is_group" (defScope s_is_group) s.heap.objs.size f cdv))) :
    PSs (cxOf (L2.CX P w) P w K mg base N_is_group "is_group" (defScope s_is_group) f cdv A outer s H E) (defBody s_is_group) (rdS K ⟨cA, cFv, call, W, E⟩ f_is_group.body) := by
  have nd : N_is_group.Nodup := sc_is_group.nd
  have hu := hr.units
  have hu1 := hu_of hr
  have hx : Passes (L2.CX P w) (cxOf (L2.CX P w) P w K mg base N_is_group "is_group" (defScope s_is_group) f cdv A outer s H E) E := cx_px
  have hpo : PassesOwn (model P w) _ _ (cxOf (L2.CX P w) P w K mg base N_is_group "is_group" (defScope s_is_group) f cdv A outer s H E).xe := cx_po
  obtain ⟨_, c_MOST_SUMMANDS⟩ := T.t_MOST_SUMMANDS
  exact (s_seq (s_if (PW.pt (w_or (t_not (t_val (m_isi .tuple (m_var 0 (pv 0)) rfl T.isinstance rfl rfl T.tuple))) (w_or1 (t_cmp o_gt (m_bltB b_len rfl T.len (by decide +kernel) (m_cons (m_var 0 (pv 0)) m_nil)) (m_glob rfl c_MOST_SUMMANDS))))) (s_one (s_ret m_bl)) s_nil) (s_seq (s_for (t := (.nm 1)) hpo rfl (i_seqT (m_var 0 (pv 0))) (pg_name (i := 1) nd rfl (by first | exact Or.inl rfl | exact Or.inr rfl)) (s_one (s_if (PW.pt (w_or (t_not (t_val (m_isi .tuple (m_var 1 (pv 1)) rfl T.isinstance rfl rfl T.tuple))) (w_or (t_cmp (o_ne hu) (m_bltB b_len rfl T.len (by decide +kernel) (m_cons (m_var 1 (pv 1)) m_nil)) m_int) (w_or (t_not (t_val (m_call (G 2 _) hr rfl (T.g 2 (by decide)) (T.kp 2 (by decide)) (T.b 2 (by decide)) hx (m_cons (m_ix (m_var 1 (pv 1)) m_int) m_nil)))) (w_or1 (t_not (t_val (m_call (G 5 _) hr rfl (T.g 5 (by decide)) (T.kp 5 (by decide)) (T.b 5 (by decide)) hx (m_cons (m_ix (m_var 1 (pv 1)) m_int) m_nil))))))))) (s_one (s_ret m_bl)) s_nil))) (s_seq (s_set 2 nd (m_lc [((Str.ofString "kind"), 3), ((Str.ofString "copies"), 4)] rfl nd (i_seqT (m_var 0 (pv 0))) (blkOk_by (N := N_is_group) (sc := (defScope s_is_group)) (own := [((Str.ofString "kind"), 3), ((Str.ofString "copies"), 4)]) (by decide +kernel)) (fun _ _ _ _ _ => (pg_tup rfl (pgs_cons (pg_name (i := 3) nd rfl (by first | exact Or.inl rfl | exact Or.inr rfl)) (pgs_cons (pg_name (i := 4) nd rfl (by first | exact Or.inl rfl | exact Or.inr rfl)) pgs_nil)))) (fun _ _ _ _ _ => pts_no) (fun _ _ _ _ _ => (m_call (G 4 _) hr rfl (T.g 4 (by decide)) (T.kp 4 (by decide)) (T.b 4 (by decide)) passL (m_cons (m_var 3 (pv 3)) m_nil))))) (s_one (s_ret (m_bltB (b_all rfl) rfl T.all (by decide +kernel) (m_cons (m_lc [((Str.ofString "at"), 5)] rfl nd (i_rng1 rfl T.range (m_bin o_sub (m_bltB b_len rfl T.len (by decide +kernel) (m_cons (m_var 2 (pv 2)) m_nil)) m_int)) (blkOk_by (N := N_is_group) (sc := (defScope s_is_group)) (own := [((Str.ofString "at"), 5)]) (by decide +kernel)) (fun _ _ _ _ _ => (pg_name (i := 5) nd rfl (by first | exact Or.inl rfl | exact Or.inr rfl))) (fun _ _ _ _ _ => pts_no) (fun _ _ _ _ _ => (m_cmp (o_lt hu) (m_ix (m_var 2 (pv 2)) (m_var 5 (pv 5))) (m_ix (m_var 2 (pv 2)) (m_bin o_add (m_var 5 (pv 5)) m_int))))) m_nil)))))))
theorem sc_need_group : FnScope N_need_group [Str.ofString "group"] (defScope s_need_group) := ⟨rfl, rfl, rfl, by decide +kernel, rfl, by decide +kernel, by decide +kernel⟩
theorem w_need_group (T : Tx P w K mg ad fdd cA) (G : ∀ (f : Nat) (E : XK), FnOk P w K mg base (L2.CX P w) k (ad f) (fdd f) (psf f) (spD K ⟨cA, cFv, call, W, E⟩ f)) (f : Addr) (cdv : Value) (A : Around) (outer : List Env) (s : Shared) (H : Hp) (E : XK) (hr : Room k (A.deeper (PyProof.Rows.envOfC "need_group" (defScope s_need_group) s.heap.objs.size f cdv))) :
    PSs (cxOf (L2.CX P w) P w K mg base N_need_group "need_group" (defScope s_need_group) f cdv A outer s H E) (defBody s_need_group) (rdS K ⟨cA, cFv, call, W, E⟩ f_need_group.body) := by
  have nd : N_need_group.Nodup := sc_need_group.nd
  have hu := hr.units
  have hu1 := hu_of hr
  have hx : Passes (L2.CX P w) (cxOf (L2.CX P w) P w K mg base N_need_group "need_group" (defScope s_need_group) f cdv A outer s H E) E := cx_px
  have hpo : PassesOwn (model P w) _ _ (cxOf (L2.CX P w) P w K mg base N_need_group "need_group" (defScope s_need_group) f cdv A outer s H E).xe := cx_po
  obtain ⟨_, e_BadGroup⟩ := T.e_BadGroup
  have fld_value := PySem.ErrX.fld_value
  exact (s_one (s_if (t_not (t_val (m_call (G 6 _) hr rfl (T.g 6 (by decide)) (T.kp 6 (by decide)) (T.b 6 (by decide)) hx (m_cons (m_var 0 (pv 0)) m_nil)))) (s_one (s_raise (c := 0) fld_value e_BadGroup rfl hr (takes_of rfl rfl rfl rfl) (m_var 0 (pv 0)) rfl)) s_nil))
theorem sc_raised : FnScope N_raised [Str.ofString "base", Str.ofString "times"] (defScope s_raised) := ⟨rfl, rfl, rfl, by decide +kernel, rfl, by decide +kernel, by decide +kernel⟩
theorem w_raised (T : Tx P w K mg ad fdd cA) (G : ∀ (f : Nat) (E : XK), FnOk P w K mg base (L2.CX P w) k (ad f) (fdd f) (psf f) (spD K ⟨cA, cFv, call, W, E⟩ f)) (f : Addr) (cdv : Value) (A : Around) (outer : List Env) (s : Shared) (H : Hp) (E : XK) (hr : Room k (A.deeper (PyProof.Rows.envOfC "raised" (defScope s_raised) s.heap.objs.size f cdv))) :
    PSs (cxOf (L2.CX P w) P w K mg base N_raised "raised" (defScope s_raised) f cdv A outer s H E) (defBody s_raised) (rdS K ⟨cA, cFv, call, W, E⟩ f_raised.body) := by
  have nd : N_raised.Nodup := sc_raised.nd
  have hu := hr.units
  have hu1 := hu_of hr
  have hx : Passes (L2.CX P w) (cxOf (L2.CX P w) P w K mg base N_raised "raised" (defScope s_raised) f cdv A outer s H E) E := cx_px
  have hpo : PassesOwn (model P w) _ _ (cxOf (L2.CX P w) P w K mg base N_raised "raised" (defScope s_raised) f cdv A outer s H E).xe := cx_po
  exact (s_seq (s_set 2 nd m_int) (s_seq (s_set 3 nd (m_var 0 (pv 0))) (s_seq (s_while hpo (t_cmp o_gt (m_var 1 (pv 1)) m_int) (s_seq (s_if (t_cmp (o_eq hu) (m_bin o_mod (m_var 1 (pv 1)) m_int) m_int) (s_one (s_set 2 nd (m_bin o_mul (m_var 2 (pv 2)) (m_var 3 (pv 3))))) s_nil) (s_seq (s_set 1 nd (m_bin o_fdiv (m_var 1 (pv 1)) m_int)) (s_one (s_if (t_cmp o_gt (m_var 1 (pv 1)) m_int) (s_one (s_set 3 nd (m_bin o_mul (m_var 3 (pv 3)) (m_var 3 (pv 3))))) s_nil))))) (s_one (s_ret (m_var 2 (pv 2)))))))
theorem sc_size_here : FnScope N_size_here [Str.ofString "group"] (defScope s_size_here) := ⟨rfl, rfl, rfl, by decide +kernel, rfl, by decide +kernel, by decide +kernel⟩
theorem w_size_here (T : Tx P w K mg ad fdd cA) (G : ∀ (f : Nat) (E : XK), FnOk P w K mg base (L2.CX P w) k (ad f) (fdd f) (psf f) (spD K ⟨cA, cFv, call, W, E⟩ f)) (f : Addr) (cdv : Value) (A : Around) (outer : List Env) (s : Shared) (H : Hp) (E : XK) (hr : Room k (A.deeper (PyProof.Rows.envOfC "size_here" (defScope s_size_here) s.heap.objs.size f cdv))) :
    PSs (cxOf (L2.CX P w) P w K mg base N_size_here "size_here" (defScope s_size_here) f cdv A outer s H E) (defBody s_size_here) (rdS K ⟨cA, cFv, call, W, E⟩ f_size_here.body) := by
  have nd : N_size_here.Nodup := sc_size_here.nd
  have hu := hr.units
  have hu1 := hu_of hr
  have hx : Passes (L2.CX P w) (cxOf (L2.CX P w) P w K mg base N_size_here "size_here" (defScope s_size_here) f cdv A outer s H E) E := cx_px
  have hpo : PassesOwn (model P w) _ _ (cxOf (L2.CX P w) P w K mg base N_size_here "size_here" (defScope s_size_here) f cdv A outer s H E).xe := cx_po
  exact (s_seq (s_set 1 nd m_int) (s_seq (s_for (t := (.tp [2, 3])) hpo rfl (i_seqT (m_var 0 (pv 0))) (pg_tup rfl (pgs_cons (pg_name (i := 2) nd rfl (by first | exact Or.inl rfl | exact Or.inr rfl)) (pgs_cons (pg_name (i := 3) nd rfl (by first | exact Or.inl rfl | exact Or.inr rfl)) pgs_nil))) (s_seq (s_if (PW.pt (w_or (t_cmp (o_ne hu) (m_ix (m_var 2 (pv 2)) m_int) m_str) (w_or1 (t_cmp (o_eq hu) (m_var 3 (pv 3)) m_str)))) (s_one (s_ret m_str)) s_nil) (s_one (s_set 1 nd (m_bin o_mul (m_var 1 (pv 1)) (m_call (G 8 _) hr rfl (T.g 8 (by decide)) (T.kp 8 (by decide)) (T.b 8 (by decide)) hx (m_cons (m_call (G 3 _) hr rfl (T.g 3 (by decide)) (T.kp 3 (by decide)) (T.b 3 (by decide)) hx (m_cons (m_var 2 (pv 2)) m_nil)) (m_cons (m_var 3 (pv 3)) m_nil)))))))) (s_one (s_ret (m_var 1 (pv 1))))))
theorem sc_sum_of_groups : FnScope N_sum_of_groups [Str.ofString "one", Str.ofString "other"] (defScope s_sum_of_groups) := ⟨rfl, rfl, rfl, by decide +kernel, rfl, by decide +kernel, by decide +kernel⟩
theorem w_sum_of_groups (T : Tx P w K mg ad fdd cA) (G : ∀ (f : Nat) (E : XK), FnOk P w K mg base (L2.CX P w) k (ad f) (fdd f) (psf f) (spD K ⟨cA, cFv, call, W, E⟩ f)) (f : Addr) (cdv : Value) (A : Around) (outer : List Env) (s : Shared) (H : Hp) (E : XK) (hr : Room k (A.deeper (PyProof.Rows.envOfC "sum_of_groups" (defScope s_sum_of_groups) s.heap.objs.size f cdv))) (hr3 : Room (k + 3) (A.deeper (PyProof.Rows.envOfC "sum_of_groups" (defScope s_sum_of_groups) s.heap.objs.size f cdv))) {cS PS : Addr} (hcode : cdv = .ref cS) (TB : LamX.TabB base mg cS PS) (hl : LamAt K PS ((PyProof.Rows.envOfC "sum_of_groups" (defScope s_sum_of_groups) s.heap.objs.size f cdv).qual ++ "<lambda>")) (hlu : ∀ q2, LamAt K PS q2 → q2 = (PyProof.Rows.envOfC "sum_of_groups" (defScope s_sum_of_groups) s.heap.objs.size f cdv).qual ++ "<lambda>") :
    PSs (cxOf (L2.CX P w) P w K mg base N_sum_of_groups "sum_of_groups" (defScope s_sum_of_groups) f cdv A outer s H E) (defBody s_sum_of_groups) (rdS K ⟨cA, cFv, call, W, E⟩ f_sum_of_groups.body) := by
  have nd : N_sum_of_groups.Nodup := sc_sum_of_groups.nd
  have hu := hr.units
  have hu1 := hu_of hr
  have hx : Passes (L2.CX P w) (cxOf (L2.CX P w) P w K mg base N_sum_of_groups "sum_of_groups" (defScope s_sum_of_groups) f cdv A outer s H E) E := cx_px
  have hpo : PassesOwn (model P w) _ _ (cxOf (L2.CX P w) P w K mg base N_sum_of_groups "sum_of_groups" (defScope s_sum_of_groups) f cdv A outer s H E).xe := cx_po
  exact (s_seq (s_expr (m_call (G 7 _) hr rfl (T.g 7 (by decide)) (T.kp 7 (by decide)) (T.b 7 (by decide)) hx (m_cons (m_var 0 (pv 0)) m_nil))) (s_seq (s_expr (m_call (G 7 _) hr rfl (T.g 7 (by decide)) (T.kp 7 (by decide)) (T.b 7 (by decide)) hx (m_cons (m_var 1 (pv 1)) m_nil))) (s_seq (s_newD 2 nd) (s_seq (s_for (t := (.tp [3, 4])) hpo rfl (i_seqT (m_bin o_add (m_var 0 (pv 0)) (m_var 1 (pv 1)))) (pg_tup rfl (pgs_cons (pg_name (i := 3) nd rfl (by first | exact Or.inl rfl | exact Or.inr rfl)) (pgs_cons (pg_name (i := 4) nd rfl (by first | exact Or.inl rfl | exact Or.inr rfl)) pgs_nil))) (s_seq (s_set 6 nd (m_dget 2 hu1 (pv 2) (m_var 3 (pv 3)) m_int)) (s_one (s_dset 2 hu1 (pv 2) (m_var 3 (pv 3)) (m_ifx (t_cmp o_in m_str (m_tup (m_cons (m_var 6 (pv 6)) (m_cons (m_var 4 (pv 4)) m_nil)))) m_str (m_bin o_add (m_var 6 (pv 6)) (m_var 4 (pv 4)))))))) (s_seq (s_set 5 nd (m_bltT b_tuple rfl T.tuple (by decide +kernel) (m_cons (m_sortL (a := (Str.ofString "summand")) (k := k) (S := ⟨cA, cFv, call, W, E⟩) hr3 TB hcode hl hlu rfl ⟨rfl, rfl, rfl, by decide +kernel, rfl, by decide +kernel, by decide +kernel⟩ rfl (fun _ _ _ _ => rfl) (fun fa c' s' H' hrb => m_call (G 4 _) hrb rfl (T.g 4 (by decide)) (T.kp 4 (by decide)) (T.b 4 (by decide)) cx_px0 (m_cons (m_ix (m_var 0 (pv 0)) m_int) m_nil)) (m_lock 2 (m_lc [((Str.ofString "kind"), 3)] rfl nd (i_dkeys 2 (pv 2)) (blkOk_by (N := N_sum_of_groups) (sc := (defScope s_sum_of_groups)) (own := [((Str.ofString "kind"), 3)]) (by decide +kernel)) (fun _ _ _ _ _ => (pg_name (i := 3) nd rfl (by first | exact Or.inl rfl | exact Or.inr rfl))) (fun _ _ _ _ _ => pts_no) (fun _ _ _ _ _ => (m_tup (m_cons (m_var 3 (pv 3)) (m_cons (m_dix 2 hu1 (pv 2) (m_var 3 (pv 3))) m_nil)))))) rfl T.sorted) m_nil))) (s_seq (s_expr (m_call (G 7 _) hr rfl (T.g 7 (by decide)) (T.kp 7 (by decide)) (T.b 7 (by decide)) hx (m_cons (m_var 5 (pv 5)) m_nil))) (s_one (s_ret (m_var 5 (pv 5))))))))))
theorem sc_is_power : FnScope N_is_power [Str.ofString "value", Str.ofString "prime"] (defScope s_is_power) := ⟨rfl, rfl, rfl, by decide +kernel, rfl, by decide +kernel, by decide +kernel⟩
theorem w_is_power (T : Tx P w K mg ad fdd cA) (G : ∀ (f : Nat) (E : XK), FnOk P w K mg base (L2.CX P w) k (ad f) (fdd f) (psf f) (spD K ⟨cA, cFv, call, W, E⟩ f)) (f : Addr) (cdv : Value) (A : Around) (outer : List Env) (s : Shared) (H : Hp) (E : XK) (hr : Room k (A.deeper (PyProof.Rows.envOfC "is_power" (defScope s_is_power) s.heap.objs.size f cdv))) :
    PSs (cxOf (L2.CX P w) P w K mg base N_is_power "is_power" (defScope s_is_power) f cdv A outer s H E) (defBody s_is_power) (rdS K ⟨cA, cFv, call, W, E⟩ f_is_power.body) := by
  have nd : N_is_power.Nodup := sc_is_power.nd
  have hu := hr.units
  have hu1 := hu_of hr
  have hx : Passes (L2.CX P w) (cxOf (L2.CX P w) P w K mg base N_is_power "is_power" (defScope s_is_power) f cdv A outer s H E) E := cx_px
  have hpo : PassesOwn (model P w) _ _ (cxOf (L2.CX P w) P w K mg base N_is_power "is_power" (defScope s_is_power) f cdv A outer s H E).xe := cx_po
  exact (s_seq (s_while hpo (t_cmp (o_eq hu) (m_bin o_mod (m_var 0 (pv 0)) (m_var 1 (pv 1))) m_int) (s_one (s_set 0 nd (m_bin o_fdiv (m_var 0 (pv 0)) (m_var 1 (pv 1)))))) (s_one (s_ret (m_cmp (o_eq hu) (m_var 0 (pv 0)) m_int))))
theorem sc_is_fraction : FnScope N_is_fraction [Str.ofString "value"] (defScope s_is_fraction) := ⟨rfl, rfl, rfl, by decide +kernel, rfl, by decide +kernel, by decide +kernel⟩
theorem w_is_fraction (T : Tx P w K mg ad fdd cA) (G : ∀ (f : Nat) (E : XK), FnOk P w K mg base (L2.CX P w) k (ad f) (fdd f) (psf f) (spD K ⟨cA, cFv, call, W, E⟩ f)) (f : Addr) (cdv : Value) (A : Around) (outer : List Env) (s : Shared) (H : Hp) (E : XK) (hr : Room k (A.deeper (PyProof.Rows.envOfC "is_fraction" (defScope s_is_fraction) s.heap.objs.size f cdv))) :
    PSs (cxOf (L2.CX P w) P w K mg base N_is_fraction "is_fraction" (defScope s_is_fraction) f cdv A outer s H E) (defBody s_is_fraction) (rdS K ⟨cA, cFv, call, W, E⟩ f_is_fraction.body) := by
  have nd : N_is_fraction.Nodup := sc_is_fraction.nd
  have hu := hr.units
  have hu1 := hu_of hr
  have hx : Passes (L2.CX P w) (cxOf (L2.CX P w) P w K mg base N_is_fraction "is_fraction" (defScope s_is_fraction) f cdv A outer s H E) E := cx_px
  have hpo : PassesOwn (model P w) _ _ (cxOf (L2.CX P w) P w K mg base N_is_fraction "is_fraction" (defScope s_is_fraction) f cdv A outer s H E).xe := cx_po
  obtain ⟨_, c_MOST_PLACE⟩ := T.t_MOST_PLACE
  exact (s_seq (s_if (PW.pt (w_or (t_not (t_val (m_isi .tuple (m_var 0 (pv 0)) rfl T.isinstance rfl rfl T.tuple))) (w_or1 (t_cmp (o_ne hu) (m_bltB b_len rfl T.len (by decide +kernel) (m_cons (m_var 0 (pv 0)) m_nil)) m_int)))) (s_one (s_ret m_bl)) s_nil) (s_seq (s_if (PW.pt (w_or (t_not (t_val (m_call (G 0 _) hr rfl (T.g 0 (by decide)) (T.kp 0 (by decide)) (T.b 0 (by decide)) hx (m_cons (m_ix (m_var 0 (pv 0)) m_int) (m_cons (m_neg (m_glob rfl c_MOST_PLACE)) (m_cons (m_glob rfl c_MOST_PLACE) m_nil)))))) (w_or1 (t_not (t_val (m_call (G 0 _) hr rfl (T.g 0 (by decide)) (T.kp 0 (by decide)) (T.b 0 (by decide)) hx (m_cons (m_ix (m_var 0 (pv 0)) m_int) (m_cons m_int (m_cons (m_glob rfl c_MOST_PLACE) m_nil))))))))) (s_one (s_ret m_bl)) s_nil) (s_one (s_ret (m_cmp (o_eq hu) (m_bltM b_gcd rfl T.c_gcd (m_cons (m_ix (m_var 0 (pv 0)) m_int) (m_cons (m_ix (m_var 0 (pv 0)) m_int) m_nil))) m_int)))))
theorem sc_is_place : FnScope N_is_place [Str.ofString "kind", Str.ofString "value"] (defScope s_is_place) := ⟨rfl, rfl, rfl, by decide +kernel, rfl, by decide +kernel, by decide +kernel⟩
theorem w_is_place (T : Tx P w K mg ad fdd cA) (G : ∀ (f : Nat) (E : XK), FnOk P w K mg base (L2.CX P w) k (ad f) (fdd f) (psf f) (spD K ⟨cA, cFv, call, W, E⟩ f)) (f : Addr) (cdv : Value) (A : Around) (outer : List Env) (s : Shared) (H : Hp) (E : XK) (hr : Room k (A.deeper (PyProof.Rows.envOfC "is_place" (defScope s_is_place) s.heap.objs.size f cdv))) :
    PSs (cxOf (L2.CX P w) P w K mg base N_is_place "is_place" (defScope s_is_place) f cdv A outer s H E) (defBody s_is_place) (rdS K ⟨cA, cFv, call, W, E⟩ f_is_place.body) := by
  have nd : N_is_place.Nodup := sc_is_place.nd
  have hu := hr.units
  have hu1 := hu_of hr
  have hx : Passes (L2.CX P w) (cxOf (L2.CX P w) P w K mg base N_is_place "is_place" (defScope s_is_place) f cdv A outer s H E) E := cx_px
  have hpo : PassesOwn (model P w) _ _ (cxOf (L2.CX P w) P w K mg base N_is_place "is_place" (defScope s_is_place) f cdv A outer s H E).xe := cx_po
  obtain ⟨_, c_MOST_PLACE⟩ := T.t_MOST_PLACE
  exact (s_seq (s_if (t_cmp (o_eq hu) (m_ix (m_var 0 (pv 0)) m_int) m_str) (s_one (s_ret (m_call (G 0 _) hr rfl (T.g 0 (by decide)) (T.kp 0 (by decide)) (T.b 0 (by decide)) hx (m_cons (m_var 1 (pv 1)) (m_cons m_int (m_cons (m_bin o_sub (m_call (G 3 _) hr rfl (T.g 3 (by decide)) (T.kp 3 (by decide)) (T.b 3 (by decide)) hx (m_cons (m_var 0 (pv 0)) m_nil)) m_int) m_nil)))))) s_nil) (s_seq (s_if (t_cmp (o_eq hu) (m_ix (m_var 0 (pv 0)) m_int) m_str) (s_one (s_ret (m_call (G 0 _) hr rfl (T.g 0 (by decide)) (T.kp 0 (by decide)) (T.b 0 (by decide)) hx (m_cons (m_var 1 (pv 1)) (m_cons (m_neg (m_glob rfl c_MOST_PLACE)) (m_cons (m_glob rfl c_MOST_PLACE) m_nil)))))) s_nil) (s_seq (s_if (t_not (t_val (m_call (G 12 _) hr rfl (T.g 12 (by decide)) (T.kp 12 (by decide)) (T.b 12 (by decide)) hx (m_cons (m_var 1 (pv 1)) m_nil)))) (s_one (s_ret m_bl)) s_nil) (s_one (s_ret (m_or (m_cmp (o_eq hu) (m_ix (m_var 0 (pv 0)) m_int) m_str) (m_one (m_and (m_chain o_le (o_lt hu) m_int (m_ix (m_var 1 (pv 1)) m_int) (m_ix (m_var 1 (pv 1)) m_int)) (m_one (m_call (G 11 _) hr rfl (T.g 11 (by decide)) (T.kp 11 (by decide)) (T.b 11 (by decide)) hx (m_cons (m_ix (m_var 1 (pv 1)) m_int) (m_cons (m_ix (m_var 0 (pv 0)) m_int) m_nil))))))))))))
theorem sc_zero_place : FnScope N_zero_place [Str.ofString "kind"] (defScope s_zero_place) := ⟨rfl, rfl, rfl, by decide +kernel, rfl, by decide +kernel, by decide +kernel⟩
theorem w_zero_place (T : Tx P w K mg ad fdd cA) (G : ∀ (f : Nat) (E : XK), FnOk P w K mg base (L2.CX P w) k (ad f) (fdd f) (psf f) (spD K ⟨cA, cFv, call, W, E⟩ f)) (f : Addr) (cdv : Value) (A : Around) (outer : List Env) (s : Shared) (H : Hp) (E : XK) (hr : Room k (A.deeper (PyProof.Rows.envOfC "zero_place" (defScope s_zero_place) s.heap.objs.size f cdv))) :
    PSs (cxOf (L2.CX P w) P w K mg base N_zero_place "zero_place" (defScope s_zero_place) f cdv A outer s H E) (defBody s_zero_place) (rdS K ⟨cA, cFv, call, W, E⟩ f_zero_place.body) := by
  have nd : N_zero_place.Nodup := sc_zero_place.nd
  have hu := hr.units
  have hu1 := hu_of hr
  have hx : Passes (L2.CX P w) (cxOf (L2.CX P w) P w K mg base N_zero_place "zero_place" (defScope s_zero_place) f cdv A outer s H E) E := cx_px
  have hpo : PassesOwn (model P w) _ _ (cxOf (L2.CX P w) P w K mg base N_zero_place "zero_place" (defScope s_zero_place) f cdv A outer s H E).xe := cx_po
  exact (s_one (s_ret (m_ifx (t_cmp o_in (m_ix (m_var 0 (pv 0)) m_int) (m_tup (m_cons m_str (m_cons m_str m_nil)))) m_int (m_tup (m_cons m_int (m_cons m_int m_nil))))))
theorem sc_are_places : FnScope N_are_places [Str.ofString "summand", Str.ofString "value"] (defScope s_are_places) := ⟨rfl, rfl, rfl, by decide +kernel, rfl, by decide +kernel, by decide +kernel⟩
theorem w_are_places (T : Tx P w K mg ad fdd cA) (G : ∀ (f : Nat) (E : XK), FnOk P w K mg base (L2.CX P w) k (ad f) (fdd f) (psf f) (spD K ⟨cA, cFv, call, W, E⟩ f)) (f : Addr) (cdv : Value) (A : Around) (outer : List Env) (s : Shared) (H : Hp) (E : XK) (hr : Room k (A.deeper (PyProof.Rows.envOfC "are_places" (defScope s_are_places) s.heap.objs.size f cdv))) :
    PSs (cxOf (L2.CX P w) P w K mg base N_are_places "are_places" (defScope s_are_places) f cdv A outer s H E) (defBody s_are_places) (rdS K ⟨cA, cFv, call, W, E⟩ f_are_places.body) := by
  have nd : N_are_places.Nodup := sc_are_places.nd
  have hu := hr.units
  have hu1 := hu_of hr
  have hx : Passes (L2.CX P w) (cxOf (L2.CX P w) P w K mg base N_are_places "are_places" (defScope s_are_places) f cdv A outer s H E) E := cx_px
  have hpo : PassesOwn (model P w) _ _ (cxOf (L2.CX P w) P w K mg base N_are_places "are_places" (defScope s_are_places) f cdv A outer s H E).xe := cx_po
  obtain ⟨_, c_MOST_PLACES⟩ := T.t_MOST_PLACES
  exact (s_seq (s_asg (t := (.tp [2, 3])) (m_var 0 (pv 0)) (pg_tup rfl (pgs_cons (pg_name (i := 2) nd rfl (by first | exact Or.inl rfl | exact Or.inr rfl)) (pgs_cons (pg_name (i := 3) nd rfl (by first | exact Or.inl rfl | exact Or.inr rfl)) pgs_nil)))) (s_seq (s_if (PW.pt (w_or (t_not (t_val (m_isi .tuple (m_var 1 (pv 1)) rfl T.isinstance rfl rfl T.tuple))) (w_or1 (t_not (t_val (m_bltB (b_all rfl) rfl T.all (by decide +kernel) (m_cons (m_lc [((Str.ofString "place"), 5)] rfl nd (i_seqT (m_var 1 (pv 1))) (blkOk_by (N := N_are_places) (sc := (defScope s_are_places)) (own := [((Str.ofString "place"), 5)]) (by decide +kernel)) (fun _ _ _ _ _ => (pg_name (i := 5) nd rfl (by first | exact Or.inl rfl | exact Or.inr rfl))) (fun _ _ _ _ _ => pts_no) (fun _ _ _ _ _ => (m_call (G 13 _) hr rfl (T.g 13 (by decide)) (T.kp 13 (by decide)) (T.b 13 (by decide)) passL (m_cons (m_var 2 (pv 2)) (m_cons (m_var 5 (pv 5)) m_nil))))) m_nil))))))) (s_one (s_ret m_bl)) s_nil) (s_seq (s_set 4 nd (m_ifx (t_cmp (o_eq hu) (m_var 3 (pv 3)) m_str) (m_glob rfl c_MOST_PLACES) (m_var 3 (pv 3)))) (s_one (s_ret (m_and (m_cmp o_le (m_bltB b_len rfl T.len (by decide +kernel) (m_cons (m_var 1 (pv 1)) m_nil)) (m_var 4 (pv 4))) (m_one (m_or (m_cmp (o_eq hu) (m_bltB b_len rfl T.len (by decide +kernel) (m_cons (m_var 1 (pv 1)) m_nil)) m_int) (m_one (m_cmp (o_ne hu) (m_ix (m_var 1 (pv 1)) (m_neg m_int)) (m_call (G 14 _) hr rfl (T.g 14 (by decide)) (T.kp 14 (by decide)) (T.b 14 (by decide)) hx (m_cons (m_var 2 (pv 2)) m_nil))))))))))))
theorem sc_is_element : FnScope N_is_element [Str.ofString "group", Str.ofString "value"] (defScope s_is_element) := ⟨rfl, rfl, rfl, by decide +kernel, rfl, by decide +kernel, by decide +kernel⟩
theorem w_is_element (T : Tx P w K mg ad fdd cA) (G : ∀ (f : Nat) (E : XK), FnOk P w K mg base (L2.CX P w) k (ad f) (fdd f) (psf f) (spD K ⟨cA, cFv, call, W, E⟩ f)) (f : Addr) (cdv : Value) (A : Around) (outer : List Env) (s : Shared) (H : Hp) (E : XK) (hr : Room k (A.deeper (PyProof.Rows.envOfC "is_element" (defScope s_is_element) s.heap.objs.size f cdv))) :
    PSs (cxOf (L2.CX P w) P w K mg base N_is_element "is_element" (defScope s_is_element) f cdv A outer s H E) (defBody s_is_element) (rdS K ⟨cA, cFv, call, W, E⟩ f_is_element.body) := by
  have nd : N_is_element.Nodup := sc_is_element.nd
  have hu := hr.units
  have hu1 := hu_of hr
  have hx : Passes (L2.CX P w) (cxOf (L2.CX P w) P w K mg base N_is_element "is_element" (defScope s_is_element) f cdv A outer s H E) E := cx_px
  have hpo : PassesOwn (model P w) _ _ (cxOf (L2.CX P w) P w K mg base N_is_element "is_element" (defScope s_is_element) f cdv A outer s H E).xe := cx_po
  exact (s_seq (s_if (PW.pt (w_or (t_not (t_val (m_isi .tuple (m_var 1 (pv 1)) rfl T.isinstance rfl rfl T.tuple))) (w_or1 (t_cmp (o_ne hu) (m_bltB b_len rfl T.len (by decide +kernel) (m_cons (m_var 1 (pv 1)) m_nil)) (m_bltB b_len rfl T.len (by decide +kernel) (m_cons (m_var 0 (pv 0)) m_nil)))))) (s_one (s_ret m_bl)) s_nil) (s_one (s_ret (m_bltB (b_all rfl) rfl T.all (by decide +kernel) (m_cons (m_lc [((Str.ofString "summand"), 2), ((Str.ofString "part"), 3)] rfl nd (i_zipT rfl T.zip (m_var 0 (pv 0)) (m_var 1 (pv 1))) (blkOk_by (N := N_is_element) (sc := (defScope s_is_element)) (own := [((Str.ofString "summand"), 2), ((Str.ofString "part"), 3)]) (by decide +kernel)) (fun _ _ _ _ _ => (pg_tup rfl (pgs_cons (pg_name (i := 2) nd rfl (by first | exact Or.inl rfl | exact Or.inr rfl)) (pgs_cons (pg_name (i := 3) nd rfl (by first | exact Or.inl rfl | exact Or.inr rfl)) pgs_nil)))) (fun _ _ _ _ _ => pts_no) (fun _ _ _ _ _ => (m_call (G 15 _) hr rfl (T.g 15 (by decide)) (T.kp 15 (by decide)) (T.b 15 (by decide)) passL (m_cons (m_var 2 (pv 2)) (m_cons (m_var 3 (pv 3)) m_nil))))) m_nil)))))
theorem sc_need_element : FnScope N_need_element [Str.ofString "group", Str.ofString "element"] (defScope s_need_element) := ⟨rfl, rfl, rfl, by decide +kernel, rfl, by decide +kernel, by decide +kernel⟩
theorem w_need_element (T : Tx P w K mg ad fdd cA) (G : ∀ (f : Nat) (E : XK), FnOk P w K mg base (L2.CX P w) k (ad f) (fdd f) (psf f) (spD K ⟨cA, cFv, call, W, E⟩ f)) (f : Addr) (cdv : Value) (A : Around) (outer : List Env) (s : Shared) (H : Hp) (E : XK) (hr : Room k (A.deeper (PyProof.Rows.envOfC "need_element" (defScope s_need_element) s.heap.objs.size f cdv))) :
    PSs (cxOf (L2.CX P w) P w K mg base N_need_element "need_element" (defScope s_need_element) f cdv A outer s H E) (defBody s_need_element) (rdS K ⟨cA, cFv, call, W, E⟩ f_need_element.body) := by
  have nd : N_need_element.Nodup := sc_need_element.nd
  have hu := hr.units
  have hu1 := hu_of hr
  have hx : Passes (L2.CX P w) (cxOf (L2.CX P w) P w K mg base N_need_element "need_element" (defScope s_need_element) f cdv A outer s H E) E := cx_px
  have hpo : PassesOwn (model P w) _ _ (cxOf (L2.CX P w) P w K mg base N_need_element "need_element" (defScope s_need_element) f cdv A outer s H E).xe := cx_po
  obtain ⟨_, e_BadElement⟩ := T.e_BadElement
  have fld_value := PySem.ErrX.fld_value
  exact (s_seq (s_expr (m_call (G 7 _) hr rfl (T.g 7 (by decide)) (T.kp 7 (by decide)) (T.b 7 (by decide)) hx (m_cons (m_var 0 (pv 0)) m_nil))) (s_one (s_if (t_not (t_val (m_call (G 16 _) hr rfl (T.g 16 (by decide)) (T.kp 16 (by decide)) (T.b 16 (by decide)) hx (m_cons (m_var 0 (pv 0)) (m_cons (m_var 1 (pv 1)) m_nil))))) (s_one (s_raise (c := 1) fld_value e_BadElement rfl hr (takes_of rfl rfl rfl rfl) (m_var 1 (pv 1)) rfl)) s_nil)))
theorem sc_trimmed : FnScope N_trimmed [Str.ofString "summand", Str.ofString "places"] (defScope s_trimmed) := ⟨rfl, rfl, rfl, by decide +kernel, rfl, by decide +kernel, by decide +kernel⟩
theorem w_trimmed (T : Tx P w K mg ad fdd cA) (G : ∀ (f : Nat) (E : XK), FnOk P w K mg base (L2.CX P w) k (ad f) (fdd f) (psf f) (spD K ⟨cA, cFv, call, W, E⟩ f)) (f : Addr) (cdv : Value) (A : Around) (outer : List Env) (s : Shared) (H : Hp) (E : XK) (hr : Room k (A.deeper (PyProof.Rows.envOfC "trimmed" (defScope s_trimmed) s.heap.objs.size f cdv))) :
    PSs (cxOf (L2.CX P w) P w K mg base N_trimmed "trimmed" (defScope s_trimmed) f cdv A outer s H E) (defBody s_trimmed) (rdS K ⟨cA, cFv, call, W, E⟩ f_trimmed.body) := by
  have nd : N_trimmed.Nodup := sc_trimmed.nd
  have hu := hr.units
  have hu1 := hu_of hr
  have hx : Passes (L2.CX P w) (cxOf (L2.CX P w) P w K mg base N_trimmed "trimmed" (defScope s_trimmed) f cdv A outer s H E) E := cx_px
  have hpo : PassesOwn (model P w) _ _ (cxOf (L2.CX P w) P w K mg base N_trimmed "trimmed" (defScope s_trimmed) f cdv A outer s H E).xe := cx_po
  exact (s_seq (s_newLl 2 nd (m_var 1 (pv 1)) rfl T.list) (s_seq (s_while hpo (t_pk [2] (PW.pt (w_and (t_cmp o_gt (m_bltB b_len rfl T.len (by decide +kernel) (m_cons (m_var 2 (pv 2)) m_nil)) m_int) (w_and1 (t_cmp (o_eq hu) (m_ix (m_var 2 (pv 2)) (m_neg m_int)) (m_call (G 14 _) hr rfl (T.g 14 (by decide)) (T.kp 14 (by decide)) (T.b 14 (by decide)) hx (m_cons (m_ix (m_var 0 (pv 0)) m_int) m_nil))))))) (s_one (s_pop 2 (pv 2)))) (s_frz 2 (s_one (s_ret (m_bltT b_tuple rfl T.tuple (by decide +kernel) (m_cons (m_var 2 (pv 2)) m_nil)))))))
theorem sc_lowest : FnScope N_lowest [Str.ofString "above", Str.ofString "below"] (defScope s_lowest) := ⟨rfl, rfl, rfl, by decide +kernel, rfl, by decide +kernel, by decide +kernel⟩
theorem w_lowest (T : Tx P w K mg ad fdd cA) (G : ∀ (f : Nat) (E : XK), FnOk P w K mg base (L2.CX P w) k (ad f) (fdd f) (psf f) (spD K ⟨cA, cFv, call, W, E⟩ f)) (f : Addr) (cdv : Value) (A : Around) (outer : List Env) (s : Shared) (H : Hp) (E : XK) (hr : Room k (A.deeper (PyProof.Rows.envOfC "lowest" (defScope s_lowest) s.heap.objs.size f cdv))) :
    PSs (cxOf (L2.CX P w) P w K mg base N_lowest "lowest" (defScope s_lowest) f cdv A outer s H E) (defBody s_lowest) (rdS K ⟨cA, cFv, call, W, E⟩ f_lowest.body) := by
  have nd : N_lowest.Nodup := sc_lowest.nd
  have hu := hr.units
  have hu1 := hu_of hr
  have hx : Passes (L2.CX P w) (cxOf (L2.CX P w) P w K mg base N_lowest "lowest" (defScope s_lowest) f cdv A outer s H E) E := cx_px
  have hpo : PassesOwn (model P w) _ _ (cxOf (L2.CX P w) P w K mg base N_lowest "lowest" (defScope s_lowest) f cdv A outer s H E).xe := cx_po
  exact (s_seq (s_set 2 nd (m_bltM b_gcd rfl T.c_gcd (m_cons (m_var 0 (pv 0)) (m_cons (m_var 1 (pv 1)) m_nil)))) (s_one (s_ret (m_tup (m_cons (m_bin o_fdiv (m_var 0 (pv 0)) (m_var 2 (pv 2))) (m_cons (m_bin o_fdiv (m_var 1 (pv 1)) (m_var 2 (pv 2))) m_nil))))))
theorem sc_place_of : FnScope N_place_of [Str.ofString "kind", Str.ofString "factor", Str.ofString "place"] (defScope s_place_of) := ⟨rfl, rfl, rfl, by decide +kernel, rfl, by decide +kernel, by decide +kernel⟩
theorem w_place_of (T : Tx P w K mg ad fdd cA) (G : ∀ (f : Nat) (E : XK), FnOk P w K mg base (L2.CX P w) k (ad f) (fdd f) (psf f) (spD K ⟨cA, cFv, call, W, E⟩ f)) (f : Addr) (cdv : Value) (A : Around) (outer : List Env) (s : Shared) (H : Hp) (E : XK) (hr : Room k (A.deeper (PyProof.Rows.envOfC "place_of" (defScope s_place_of) s.heap.objs.size f cdv))) :
    PSs (cxOf (L2.CX P w) P w K mg base N_place_of "place_of" (defScope s_place_of) f cdv A outer s H E) (defBody s_place_of) (rdS K ⟨cA, cFv, call, W, E⟩ f_place_of.body) := by
  have nd : N_place_of.Nodup := sc_place_of.nd
  have hu := hr.units
  have hu1 := hu_of hr
  have hx : Passes (L2.CX P w) (cxOf (L2.CX P w) P w K mg base N_place_of "place_of" (defScope s_place_of) f cdv A outer s H E) E := cx_px
  have hpo : PassesOwn (model P w) _ _ (cxOf (L2.CX P w) P w K mg base N_place_of "place_of" (defScope s_place_of) f cdv A outer s H E).xe := cx_po
  exact (s_seq (s_if (t_cmp (o_eq hu) (m_ix (m_var 0 (pv 0)) m_int) m_str) (s_one (s_ret (m_bin o_mod (m_bin o_mul (m_var 1 (pv 1)) (m_var 2 (pv 2))) (m_call (G 3 _) hr rfl (T.g 3 (by decide)) (T.kp 3 (by decide)) (T.b 3 (by decide)) hx (m_cons (m_var 0 (pv 0)) m_nil))))) s_nil) (s_seq (s_if (t_cmp (o_eq hu) (m_ix (m_var 0 (pv 0)) m_int) m_str) (s_one (s_ret (m_bin o_mul (m_var 1 (pv 1)) (m_var 2 (pv 2))))) s_nil) (s_seq (s_asg (t := (.tp [3, 4])) (m_call (G 19 _) hr rfl (T.g 19 (by decide)) (T.kp 19 (by decide)) (T.b 19 (by decide)) hx (m_cons (m_bin o_mul (m_var 1 (pv 1)) (m_ix (m_var 2 (pv 2)) m_int)) (m_cons (m_ix (m_var 2 (pv 2)) m_int) m_nil))) (pg_tup rfl (pgs_cons (pg_name (i := 3) nd rfl (by first | exact Or.inl rfl | exact Or.inr rfl)) (pgs_cons (pg_name (i := 4) nd rfl (by first | exact Or.inl rfl | exact Or.inr rfl)) pgs_nil)))) (s_one (s_ret (m_ifx (t_cmp (o_eq hu) (m_ix (m_var 0 (pv 0)) m_int) m_str) (m_tup (m_cons (m_bin o_mod (m_var 3 (pv 3)) (m_var 4 (pv 4))) (m_cons (m_var 4 (pv 4)) m_nil))) (m_tup (m_cons (m_var 3 (pv 3)) (m_cons (m_var 4 (pv 4)) m_nil)))))))))
theorem sc_times_here : FnScope N_times_here [Str.ofString "group", Str.ofString "factor", Str.ofString "element"] (defScope s_times_here) := ⟨rfl, rfl, rfl, by decide +kernel, rfl, by decide +kernel, by decide +kernel⟩
theorem w_times_here (T : Tx P w K mg ad fdd cA) (G : ∀ (f : Nat) (E : XK), FnOk P w K mg base (L2.CX P w) k (ad f) (fdd f) (psf f) (spD K ⟨cA, cFv, call, W, E⟩ f)) (f : Addr) (cdv : Value) (A : Around) (outer : List Env) (s : Shared) (H : Hp) (E : XK) (hr : Room k (A.deeper (PyProof.Rows.envOfC "times_here" (defScope s_times_here) s.heap.objs.size f cdv))) :
    PSs (cxOf (L2.CX P w) P w K mg base N_times_here "times_here" (defScope s_times_here) f cdv A outer s H E) (defBody s_times_here) (rdS K ⟨cA, cFv, call, W, E⟩ f_times_here.body) := by
  have nd : N_times_here.Nodup := sc_times_here.nd
  have hu := hr.units
  have hu1 := hu_of hr
  have hx : Passes (L2.CX P w) (cxOf (L2.CX P w) P w K mg base N_times_here "times_here" (defScope s_times_here) f cdv A outer s H E) E := cx_px
  have hpo : PassesOwn (model P w) _ _ (cxOf (L2.CX P w) P w K mg base N_times_here "times_here" (defScope s_times_here) f cdv A outer s H E).xe := cx_po
  exact (s_seq (s_newL 3 nd) (s_seq (s_for (t := (.tp [4, 5])) hpo rfl (i_zipT rfl T.zip (m_var 0 (pv 0)) (m_var 2 (pv 2))) (pg_tup rfl (pgs_cons (pg_name (i := 4) nd rfl (by first | exact Or.inl rfl | exact Or.inr rfl)) (pgs_cons (pg_name (i := 5) nd rfl (by first | exact Or.inl rfl | exact Or.inr rfl)) pgs_nil))) (s_one (s_app 3 (pv 3) (m_call (G 18 _) hr rfl (T.g 18 (by decide)) (T.kp 18 (by decide)) (T.b 18 (by decide)) hx (m_cons (m_var 4 (pv 4)) (m_cons (m_lc [((Str.ofString "place"), 6)] rfl nd (i_seqT (m_var 5 (pv 5))) (blkOk_by (N := N_times_here) (sc := (defScope s_times_here)) (own := [((Str.ofString "place"), 6)]) (by decide +kernel)) (fun _ _ _ _ _ => (pg_name (i := 6) nd rfl (by first | exact Or.inl rfl | exact Or.inr rfl))) (fun _ _ _ _ _ => pts_no) (fun _ _ _ _ _ => (m_call (G 20 _) hr rfl (T.g 20 (by decide)) (T.kp 20 (by decide)) (T.b 20 (by decide)) passL (m_cons (m_ix (m_var 4 (pv 4)) m_int) (m_cons (m_var 1 (pv 1)) (m_cons (m_var 6 (pv 6)) m_nil)))))) m_nil)))))) (s_frz 3 (s_one (s_ret (m_bltT b_tuple rfl T.tuple (by decide +kernel) (m_cons (m_var 3 (pv 3)) m_nil)))))))
theorem sc_power_in : FnScope N_power_in [Str.ofString "value", Str.ofString "prime", Str.ofString "most"] (defScope s_power_in) := ⟨rfl, rfl, rfl, by decide +kernel, rfl, by decide +kernel, by decide +kernel⟩
theorem w_power_in (T : Tx P w K mg ad fdd cA) (G : ∀ (f : Nat) (E : XK), FnOk P w K mg base (L2.CX P w) k (ad f) (fdd f) (psf f) (spD K ⟨cA, cFv, call, W, E⟩ f)) (f : Addr) (cdv : Value) (A : Around) (outer : List Env) (s : Shared) (H : Hp) (E : XK) (hr : Room k (A.deeper (PyProof.Rows.envOfC "power_in" (defScope s_power_in) s.heap.objs.size f cdv))) :
    PSs (cxOf (L2.CX P w) P w K mg base N_power_in "power_in" (defScope s_power_in) f cdv A outer s H E) (defBody s_power_in) (rdS K ⟨cA, cFv, call, W, E⟩ f_power_in.body) := by
  have nd : N_power_in.Nodup := sc_power_in.nd
  have hu := hr.units
  have hu1 := hu_of hr
  have hx : Passes (L2.CX P w) (cxOf (L2.CX P w) P w K mg base N_power_in "power_in" (defScope s_power_in) f cdv A outer s H E) E := cx_px
  have hpo : PassesOwn (model P w) _ _ (cxOf (L2.CX P w) P w K mg base N_power_in "power_in" (defScope s_power_in) f cdv A outer s H E).xe := cx_po
  exact (s_seq (s_if (t_cmp (o_eq hu) (m_var 0 (pv 0)) m_int) (s_one (s_ret (m_var 2 (pv 2)))) s_nil) (s_seq (s_set 3 nd m_int) (s_seq (s_while hpo (PW.pt (w_and (t_cmp (o_lt hu) (m_var 3 (pv 3)) (m_var 2 (pv 2))) (w_and1 (t_cmp (o_eq hu) (m_bin o_mod (m_var 0 (pv 0)) (m_var 1 (pv 1))) m_int)))) (s_seq (s_set 0 nd (m_bin o_fdiv (m_var 0 (pv 0)) (m_var 1 (pv 1)))) (s_one (s_set 3 nd (m_bin o_add (m_var 3 (pv 3)) m_int))))) (s_one (s_ret (m_var 3 (pv 3)))))))
theorem sc_place_parts : FnScope N_place_parts [Str.ofString "kind", Str.ofString "by", Str.ofString "place"] (defScope s_place_parts) := ⟨rfl, rfl, rfl, by decide +kernel, rfl, by decide +kernel, by decide +kernel⟩
theorem w_place_parts (T : Tx P w K mg ad fdd cA) (G : ∀ (f : Nat) (E : XK), FnOk P w K mg base (L2.CX P w) k (ad f) (fdd f) (psf f) (spD K ⟨cA, cFv, call, W, E⟩ f)) (f : Addr) (cdv : Value) (A : Around) (outer : List Env) (s : Shared) (H : Hp) (E : XK) (hr : Room k (A.deeper (PyProof.Rows.envOfC "place_parts" (defScope s_place_parts) s.heap.objs.size f cdv))) :
    PSs (cxOf (L2.CX P w) P w K mg base N_place_parts "place_parts" (defScope s_place_parts) f cdv A outer s H E) (defBody s_place_parts) (rdS K ⟨cA, cFv, call, W, E⟩ f_place_parts.body) := by
  have nd : N_place_parts.Nodup := sc_place_parts.nd
  have hu := hr.units
  have hu1 := hu_of hr
  have hx : Passes (L2.CX P w) (cxOf (L2.CX P w) P w K mg base N_place_parts "place_parts" (defScope s_place_parts) f cdv A outer s H E) E := cx_px
  have hpo : PassesOwn (model P w) _ _ (cxOf (L2.CX P w) P w K mg base N_place_parts "place_parts" (defScope s_place_parts) f cdv A outer s H E).xe := cx_po
  exact (s_seq (s_if (t_cmp (o_eq hu) (m_var 1 (pv 1)) m_int) (s_one (s_ret (m_cmp (o_eq hu) (m_var 2 (pv 2)) (m_call (G 14 _) hr rfl (T.g 14 (by decide)) (T.kp 14 (by decide)) (T.b 14 (by decide)) hx (m_cons (m_var 0 (pv 0)) m_nil))))) s_nil) (s_seq (s_if (t_cmp (o_eq hu) (m_ix (m_var 0 (pv 0)) m_int) m_str) (s_one (s_ret (m_cmp (o_eq hu) (m_bin o_mod (m_var 2 (pv 2)) (m_call (G 8 _) hr rfl (T.g 8 (by decide)) (T.kp 8 (by decide)) (T.b 8 (by decide)) hx (m_cons (m_ix (m_var 0 (pv 0)) m_int) (m_cons (m_call (G 22 _) hr rfl (T.g 22 (by decide)) (T.kp 22 (by decide)) (T.b 22 (by decide)) hx (m_cons (m_var 1 (pv 1)) (m_cons (m_ix (m_var 0 (pv 0)) m_int) (m_cons (m_ix (m_var 0 (pv 0)) m_int) m_nil)))) m_nil)))) m_int))) s_nil) (s_one (s_ret (m_or (m_cmp (o_ne hu) (m_ix (m_var 0 (pv 0)) m_int) m_str) (m_one (m_cmp (o_eq hu) (m_bin o_mod (m_var 2 (pv 2)) (m_var 1 (pv 1))) m_int)))))))
theorem sc_parts_here : FnScope N_parts_here [Str.ofString "group", Str.ofString "by", Str.ofString "element"] (defScope s_parts_here) := ⟨rfl, rfl, rfl, by decide +kernel, rfl, by decide +kernel, by decide +kernel⟩
theorem w_parts_here (T : Tx P w K mg ad fdd cA) (G : ∀ (f : Nat) (E : XK), FnOk P w K mg base (L2.CX P w) k (ad f) (fdd f) (psf f) (spD K ⟨cA, cFv, call, W, E⟩ f)) (f : Addr) (cdv : Value) (A : Around) (outer : List Env) (s : Shared) (H : Hp) (E : XK) (hr : Room k (A.deeper (PyProof.Rows.envOfC "parts_here" (defScope s_parts_here) s.heap.objs.size f cdv))) :
    PSs (cxOf (L2.CX P w) P w K mg base N_parts_here "parts_here" (defScope s_parts_here) f cdv A outer s H E) (defBody s_parts_here) (rdS K ⟨cA, cFv, call, W, E⟩ f_parts_here.body) := by
  have nd : N_parts_here.Nodup := sc_parts_here.nd
  have hu := hr.units
  have hu1 := hu_of hr
  have hx : Passes (L2.CX P w) (cxOf (L2.CX P w) P w K mg base N_parts_here "parts_here" (defScope s_parts_here) f cdv A outer s H E) E := cx_px
  have hpo : PassesOwn (model P w) _ _ (cxOf (L2.CX P w) P w K mg base N_parts_here "parts_here" (defScope s_parts_here) f cdv A outer s H E).xe := cx_po
  exact (s_seq (s_for (t := (.tp [3, 4])) hpo rfl (i_zipT rfl T.zip (m_var 0 (pv 0)) (m_var 2 (pv 2))) (pg_tup rfl (pgs_cons (pg_name (i := 3) nd rfl (by first | exact Or.inl rfl | exact Or.inr rfl)) (pgs_cons (pg_name (i := 4) nd rfl (by first | exact Or.inl rfl | exact Or.inr rfl)) pgs_nil))) (s_one (s_if (t_not (t_val (m_bltB (b_all rfl) rfl T.all (by decide +kernel) (m_cons (m_lc [((Str.ofString "place"), 5)] rfl nd (i_seqT (m_var 4 (pv 4))) (blkOk_by (N := N_parts_here) (sc := (defScope s_parts_here)) (own := [((Str.ofString "place"), 5)]) (by decide +kernel)) (fun _ _ _ _ _ => (pg_name (i := 5) nd rfl (by first | exact Or.inl rfl | exact Or.inr rfl))) (fun _ _ _ _ _ => pts_no) (fun _ _ _ _ _ => (m_call (G 23 _) hr rfl (T.g 23 (by decide)) (T.kp 23 (by decide)) (T.b 23 (by decide)) passL (m_cons (m_ix (m_var 3 (pv 3)) m_int) (m_cons (m_var 1 (pv 1)) (m_cons (m_var 5 (pv 5)) m_nil)))))) m_nil)))) (s_one (s_ret m_bl)) s_nil))) (s_one (s_ret m_bl)))
theorem sc_many_times : FnScope N_many_times [Str.ofString "group", Str.ofString "factor", Str.ofString "element"] (defScope s_many_times) := ⟨rfl, rfl, rfl, by decide +kernel, rfl, by decide +kernel, by decide +kernel⟩
theorem w_many_times (T : Tx P w K mg ad fdd cA) (G : ∀ (f : Nat) (E : XK), FnOk P w K mg base (L2.CX P w) k (ad f) (fdd f) (psf f) (spD K ⟨cA, cFv, call, W, E⟩ f)) (f : Addr) (cdv : Value) (A : Around) (outer : List Env) (s : Shared) (H : Hp) (E : XK) (hr : Room k (A.deeper (PyProof.Rows.envOfC "many_times" (defScope s_many_times) s.heap.objs.size f cdv))) :
    PSs (cxOf (L2.CX P w) P w K mg base N_many_times "many_times" (defScope s_many_times) f cdv A outer s H E) (defBody s_many_times) (rdS K ⟨cA, cFv, call, W, E⟩ f_many_times.body) := by
  have nd : N_many_times.Nodup := sc_many_times.nd
  have hu := hr.units
  have hu1 := hu_of hr
  have hx : Passes (L2.CX P w) (cxOf (L2.CX P w) P w K mg base N_many_times "many_times" (defScope s_many_times) f cdv A outer s H E) E := cx_px
  have hpo : PassesOwn (model P w) _ _ (cxOf (L2.CX P w) P w K mg base N_many_times "many_times" (defScope s_many_times) f cdv A outer s H E).xe := cx_po
  obtain ⟨_, c_MOST_PLACE⟩ := T.t_MOST_PLACE
  obtain ⟨_, e_BadNumber⟩ := T.e_BadNumber
  have fld_value := PySem.ErrX.fld_value
  exact (s_seq (s_expr (m_call (G 7 _) hr rfl (T.g 7 (by decide)) (T.kp 7 (by decide)) (T.b 7 (by decide)) hx (m_cons (m_var 0 (pv 0)) m_nil))) (s_seq (s_if (t_not (t_val (m_call (G 0 _) hr rfl (T.g 0 (by decide)) (T.kp 0 (by decide)) (T.b 0 (by decide)) hx (m_cons (m_var 1 (pv 1)) (m_cons (m_neg (m_glob rfl c_MOST_PLACE)) (m_cons (m_glob rfl c_MOST_PLACE) m_nil)))))) (s_one (s_raise (c := 3) fld_value e_BadNumber rfl hr (takes_of rfl rfl rfl rfl) (m_var 1 (pv 1)) rfl)) s_nil) (s_seq (s_expr (m_call (G 17 _) hr rfl (T.g 17 (by decide)) (T.kp 17 (by decide)) (T.b 17 (by decide)) hx (m_cons (m_var 0 (pv 0)) (m_cons (m_var 2 (pv 2)) m_nil)))) (s_one (s_ret (m_call (G 21 _) hr rfl (T.g 21 (by decide)) (T.kp 21 (by decide)) (T.b 21 (by decide)) hx (m_cons (m_var 0 (pv 0)) (m_cons (m_var 1 (pv 1)) (m_cons (m_var 2 (pv 2)) m_nil)))))))))
theorem sc_divides : FnScope N_divides [Str.ofString "group", Str.ofString "by", Str.ofString "element"] (defScope s_divides) := ⟨rfl, rfl, rfl, by decide +kernel, rfl, by decide +kernel, by decide +kernel⟩
theorem w_divides (T : Tx P w K mg ad fdd cA) (G : ∀ (f : Nat) (E : XK), FnOk P w K mg base (L2.CX P w) k (ad f) (fdd f) (psf f) (spD K ⟨cA, cFv, call, W, E⟩ f)) (f : Addr) (cdv : Value) (A : Around) (outer : List Env) (s : Shared) (H : Hp) (E : XK) (hr : Room k (A.deeper (PyProof.Rows.envOfC "divides" (defScope s_divides) s.heap.objs.size f cdv))) :
    PSs (cxOf (L2.CX P w) P w K mg base N_divides "divides" (defScope s_divides) f cdv A outer s H E) (defBody s_divides) (rdS K ⟨cA, cFv, call, W, E⟩ f_divides.body) := by
  have nd : N_divides.Nodup := sc_divides.nd
  have hu := hr.units
  have hu1 := hu_of hr
  have hx : Passes (L2.CX P w) (cxOf (L2.CX P w) P w K mg base N_divides "divides" (defScope s_divides) f cdv A outer s H E) E := cx_px
  have hpo : PassesOwn (model P w) _ _ (cxOf (L2.CX P w) P w K mg base N_divides "divides" (defScope s_divides) f cdv A outer s H E).xe := cx_po
  obtain ⟨_, c_MOST_FACTOR⟩ := T.t_MOST_FACTOR
  obtain ⟨_, e_BadNumber⟩ := T.e_BadNumber
  have fld_value := PySem.ErrX.fld_value
  exact (s_seq (s_expr (m_call (G 7 _) hr rfl (T.g 7 (by decide)) (T.kp 7 (by decide)) (T.b 7 (by decide)) hx (m_cons (m_var 0 (pv 0)) m_nil))) (s_seq (s_if (t_not (t_val (m_call (G 0 _) hr rfl (T.g 0 (by decide)) (T.kp 0 (by decide)) (T.b 0 (by decide)) hx (m_cons (m_var 1 (pv 1)) (m_cons m_int (m_cons (m_glob rfl c_MOST_FACTOR) m_nil)))))) (s_one (s_raise (c := 3) fld_value e_BadNumber rfl hr (takes_of rfl rfl rfl rfl) (m_var 1 (pv 1)) rfl)) s_nil) (s_seq (s_expr (m_call (G 17 _) hr rfl (T.g 17 (by decide)) (T.kp 17 (by decide)) (T.b 17 (by decide)) hx (m_cons (m_var 0 (pv 0)) (m_cons (m_var 2 (pv 2)) m_nil)))) (s_one (s_ret (m_call (G 24 _) hr rfl (T.g 24 (by decide)) (T.kp 24 (by decide)) (T.b 24 (by decide)) hx (m_cons (m_var 0 (pv 0)) (m_cons (m_var 1 (pv 1)) (m_cons (m_var 2 (pv 2)) m_nil)))))))))
theorem sc_longer_by : FnScope N_longer_by [Str.ofString "points", Str.ofString "summand"] (defScope s_longer_by) := ⟨rfl, rfl, rfl, by decide +kernel, rfl, by decide +kernel, by decide +kernel⟩
theorem w_longer_by (T : Tx P w K mg ad fdd cA) (G : ∀ (f : Nat) (E : XK), FnOk P w K mg base (L2.CX P w) k (ad f) (fdd f) (psf f) (spD K ⟨cA, cFv, call, W, E⟩ f)) (f : Addr) (cdv : Value) (A : Around) (outer : List Env) (s : Shared) (H : Hp) (E : XK) (hr : Room k (A.deeper (PyProof.Rows.envOfC "longer_by" (defScope s_longer_by) s.heap.objs.size f cdv))) :
    PSs (cxOf (L2.CX P w) P w K mg base N_longer_by "longer_by" (defScope s_longer_by) f cdv A outer s H E) (defBody s_longer_by) (rdS K ⟨cA, cFv, call, W, E⟩ f_longer_by.body) := by
  have nd : N_longer_by.Nodup := sc_longer_by.nd
  have hu := hr.units
  have hu1 := hu_of hr
  have hx : Passes (L2.CX P w) (cxOf (L2.CX P w) P w K mg base N_longer_by "longer_by" (defScope s_longer_by) f cdv A outer s H E) E := cx_px
  have hpo : PassesOwn (model P w) _ _ (cxOf (L2.CX P w) P w K mg base N_longer_by "longer_by" (defScope s_longer_by) f cdv A outer s H E).xe := cx_po
  exact (s_seq (s_asg (t := (.tp [2, 3])) (m_var 1 (pv 1)) (pg_tup rfl (pgs_cons (pg_name (i := 2) nd rfl (by first | exact Or.inl rfl | exact Or.inr rfl)) (pgs_cons (pg_name (i := 3) nd rfl (by first | exact Or.inl rfl | exact Or.inr rfl)) pgs_nil)))) (s_seq (s_set 4 nd (m_lst (m_cons (m_tup m_nil) m_nil))) (s_seq (s_for (t := (.nm 5)) hpo rfl (i_rng1 rfl T.range (m_var 3 (pv 3))) (pg_name (i := 5) nd rfl (by first | exact Or.inl rfl | exact Or.inr rfl)) (s_one (s_set 4 nd (m_lc2 [((Str.ofString "row"), 7), ((Str.ofString "place"), 8)] (vs1 := [8]) rfl nd (i_seqL (m_var 4 (pv 4))) (blkOk_by (N := N_longer_by) (sc := (defScope s_longer_by)) (own := [((Str.ofString "row"), 7), ((Str.ofString "place"), 8)]) (by decide +kernel)) (fun _ _ _ _ _ => (pg_name (i := 7) nd rfl (by first | exact Or.inl rfl | exact Or.inr rfl))) (fun _ _ _ _ _ => pts_no) (fun _ _ _ _ _ => (i_rng1 rfl T.range (m_call (G 3 _) hr rfl (T.g 3 (by decide)) (T.kp 3 (by decide)) (T.b 3 (by decide)) passL (m_cons (m_var 2 (pv 2)) m_nil)))) (fun _ _ _ _ _ => (pg_name (i := 8) nd rfl (by first | exact Or.inl rfl | exact Or.inr rfl))) (fun _ _ _ _ _ => pts_no) (fun _ _ _ _ _ => (m_bin o_add (m_var 7 (pv 7)) (m_tup (m_cons (m_var 8 (pv 8)) m_nil)))))))) (s_one (s_ret (m_lc2 [((Str.ofString "element"), 6), ((Str.ofString "row"), 7)] (vs1 := [7]) rfl nd (i_seqL (m_var 0 (pv 0))) (blkOk_by (N := N_longer_by) (sc := (defScope s_longer_by)) (own := [((Str.ofString "element"), 6), ((Str.ofString "row"), 7)]) (by decide +kernel)) (fun _ _ _ _ _ => (pg_name (i := 6) nd rfl (by first | exact Or.inl rfl | exact Or.inr rfl))) (fun _ _ _ _ _ => pts_no) (fun _ _ _ _ _ => (i_seqL (m_var 4 (pv 4)))) (fun _ _ _ _ _ => (pg_name (i := 7) nd rfl (by first | exact Or.inl rfl | exact Or.inr rfl))) (fun _ _ _ _ _ => pts_no) (fun _ _ _ _ _ => (m_bin o_add (m_var 6 (pv 6)) (m_tup (m_cons (m_call (G 18 _) hr rfl (T.g 18 (by decide)) (T.kp 18 (by decide)) (T.b 18 (by decide)) passL (m_cons (m_var 1 (pv 1)) (m_cons (m_var 7 (pv 7)) m_nil))) m_nil))))))))))
theorem sc_all_elements : FnScope N_all_elements [Str.ofString "group"] (defScope s_all_elements) := ⟨rfl, rfl, rfl, by decide +kernel, rfl, by decide +kernel, by decide +kernel⟩
theorem w_all_elements (T : Tx P w K mg ad fdd cA) (G : ∀ (f : Nat) (E : XK), FnOk P w K mg base (L2.CX P w) k (ad f) (fdd f) (psf f) (spD K ⟨cA, cFv, call, W, E⟩ f)) (f : Addr) (cdv : Value) (A : Around) (outer : List Env) (s : Shared) (H : Hp) (E : XK) (hr : Room k (A.deeper (PyProof.Rows.envOfC "all_elements" (defScope s_all_elements) s.heap.objs.size f cdv))) :
    PSs (cxOf (L2.CX P w) P w K mg base N_all_elements "all_elements" (defScope s_all_elements) f cdv A outer s H E) (defBody s_all_elements) (rdS K ⟨cA, cFv, call, W, E⟩ f_all_elements.body) := by
  have nd : N_all_elements.Nodup := sc_all_elements.nd
  have hu := hr.units
  have hu1 := hu_of hr
  have hx : Passes (L2.CX P w) (cxOf (L2.CX P w) P w K mg base N_all_elements "all_elements" (defScope s_all_elements) f cdv A outer s H E) E := cx_px
  have hpo : PassesOwn (model P w) _ _ (cxOf (L2.CX P w) P w K mg base N_all_elements "all_elements" (defScope s_all_elements) f cdv A outer s H E).xe := cx_po
  obtain ⟨_, c_MOST_ELEMENTS⟩ := T.t_MOST_ELEMENTS
  obtain ⟨_, e_TooMany⟩ := T.e_TooMany
  have fld_most := PySem.ErrX.fld_most
  exact (s_seq (s_expr (m_call (G 7 _) hr rfl (T.g 7 (by decide)) (T.kp 7 (by decide)) (T.b 7 (by decide)) hx (m_cons (m_var 0 (pv 0)) m_nil))) (s_seq (s_set 1 nd (m_call (G 9 _) hr rfl (T.g 9 (by decide)) (T.kp 9 (by decide)) (T.b 9 (by decide)) hx (m_cons (m_var 0 (pv 0)) m_nil))) (s_seq (s_if (PW.pt (w_or (t_cmp (o_eq hu) (m_var 1 (pv 1)) m_str) (w_or1 (t_cmp o_gt (m_var 1 (pv 1)) (m_glob rfl c_MOST_ELEMENTS))))) (s_one (s_raise (c := 4) fld_most e_TooMany rfl hr (takes_of rfl rfl rfl rfl) (m_glob rfl c_MOST_ELEMENTS) rfl)) s_nil) (s_seq (s_set 2 nd (m_lst (m_cons (m_tup m_nil) m_nil))) (s_seq (s_for (t := (.nm 3)) hpo rfl (i_seqT (m_var 0 (pv 0))) (pg_name (i := 3) nd rfl (by first | exact Or.inl rfl | exact Or.inr rfl)) (s_one (s_set 2 nd (m_call (G 27 _) hr rfl (T.g 27 (by decide)) (T.kp 27 (by decide)) (T.b 27 (by decide)) hx (m_cons (m_var 2 (pv 2)) (m_cons (m_var 3 (pv 3)) m_nil)))))) (s_one (s_ret (m_bltT b_tuple rfl T.tuple (by decide +kernel) (m_cons (m_var 2 (pv 2)) m_nil)))))))))
theorem sc_is_shape : FnScope N_is_shape [Str.ofString "value"] (defScope s_is_shape) := ⟨rfl, rfl, rfl, by decide +kernel, rfl, by decide +kernel, by decide +kernel⟩
theorem w_is_shape (T : Tx P w K mg ad fdd cA) (G : ∀ (f : Nat) (E : XK), FnOk P w K mg base (L2.CX P w) k (ad f) (fdd f) (psf f) (spD K ⟨cA, cFv, call, W, E⟩ f)) (f : Addr) (cdv : Value) (A : Around) (outer : List Env) (s : Shared) (H : Hp) (E : XK) (hr : Room k (A.deeper (PyProof.Rows.envOfC "is_shape" (defScope s_is_shape) s.heap.objs.size f cdv))) :
    PSs (cxOf (L2.CX P w) P w K mg base N_is_shape "is_shape" (defScope s_is_shape) f cdv A outer s H E) (defBody s_is_shape) (rdS K ⟨cA, cFv, call, W, E⟩ f_is_shape.body) := by
  have nd : N_is_shape.Nodup := sc_is_shape.nd
  have hu := hr.units
  have hu1 := hu_of hr
  have hx : Passes (L2.CX P w) (cxOf (L2.CX P w) P w K mg base N_is_shape "is_shape" (defScope s_is_shape) f cdv A outer s H E) E := cx_px
  have hpo : PassesOwn (model P w) _ _ (cxOf (L2.CX P w) P w K mg base N_is_shape "is_shape" (defScope s_is_shape) f cdv A outer s H E).xe := cx_po
  obtain ⟨_, c_MOST_FACTOR⟩ := T.t_MOST_FACTOR
  exact (s_seq (s_if (t_not (t_val (m_isi .tuple (m_var 0 (pv 0)) rfl T.isinstance rfl rfl T.tuple))) (s_one (s_ret m_bl)) s_nil) (s_seq (s_for (t := (.nm 1)) hpo rfl (i_seqT (m_var 0 (pv 0))) (pg_name (i := 1) nd rfl (by first | exact Or.inl rfl | exact Or.inr rfl)) (s_seq (s_if (PW.pt (w_or (t_not (t_val (m_isi .tuple (m_var 1 (pv 1)) rfl T.isinstance rfl rfl T.tuple))) (w_or (t_cmp (o_ne hu) (m_bltB b_len rfl T.len (by decide +kernel) (m_cons (m_var 1 (pv 1)) m_nil)) m_int) (w_or1 (t_not (t_val (m_call (G 0 _) hr rfl (T.g 0 (by decide)) (T.kp 0 (by decide)) (T.b 0 (by decide)) hx (m_cons (m_ix (m_var 1 (pv 1)) m_int) (m_cons m_int (m_cons (m_glob rfl c_MOST_FACTOR) m_nil)))))))))) (s_one (s_ret m_bl)) s_nil) (s_one (s_if (t_not (t_val (m_call (G 0 _) hr rfl (T.g 0 (by decide)) (T.kp 0 (by decide)) (T.b 0 (by decide)) hx (m_cons (m_ix (m_var 1 (pv 1)) m_int) (m_cons (m_neg (m_glob rfl c_MOST_FACTOR)) (m_cons (m_glob rfl c_MOST_FACTOR) m_nil)))))) (s_one (s_ret m_bl)) s_nil)))) (s_one (s_ret m_bl))))
theorem sc_need_shape : FnScope N_need_shape [Str.ofString "shape"] (defScope s_need_shape) := ⟨rfl, rfl, rfl, by decide +kernel, rfl, by decide +kernel, by decide +kernel⟩
theorem w_need_shape (T : Tx P w K mg ad fdd cA) (G : ∀ (f : Nat) (E : XK), FnOk P w K mg base (L2.CX P w) k (ad f) (fdd f) (psf f) (spD K ⟨cA, cFv, call, W, E⟩ f)) (f : Addr) (cdv : Value) (A : Around) (outer : List Env) (s : Shared) (H : Hp) (E : XK) (hr : Room k (A.deeper (PyProof.Rows.envOfC "need_shape" (defScope s_need_shape) s.heap.objs.size f cdv))) :
    PSs (cxOf (L2.CX P w) P w K mg base N_need_shape "need_shape" (defScope s_need_shape) f cdv A outer s H E) (defBody s_need_shape) (rdS K ⟨cA, cFv, call, W, E⟩ f_need_shape.body) := by
  have nd : N_need_shape.Nodup := sc_need_shape.nd
  have hu := hr.units
  have hu1 := hu_of hr
  have hx : Passes (L2.CX P w) (cxOf (L2.CX P w) P w K mg base N_need_shape "need_shape" (defScope s_need_shape) f cdv A outer s H E) E := cx_px
  have hpo : PassesOwn (model P w) _ _ (cxOf (L2.CX P w) P w K mg base N_need_shape "need_shape" (defScope s_need_shape) f cdv A outer s H E).xe := cx_po
  obtain ⟨_, e_BadShape⟩ := T.e_BadShape
  have fld_value := PySem.ErrX.fld_value
  exact (s_one (s_if (t_not (t_val (m_call (G 29 _) hr rfl (T.g 29 (by decide)) (T.kp 29 (by decide)) (T.b 29 (by decide)) hx (m_cons (m_var 0 (pv 0)) m_nil)))) (s_one (s_raise (c := 2) fld_value e_BadShape rfl hr (takes_of rfl rfl rfl rfl) (m_var 0 (pv 0)) rfl)) s_nil))
theorem sc_ring_step : FnScope N_ring_step [Str.ofString "kind", Str.ofString "shape"] (defScope s_ring_step) := ⟨rfl, rfl, rfl, by decide +kernel, rfl, by decide +kernel, by decide +kernel⟩
theorem w_ring_step (T : Tx P w K mg ad fdd cA) (G : ∀ (f : Nat) (E : XK), FnOk P w K mg base (L2.CX P w) k (ad f) (fdd f) (psf f) (spD K ⟨cA, cFv, call, W, E⟩ f)) (f : Addr) (cdv : Value) (A : Around) (outer : List Env) (s : Shared) (H : Hp) (E : XK) (hr : Room k (A.deeper (PyProof.Rows.envOfC "ring_step" (defScope s_ring_step) s.heap.objs.size f cdv))) :
    PSs (cxOf (L2.CX P w) P w K mg base N_ring_step "ring_step" (defScope s_ring_step) f cdv A outer s H E) (defBody s_ring_step) (rdS K ⟨cA, cFv, call, W, E⟩ f_ring_step.body) := by
  have nd : N_ring_step.Nodup := sc_ring_step.nd
  have hu := hr.units
  have hu1 := hu_of hr
  have hx : Passes (L2.CX P w) (cxOf (L2.CX P w) P w K mg base N_ring_step "ring_step" (defScope s_ring_step) f cdv A outer s H E) E := cx_px
  have hpo : PassesOwn (model P w) _ _ (cxOf (L2.CX P w) P w K mg base N_ring_step "ring_step" (defScope s_ring_step) f cdv A outer s H E).xe := cx_po
  exact (s_seq (s_set 2 nd m_int) (s_seq (s_for (t := (.tp [3, 4])) hpo rfl (i_seqT (m_var 1 (pv 1))) (pg_tup rfl (pgs_cons (pg_name (i := 3) nd rfl (by first | exact Or.inl rfl | exact Or.inr rfl)) (pgs_cons (pg_name (i := 4) nd rfl (by first | exact Or.inl rfl | exact Or.inr rfl)) pgs_nil))) (s_one (s_if (t_cmp (o_ne hu) (m_var 4 (pv 4)) m_int) (s_one (s_set 2 nd (m_bltB (b_max2 rfl) rfl T.max (by decide +kernel) (m_cons (m_var 2 (pv 2)) (m_cons (m_bin o_sub (m_call (G 22 _) hr rfl (T.g 22 (by decide)) (T.kp 22 (by decide)) (T.b 22 (by decide)) hx (m_cons (m_var 3 (pv 3)) (m_cons (m_ix (m_var 0 (pv 0)) m_int) (m_cons (m_ix (m_var 0 (pv 0)) m_int) m_nil)))) (m_call (G 22 _) hr rfl (T.g 22 (by decide)) (T.kp 22 (by decide)) (T.b 22 (by decide)) hx (m_cons (m_var 4 (pv 4)) (m_cons (m_ix (m_var 0 (pv 0)) m_int) (m_cons (m_ix (m_var 0 (pv 0)) m_int) m_nil))))) m_nil))))) s_nil))) (s_one (s_ret (m_var 2 (pv 2))))))
theorem sc_whole_step : FnScope N_whole_step [Str.ofString "shape"] (defScope s_whole_step) := ⟨rfl, rfl, rfl, by decide +kernel, rfl, by decide +kernel, by decide +kernel⟩
theorem w_whole_step (T : Tx P w K mg ad fdd cA) (G : ∀ (f : Nat) (E : XK), FnOk P w K mg base (L2.CX P w) k (ad f) (fdd f) (psf f) (spD K ⟨cA, cFv, call, W, E⟩ f)) (f : Addr) (cdv : Value) (A : Around) (outer : List Env) (s : Shared) (H : Hp) (E : XK) (hr : Room k (A.deeper (PyProof.Rows.envOfC "whole_step" (defScope s_whole_step) s.heap.objs.size f cdv))) :
    PSs (cxOf (L2.CX P w) P w K mg base N_whole_step "whole_step" (defScope s_whole_step) f cdv A outer s H E) (defBody s_whole_step) (rdS K ⟨cA, cFv, call, W, E⟩ f_whole_step.body) := by
  have nd : N_whole_step.Nodup := sc_whole_step.nd
  have hu := hr.units
  have hu1 := hu_of hr
  have hx : Passes (L2.CX P w) (cxOf (L2.CX P w) P w K mg base N_whole_step "whole_step" (defScope s_whole_step) f cdv A outer s H E) E := cx_px
  have hpo : PassesOwn (model P w) _ _ (cxOf (L2.CX P w) P w K mg base N_whole_step "whole_step" (defScope s_whole_step) f cdv A outer s H E).xe := cx_po
  exact (s_seq (s_set 1 nd m_int) (s_seq (s_for (t := (.tp [2, 3])) hpo rfl (i_seqT (m_var 0 (pv 0))) (pg_tup rfl (pgs_cons (pg_name (i := 2) nd rfl (by first | exact Or.inl rfl | exact Or.inr rfl)) (pgs_cons (pg_name (i := 3) nd rfl (by first | exact Or.inl rfl | exact Or.inr rfl)) pgs_nil))) (s_one (s_if (t_cmp (o_ne hu) (m_var 3 (pv 3)) m_int) (s_seq (s_set 4 nd (m_bin o_fdiv (m_var 2 (pv 2)) (m_bltM b_gcd rfl T.c_gcd (m_cons (m_var 2 (pv 2)) (m_cons (m_var 3 (pv 3)) m_nil))))) (s_one (s_set 1 nd (m_ifx (PW.pt (w_or (t_cmp (o_eq hu) (m_var 4 (pv 4)) m_int) (w_or1 (t_cmp (o_eq hu) (m_var 1 (pv 1)) m_int)))) m_int (m_bin o_fdiv (m_bin o_mul (m_var 1 (pv 1)) (m_var 4 (pv 4))) (m_bltM b_gcd rfl T.c_gcd (m_cons (m_var 1 (pv 1)) (m_cons (m_var 4 (pv 4)) m_nil)))))))) s_nil))) (s_one (s_ret (m_var 1 (pv 1))))))
theorem sc_is_cut : FnScope N_is_cut [Str.ofString "shape"] (defScope s_is_cut) := ⟨rfl, rfl, rfl, by decide +kernel, rfl, by decide +kernel, by decide +kernel⟩
theorem w_is_cut (T : Tx P w K mg ad fdd cA) (G : ∀ (f : Nat) (E : XK), FnOk P w K mg base (L2.CX P w) k (ad f) (fdd f) (psf f) (spD K ⟨cA, cFv, call, W, E⟩ f)) (f : Addr) (cdv : Value) (A : Around) (outer : List Env) (s : Shared) (H : Hp) (E : XK) (hr : Room k (A.deeper (PyProof.Rows.envOfC "is_cut" (defScope s_is_cut) s.heap.objs.size f cdv))) :
    PSs (cxOf (L2.CX P w) P w K mg base N_is_cut "is_cut" (defScope s_is_cut) f cdv A outer s H E) (defBody s_is_cut) (rdS K ⟨cA, cFv, call, W, E⟩ f_is_cut.body) := by
  have nd : N_is_cut.Nodup := sc_is_cut.nd
  have hu := hr.units
  have hu1 := hu_of hr
  have hx : Passes (L2.CX P w) (cxOf (L2.CX P w) P w K mg base N_is_cut "is_cut" (defScope s_is_cut) f cdv A outer s H E) E := cx_px
  have hpo : PassesOwn (model P w) _ _ (cxOf (L2.CX P w) P w K mg base N_is_cut "is_cut" (defScope s_is_cut) f cdv A outer s H E).xe := cx_po
  exact (s_one (s_ret (m_bltB (b_any rfl) rfl T.any (by decide +kernel) (m_cons (m_lc [((Str.ofString "by"), 1), ((Str.ofString "factor"), 2)] rfl nd (i_seqT (m_var 0 (pv 0))) (blkOk_by (N := N_is_cut) (sc := (defScope s_is_cut)) (own := [((Str.ofString "by"), 1), ((Str.ofString "factor"), 2)]) (by decide +kernel)) (fun _ _ _ _ _ => (pg_tup rfl (pgs_cons (pg_name (i := 1) nd rfl (by first | exact Or.inl rfl | exact Or.inr rfl)) (pgs_cons (pg_name (i := 2) nd rfl (by first | exact Or.inl rfl | exact Or.inr rfl)) pgs_nil)))) (fun _ _ _ _ _ => pts_no) (fun _ _ _ _ _ => (m_and (m_cmp (o_eq hu) (m_var 1 (pv 1)) m_int) (m_one (m_cmp (o_ne hu) (m_var 2 (pv 2)) m_int))))) m_nil))))
theorem sc_tower_step : FnScope N_tower_step [Str.ofString "prime", Str.ofString "shape"] (defScope s_tower_step) := ⟨rfl, rfl, rfl, by decide +kernel, rfl, by decide +kernel, by decide +kernel⟩
theorem w_tower_step (T : Tx P w K mg ad fdd cA) (G : ∀ (f : Nat) (E : XK), FnOk P w K mg base (L2.CX P w) k (ad f) (fdd f) (psf f) (spD K ⟨cA, cFv, call, W, E⟩ f)) (f : Addr) (cdv : Value) (A : Around) (outer : List Env) (s : Shared) (H : Hp) (E : XK) (hr : Room k (A.deeper (PyProof.Rows.envOfC "tower_step" (defScope s_tower_step) s.heap.objs.size f cdv))) :
    PSs (cxOf (L2.CX P w) P w K mg base N_tower_step "tower_step" (defScope s_tower_step) f cdv A outer s H E) (defBody s_tower_step) (rdS K ⟨cA, cFv, call, W, E⟩ f_tower_step.body) := by
  have nd : N_tower_step.Nodup := sc_tower_step.nd
  have hu := hr.units
  have hu1 := hu_of hr
  have hx : Passes (L2.CX P w) (cxOf (L2.CX P w) P w K mg base N_tower_step "tower_step" (defScope s_tower_step) f cdv A outer s H E) E := cx_px
  have hpo : PassesOwn (model P w) _ _ (cxOf (L2.CX P w) P w K mg base N_tower_step "tower_step" (defScope s_tower_step) f cdv A outer s H E).xe := cx_po
  exact (s_seq (s_set 2 nd m_non) (s_seq (s_for (t := (.tp [3, 4])) hpo rfl (i_seqT (m_var 1 (pv 1))) (pg_tup rfl (pgs_cons (pg_name (i := 3) nd rfl (by first | exact Or.inl rfl | exact Or.inr rfl)) (pgs_cons (pg_name (i := 4) nd rfl (by first | exact Or.inl rfl | exact Or.inr rfl)) pgs_nil))) (s_one (s_if (PW.pt (w_and (t_cmp (o_eq hu) (m_var 3 (pv 3)) m_int) (w_and1 (t_cmp (o_ne hu) (m_var 4 (pv 4)) m_int)))) (s_seq (s_set 5 nd m_int) (s_seq (s_while hpo (t_cmp (o_eq hu) (m_bin o_mod (m_var 4 (pv 4)) (m_var 0 (pv 0))) m_int) (s_seq (s_set 4 nd (m_bin o_fdiv (m_var 4 (pv 4)) (m_var 0 (pv 0)))) (s_one (s_set 5 nd (m_bin o_add (m_var 5 (pv 5)) m_int))))) (s_one (s_set 2 nd (m_ifx (t_cmp o_is (m_var 2 (pv 2)) m_non) (m_var 5 (pv 5)) (m_bltB (b_min2 rfl) rfl T.min (by decide +kernel) (m_cons (m_var 2 (pv 2)) (m_cons (m_var 5 (pv 5)) m_nil)))))))) s_nil))) (s_one (s_ret (m_var 2 (pv 2))))))
theorem sc_index_in : FnScope N_index_in [Str.ofString "kind", Str.ofString "one", Str.ofString "other"] (defScope s_index_in) := ⟨rfl, rfl, rfl, by decide +kernel, rfl, by decide +kernel, by decide +kernel⟩
theorem w_index_in (T : Tx P w K mg ad fdd cA) (G : ∀ (f : Nat) (E : XK), FnOk P w K mg base (L2.CX P w) k (ad f) (fdd f) (psf f) (spD K ⟨cA, cFv, call, W, E⟩ f)) (f : Addr) (cdv : Value) (A : Around) (outer : List Env) (s : Shared) (H : Hp) (E : XK) (hr : Room k (A.deeper (PyProof.Rows.envOfC "index_in" (defScope s_index_in) s.heap.objs.size f cdv))) :
    PSs (cxOf (L2.CX P w) P w K mg base N_index_in "index_in" (defScope s_index_in) f cdv A outer s H E) (defBody s_index_in) (rdS K ⟨cA, cFv, call, W, E⟩ f_index_in.body) := by
  have nd : N_index_in.Nodup := sc_index_in.nd
  have hu := hr.units
  have hu1 := hu_of hr
  have hx : Passes (L2.CX P w) (cxOf (L2.CX P w) P w K mg base N_index_in "index_in" (defScope s_index_in) f cdv A outer s H E) E := cx_px
  have hpo : PassesOwn (model P w) _ _ (cxOf (L2.CX P w) P w K mg base N_index_in "index_in" (defScope s_index_in) f cdv A outer s H E).xe := cx_po
  obtain ⟨_, c_ENDLESS⟩ := T.t_ENDLESS
  exact (s_seq (s_set 3 nd (m_bin o_add (m_var 1 (pv 1)) (m_var 2 (pv 2)))) (s_seq (s_if (t_cmp (o_eq hu) (m_ix (m_var 0 (pv 0)) m_int) m_str) (s_one (s_ret (m_call (G 8 _) hr rfl (T.g 8 (by decide)) (T.kp 8 (by decide)) (T.b 8 (by decide)) hx (m_cons (m_ix (m_var 0 (pv 0)) m_int) (m_cons (m_bin o_sub (m_call (G 31 _) hr rfl (T.g 31 (by decide)) (T.kp 31 (by decide)) (T.b 31 (by decide)) hx (m_cons (m_var 0 (pv 0)) (m_cons (m_var 3 (pv 3)) m_nil))) (m_call (G 31 _) hr rfl (T.g 31 (by decide)) (T.kp 31 (by decide)) (T.b 31 (by decide)) hx (m_cons (m_var 0 (pv 0)) (m_cons (m_var 1 (pv 1)) m_nil)))) m_nil))))) s_nil) (s_seq (s_if (t_cmp (o_eq hu) (m_ix (m_var 0 (pv 0)) m_int) m_str) (s_seq (s_par 4 5 rfl nd (m_call (G 32 _) hr rfl (T.g 32 (by decide)) (T.kp 32 (by decide)) (T.b 32 (by decide)) hx (m_cons (m_var 1 (pv 1)) m_nil)) (m_call (G 32 _) hr rfl (T.g 32 (by decide)) (T.kp 32 (by decide)) (T.b 32 (by decide)) hx (m_cons (m_var 3 (pv 3)) m_nil))) (s_seq (s_if (t_cmp (o_eq hu) (m_var 4 (pv 4)) m_int) (s_one (s_ret m_int)) s_nil) (s_one (s_ret (m_ifx (t_cmp (o_eq hu) (m_var 5 (pv 5)) m_int) (m_globS rfl c_ENDLESS) (m_bin o_fdiv (m_var 5 (pv 5)) (m_var 4 (pv 4)))))))) s_nil) (s_seq (s_if (t_cmp (o_eq hu) (m_ix (m_var 0 (pv 0)) m_int) m_str) (s_one (s_ret (m_ifx (PW.pt (w_and (t_val (m_call (G 33 _) hr rfl (T.g 33 (by decide)) (T.kp 33 (by decide)) (T.b 33 (by decide)) hx (m_cons (m_var 3 (pv 3)) m_nil))) (w_and1 (t_not (t_val (m_call (G 33 _) hr rfl (T.g 33 (by decide)) (T.kp 33 (by decide)) (T.b 33 (by decide)) hx (m_cons (m_var 1 (pv 1)) m_nil))))))) (m_globS rfl c_ENDLESS) m_int))) s_nil) (s_seq (s_par 4 5 rfl nd (m_call (G 34 _) hr rfl (T.g 34 (by decide)) (T.kp 34 (by decide)) (T.b 34 (by decide)) hx (m_cons (m_ix (m_var 0 (pv 0)) m_int) (m_cons (m_var 1 (pv 1)) m_nil))) (m_call (G 34 _) hr rfl (T.g 34 (by decide)) (T.kp 34 (by decide)) (T.b 34 (by decide)) hx (m_cons (m_ix (m_var 0 (pv 0)) m_int) (m_cons (m_var 3 (pv 3)) m_nil)))) (s_seq (s_if (t_cmp o_is (m_var 4 (pv 4)) m_non) (s_one (s_ret (m_ifx (t_cmp o_is (m_var 5 (pv 5)) m_non) m_int (m_globS rfl c_ENDLESS)))) s_nil) (s_one (s_ret (m_call (G 8 _) hr rfl (T.g 8 (by decide)) (T.kp 8 (by decide)) (T.b 8 (by decide)) hx (m_cons (m_ix (m_var 0 (pv 0)) m_int) (m_cons (m_bin o_sub (m_var 4 (pv 4)) (m_var 5 (pv 5))) m_nil)))))))))))
theorem sc_index_here : FnScope N_index_here [Str.ofString "group", Str.ofString "one", Str.ofString "other"] (defScope s_index_here) := ⟨rfl, rfl, rfl, by decide +kernel, rfl, by decide +kernel, by decide +kernel⟩
theorem w_index_here (T : Tx P w K mg ad fdd cA) (G : ∀ (f : Nat) (E : XK), FnOk P w K mg base (L2.CX P w) k (ad f) (fdd f) (psf f) (spD K ⟨cA, cFv, call, W, E⟩ f)) (f : Addr) (cdv : Value) (A : Around) (outer : List Env) (s : Shared) (H : Hp) (E : XK) (hr : Room k (A.deeper (PyProof.Rows.envOfC "index_here" (defScope s_index_here) s.heap.objs.size f cdv))) :
    PSs (cxOf (L2.CX P w) P w K mg base N_index_here "index_here" (defScope s_index_here) f cdv A outer s H E) (defBody s_index_here) (rdS K ⟨cA, cFv, call, W, E⟩ f_index_here.body) := by
  have nd : N_index_here.Nodup := sc_index_here.nd
  have hu := hr.units
  have hu1 := hu_of hr
  have hx : Passes (L2.CX P w) (cxOf (L2.CX P w) P w K mg base N_index_here "index_here" (defScope s_index_here) f cdv A outer s H E) E := cx_px
  have hpo : PassesOwn (model P w) _ _ (cxOf (L2.CX P w) P w K mg base N_index_here "index_here" (defScope s_index_here) f cdv A outer s H E).xe := cx_po
  obtain ⟨_, c_ENDLESS⟩ := T.t_ENDLESS
  exact (s_seq (s_set 3 nd m_int) (s_seq (s_for (t := (.tp [4, 5])) hpo rfl (i_seqT (m_var 0 (pv 0))) (pg_tup rfl (pgs_cons (pg_name (i := 4) nd rfl (by first | exact Or.inl rfl | exact Or.inr rfl)) (pgs_cons (pg_name (i := 5) nd rfl (by first | exact Or.inl rfl | exact Or.inr rfl)) pgs_nil))) (s_seq (s_set 6 nd (m_call (G 35 _) hr rfl (T.g 35 (by decide)) (T.kp 35 (by decide)) (T.b 35 (by decide)) hx (m_cons (m_var 4 (pv 4)) (m_cons (m_var 1 (pv 1)) (m_cons (m_var 2 (pv 2)) m_nil))))) (s_seq (s_if (PW.pt (w_or (t_cmp (o_eq hu) (m_var 6 (pv 6)) (m_globS rfl c_ENDLESS)) (w_or1 (PW.pt (w_and (t_cmp (o_eq hu) (m_var 5 (pv 5)) m_str) (w_and1 (t_cmp (o_ne hu) (m_var 6 (pv 6)) m_int))))))) (s_one (s_ret (m_globS rfl c_ENDLESS))) s_nil) (s_one (s_if (t_cmp (o_ne hu) (m_var 6 (pv 6)) m_int) (s_one (s_set 3 nd (m_bin o_mul (m_var 3 (pv 3)) (m_call (G 8 _) hr rfl (T.g 8 (by decide)) (T.kp 8 (by decide)) (T.b 8 (by decide)) hx (m_cons (m_var 6 (pv 6)) (m_cons (m_var 5 (pv 5)) m_nil)))))) s_nil))))) (s_one (s_ret (m_var 3 (pv 3))))))
theorem sc_index_of : FnScope N_index_of [Str.ofString "group", Str.ofString "one", Str.ofString "other"] (defScope s_index_of) := ⟨rfl, rfl, rfl, by decide +kernel, rfl, by decide +kernel, by decide +kernel⟩
theorem w_index_of (T : Tx P w K mg ad fdd cA) (G : ∀ (f : Nat) (E : XK), FnOk P w K mg base (L2.CX P w) k (ad f) (fdd f) (psf f) (spD K ⟨cA, cFv, call, W, E⟩ f)) (f : Addr) (cdv : Value) (A : Around) (outer : List Env) (s : Shared) (H : Hp) (E : XK) (hr : Room k (A.deeper (PyProof.Rows.envOfC "index_of" (defScope s_index_of) s.heap.objs.size f cdv))) :
    PSs (cxOf (L2.CX P w) P w K mg base N_index_of "index_of" (defScope s_index_of) f cdv A outer s H E) (defBody s_index_of) (rdS K ⟨cA, cFv, call, W, E⟩ f_index_of.body) := by
  have nd : N_index_of.Nodup := sc_index_of.nd
  have hu := hr.units
  have hu1 := hu_of hr
  have hx : Passes (L2.CX P w) (cxOf (L2.CX P w) P w K mg base N_index_of "index_of" (defScope s_index_of) f cdv A outer s H E) E := cx_px
  have hpo : PassesOwn (model P w) _ _ (cxOf (L2.CX P w) P w K mg base N_index_of "index_of" (defScope s_index_of) f cdv A outer s H E).xe := cx_po
  exact (s_seq (s_expr (m_call (G 7 _) hr rfl (T.g 7 (by decide)) (T.kp 7 (by decide)) (T.b 7 (by decide)) hx (m_cons (m_var 0 (pv 0)) m_nil))) (s_seq (s_expr (m_call (G 30 _) hr rfl (T.g 30 (by decide)) (T.kp 30 (by decide)) (T.b 30 (by decide)) hx (m_cons (m_var 1 (pv 1)) m_nil))) (s_seq (s_expr (m_call (G 30 _) hr rfl (T.g 30 (by decide)) (T.kp 30 (by decide)) (T.b 30 (by decide)) hx (m_cons (m_var 2 (pv 2)) m_nil))) (s_one (s_ret (m_call (G 36 _) hr rfl (T.g 36 (by decide)) (T.kp 36 (by decide)) (T.b 36 (by decide)) hx (m_cons (m_var 0 (pv 0)) (m_cons (m_var 1 (pv 1)) (m_cons (m_var 2 (pv 2)) m_nil)))))))))
theorem sc_law_next : FnScope N_law_next [Str.ofString "m", Str.ofString "many"] (defScope s_law_next) := ⟨rfl, rfl, rfl, by decide +kernel, rfl, by decide +kernel, by decide +kernel⟩
theorem w_law_next (T : Tx P w K mg ad fdd cA) (G : ∀ (f : Nat) (E : XK), FnOk P w K mg base (L2.CX P w) k (ad f) (fdd f) (psf f) (spD K ⟨cA, cFv, call, W, E⟩ f)) (f : Addr) (cdv : Value) (A : Around) (outer : List Env) (s : Shared) (H : Hp) (E : XK) (hr : Room k (A.deeper (PyProof.Rows.envOfC "_law_next" (defScope s_law_next) s.heap.objs.size f cdv))) :
    PSs (cxOf (L2.CX P w) P w K mg base N_law_next "_law_next" (defScope s_law_next) f cdv A outer s H E) (defBody s_law_next) (rdS K ⟨cA, cFv, call, W, E⟩ f_law_next.body) := by
  have nd : N_law_next.Nodup := sc_law_next.nd
  have hu := hr.units
  have hu1 := hu_of hr
  have hx : Passes (L2.CX P w) (cxOf (L2.CX P w) P w K mg base N_law_next "_law_next" (defScope s_law_next) f cdv A outer s H E) E := cx_px
  have hpo : PassesOwn (model P w) _ _ (cxOf (L2.CX P w) P w K mg base N_law_next "_law_next" (defScope s_law_next) f cdv A outer s H E).xe := cx_po
  exact (s_seq (s_while hpo (PW.pt (w_and (t_cmp (o_ne hu) (m_mget hu1 (m_var 0 (pv 0))) (m_lst m_nil)) (w_and1 (t_cmp (o_eq hu) (m_ix (m_mget hu1 (m_var 0 (pv 0))) m_int) m_int)))) (s_one (s_mset hu1 (m_var 0 (pv 0)) (m_sl (m_mget hu1 (m_var 0 (pv 0))) (po_so m_int) po_no)))) (s_seq (s_if (t_cmp (o_ne hu) (m_mget hu1 (m_var 0 (pv 0))) (m_lst m_nil)) (s_seq (s_set 6 nd (m_ix (m_mget hu1 (m_var 0 (pv 0))) m_int)) (s_seq (s_mset hu1 (m_var 0 (pv 0)) (m_bin o_add (m_lst (m_cons (m_bin o_fdiv (m_var 6 (pv 6)) (m_var 1 (pv 1))) m_nil)) (m_sl (m_mget hu1 (m_var 0 (pv 0))) (po_so m_int) po_no))) (s_one (s_ret (m_bin o_mod (m_bltT b_int rfl T.int (by decide +kernel) (m_cons (m_var 6 (pv 6)) m_nil)) (m_var 1 (pv 1))))))) s_nil) (s_seq (s_par 2 3 rfl nd (m_mget hu1 (m_var 0 (pv 0))) (m_mget hu1 (m_var 0 (pv 0)))) (s_seq (s_mset hu1 (m_var 0 (pv 0)) (m_bin o_add (m_var 2 (pv 2)) m_int)) (s_seq (s_set 4 nd (m_ifx (t_cmp (o_ne hu) (m_var 3 (pv 3)) (m_lst m_nil)) (m_ix (m_var 3 (pv 3)) (m_bin o_mod (m_var 2 (pv 2)) (m_bltB b_len rfl T.len (by decide +kernel) (m_cons (m_var 3 (pv 3)) m_nil)))) m_int)) (s_seq (s_set 5 nd (m_bin o_mul (m_bin o_mod (m_bltT b_int rfl T.int (by decide +kernel) (m_cons (m_var 4 (pv 4)) m_nil)) m_int) (m_bin o_add (m_bin o_mul m_int (m_var 2 (pv 2))) m_int))) (s_seq (s_set 5 nd (m_bin o_mod (m_bltT b_int rfl T.int (by decide +kernel) (m_cons (m_bin o_add (m_bin o_add (m_bin o_add (m_var 5 (pv 5)) (m_bin o_mul (m_bin o_mul m_int (m_var 2 (pv 2))) (m_var 2 (pv 2)))) (m_bin o_mul m_int (m_var 2 (pv 2)))) m_int) m_nil)) m_int)) (s_one (s_ret (m_bin o_mod (m_bin o_fdiv (m_bin o_mod (m_bin o_mul (m_bin o_mod (m_bltT b_int rfl T.int (by decide +kernel) (m_cons (m_bin o_mul (m_var 5 (pv 5)) (m_var 5 (pv 5))) m_nil)) m_int) m_int) m_int) m_int) (m_var 1 (pv 1))))))))))))
theorem sc_law_of : FnScope N_law_of [Str.ofString "m", Str.ofString "some"] (defScope s_law_of) := ⟨rfl, rfl, rfl, by decide +kernel, rfl, by decide +kernel, by decide +kernel⟩
theorem w_law_of (T : Tx P w K mg ad fdd cA) (G : ∀ (f : Nat) (E : XK), FnOk P w K mg base (L2.CX P w) k (ad f) (fdd f) (psf f) (spD K ⟨cA, cFv, call, W, E⟩ f)) (f : Addr) (cdv : Value) (A : Around) (outer : List Env) (s : Shared) (H : Hp) (E : XK) (hr : Room k (A.deeper (PyProof.Rows.envOfC "_law_of" (defScope s_law_of) s.heap.objs.size f cdv))) :
    PSs (cxOf (L2.CX P w) P w K mg base N_law_of "_law_of" (defScope s_law_of) f cdv A outer s H E) (defBody s_law_of) (rdS K ⟨cA, cFv, call, W, E⟩ f_law_of.body) := by
  have nd : N_law_of.Nodup := sc_law_of.nd
  have hu := hr.units
  have hu1 := hu_of hr
  have hx : Passes (L2.CX P w) (cxOf (L2.CX P w) P w K mg base N_law_of "_law_of" (defScope s_law_of) f cdv A outer s H E) E := cx_px
  have hpo : PassesOwn (model P w) _ _ (cxOf (L2.CX P w) P w K mg base N_law_of "_law_of" (defScope s_law_of) f cdv A outer s H E).xe := cx_po
  exact (s_one (s_ret (m_ix (m_var 1 (pv 1)) (m_call (G 39 _) hr rfl (T.g 39 (by decide)) (T.kp 39 (by decide)) (T.b 39 (by decide)) hx (m_cons (m_var 0 (pv 0)) (m_cons (m_bltB b_len rfl T.len (by decide +kernel) (m_cons (m_var 1 (pv 1)) m_nil)) m_nil))))))
theorem sc_law_like : FnScope N_law_like [Str.ofString "got", Str.ofString "due"] (defScope s_law_like) := ⟨rfl, rfl, rfl, by decide +kernel, rfl, by decide +kernel, by decide +kernel⟩
theorem w_law_like (T : Tx P w K mg ad fdd cA) (G : ∀ (f : Nat) (E : XK), FnOk P w K mg base (L2.CX P w) k (ad f) (fdd f) (psf f) (spD K ⟨cA, cFv, call, W, E⟩ f)) (f : Addr) (cdv : Value) (A : Around) (outer : List Env) (s : Shared) (H : Hp) (E : XK) (hr : Room k (A.deeper (PyProof.Rows.envOfC "_law_like" (defScope s_law_like) s.heap.objs.size f cdv))) :
    PSs (cxOf (L2.CX P w) P w K mg base N_law_like "_law_like" (defScope s_law_like) f cdv A outer s H E) (defBody s_law_like) (rdS K ⟨cA, cFv, call, W, E⟩ f_law_like.body) := by
  have nd : N_law_like.Nodup := sc_law_like.nd
  have hu := hr.units
  have hu1 := hu_of hr
  have hx : Passes (L2.CX P w) (cxOf (L2.CX P w) P w K mg base N_law_like "_law_like" (defScope s_law_like) f cdv A outer s H E) E := cx_px
  have hpo : PassesOwn (model P w) _ _ (cxOf (L2.CX P w) P w K mg base N_law_like "_law_like" (defScope s_law_like) f cdv A outer s H E).xe := cx_po
  exact (s_seq (s_if (t_val (m_isi .tuple (m_var 1 (pv 1)) rfl T.isinstance rfl rfl T.tuple)) (s_one (s_ret (m_and (m_isi .tuple (m_var 0 (pv 0)) rfl T.isinstance rfl rfl T.tuple) (m_and (m_cmp (o_eq hu) (m_bltB b_len rfl T.len (by decide +kernel) (m_cons (m_var 0 (pv 0)) m_nil)) (m_bltB b_len rfl T.len (by decide +kernel) (m_cons (m_var 1 (pv 1)) m_nil))) (m_one (m_cmp (o_eq hu) (m_lc [((Str.ofString "k"), 2)] rfl nd (i_rng1 rfl T.range (m_bltB b_len rfl T.len (by decide +kernel) (m_cons (m_var 1 (pv 1)) m_nil))) (blkOk_by (N := N_law_like) (sc := (defScope s_law_like)) (own := [((Str.ofString "k"), 2)]) (by decide +kernel)) (fun _ _ _ _ _ => (pg_name (i := 2) nd rfl (by first | exact Or.inl rfl | exact Or.inr rfl))) (fun _ _ _ _ _ => pts_one (t_not (t_val (m_call (G 41 _) hr rfl (T.g 41 (by decide)) (T.kp 41 (by decide)) (T.b 41 (by decide)) passL (m_cons (m_ix (m_var 0 (pv 0)) (m_var 2 (pv 2))) (m_cons (m_ix (m_var 1 (pv 1)) (m_var 2 (pv 2))) m_nil)))))) (fun _ _ _ _ _ => (m_var 2 (pv 2)))) (m_lst m_nil))))))) s_nil) (s_seq (s_if (t_cmp o_is (m_var 1 (pv 1)) m_non) (s_one (s_ret (m_cmp o_is (m_var 0 (pv 0)) m_non))) s_nil) (s_seq (s_if (t_val (m_isi .str (m_var 1 (pv 1)) rfl T.isinstance rfl rfl T.str)) (s_one (s_ret (m_and (m_isi .str (m_var 0 (pv 0)) rfl T.isinstance rfl rfl T.str) (m_one (m_cmp (o_eq hu) (m_var 0 (pv 0)) (m_var 1 (pv 1))))))) s_nil) (s_one (s_ret (m_and (m_isi .int (m_var 0 (pv 0)) rfl T.isinstance rfl rfl T.int) (m_and (m_cmp (o_eq hu) (m_isi .bool (m_var 0 (pv 0)) rfl T.isinstance rfl rfl T.bool) (m_isi .bool (m_var 1 (pv 1)) rfl T.isinstance rfl rfl T.bool)) (m_one (m_cmp (o_eq hu) (m_var 0 (pv 0)) (m_var 1 (pv 1)))))))))))
theorem sc_law_power : FnScope N_law_power [Str.ofString "prime", Str.ofString "turns"] (defScope s_law_power) := ⟨rfl, rfl, rfl, by decide +kernel, rfl, by decide +kernel, by decide +kernel⟩
theorem w_law_power (T : Tx P w K mg ad fdd cA) (G : ∀ (f : Nat) (E : XK), FnOk P w K mg base (L2.CX P w) k (ad f) (fdd f) (psf f) (spD K ⟨cA, cFv, call, W, E⟩ f)) (f : Addr) (cdv : Value) (A : Around) (outer : List Env) (s : Shared) (H : Hp) (E : XK) (hr : Room k (A.deeper (PyProof.Rows.envOfC "_law_power" (defScope s_law_power) s.heap.objs.size f cdv))) :
    PSs (cxOf (L2.CX P w) P w K mg base N_law_power "_law_power" (defScope s_law_power) f cdv A outer s H E) (defBody s_law_power) (rdS K ⟨cA, cFv, call, W, E⟩ f_law_power.body) := by
  have nd : N_law_power.Nodup := sc_law_power.nd
  have hu := hr.units
  have hu1 := hu_of hr
  have hx : Passes (L2.CX P w) (cxOf (L2.CX P w) P w K mg base N_law_power "_law_power" (defScope s_law_power) f cdv A outer s H E) E := cx_px
  have hpo : PassesOwn (model P w) _ _ (cxOf (L2.CX P w) P w K mg base N_law_power "_law_power" (defScope s_law_power) f cdv A outer s H E).xe := cx_po
  exact (s_seq (s_set 2 nd m_int) (s_seq (s_for (t := (.nm 3)) hpo rfl (i_rng1 rfl T.range (m_var 1 (pv 1))) (pg_name (i := 3) nd rfl (by first | exact Or.inl rfl | exact Or.inr rfl)) (s_one (s_set 2 nd (m_bin o_mul (m_var 2 (pv 2)) (m_var 0 (pv 0)))))) (s_one (s_ret (m_var 2 (pv 2))))))
theorem sc_law_group : FnScope N_law_group [Str.ofString "m", Str.ofString "most"] (defScope s_law_group) := ⟨rfl, rfl, rfl, by decide +kernel, rfl, by decide +kernel, by decide +kernel⟩
theorem w_law_group (T : Tx P w K mg ad fdd cA) (G : ∀ (f : Nat) (E : XK), FnOk P w K mg base (L2.CX P w) k (ad f) (fdd f) (psf f) (spD K ⟨cA, cFv, call, W, E⟩ f)) (f : Addr) (cdv : Value) (A : Around) (outer : List Env) (s : Shared) (H : Hp) (E : XK) (hr : Room k (A.deeper (PyProof.Rows.envOfC "_law_group" (defScope s_law_group) s.heap.objs.size f cdv))) :
    PSs (cxOf (L2.CX P w) P w K mg base N_law_group "_law_group" (defScope s_law_group) f cdv A outer s H E) (defBody s_law_group) (rdS K ⟨cA, cFv, call, W, E⟩ f_law_group.body) := by
  have nd : N_law_group.Nodup := sc_law_group.nd
  have hu := hr.units
  have hu1 := hu_of hr
  have hx : Passes (L2.CX P w) (cxOf (L2.CX P w) P w K mg base N_law_group "_law_group" (defScope s_law_group) f cdv A outer s H E) E := cx_px
  have hpo : PassesOwn (model P w) _ _ (cxOf (L2.CX P w) P w K mg base N_law_group "_law_group" (defScope s_law_group) f cdv A outer s H E).xe := cx_po
  exact (s_seq (s_newDTc 2 3 (pg_tup rfl (pgs_cons (pg_name (i := 2) nd rfl (by first | exact Or.inl rfl | exact Or.inr rfl)) (pgs_cons (pg_name (i := 3) nd rfl (by first | exact Or.inl rfl | exact Or.inr rfl)) pgs_nil)))) (s_seq (s_for (t := (.nm 4)) hpo rfl (i_rng1 rfl T.range (m_call (G 39 _) hr rfl (T.g 39 (by decide)) (T.kp 39 (by decide)) (T.b 39 (by decide)) hx (m_cons (m_var 0 (pv 0)) (m_cons m_int m_nil)))) (pg_name (i := 4) nd rfl (by first | exact Or.inl rfl | exact Or.inr rfl)) (s_seq (s_set 5 nd (m_call (G 40 _) hr rfl (T.g 40 (by decide)) (T.kp 40 (by decide)) (T.b 40 (by decide)) hx (m_cons (m_var 0 (pv 0)) (m_cons (m_lst (m_cons m_int (m_cons m_int (m_cons m_int (m_cons m_int (m_cons m_int (m_cons m_int (m_cons m_int m_nil)))))))) m_nil)))) (s_seq (s_par 6 7 rfl nd (m_bin o_add m_int (m_call (G 39 _) hr rfl (T.g 39 (by decide)) (T.kp 39 (by decide)) (T.b 39 (by decide)) hx (m_cons (m_var 0 (pv 0)) (m_cons m_int m_nil)))) (m_bin o_add m_int (m_call (G 39 _) hr rfl (T.g 39 (by decide)) (T.kp 39 (by decide)) (T.b 39 (by decide)) hx (m_cons (m_var 0 (pv 0)) (m_cons m_int m_nil))))) (s_seq (s_set 8 nd (m_call (G 42 _) hr rfl (T.g 42 (by decide)) (T.kp 42 (by decide)) (T.b 42 (by decide)) hx (m_cons (m_call (G 42 _) hr rfl (T.g 42 (by decide)) (T.kp 42 (by decide)) (T.b 42 (by decide)) hx (m_cons (m_var 5 (pv 5)) (m_cons (m_var 6 (pv 6)) m_nil))) (m_cons (m_var 7 (pv 7)) m_nil)))) (s_one (s_if (t_cmp o_le (m_bin o_mul (m_var 3 (pv 3)) (m_var 8 (pv 8))) (m_var 1 (pv 1))) (s_seq (s_dset 2 hu1 (pv 2) (m_tup (m_cons (m_var 5 (pv 5)) (m_cons (m_var 6 (pv 6)) m_nil))) (m_bin o_add (m_dget 2 hu1 (pv 2) (m_tup (m_cons (m_var 5 (pv 5)) (m_cons (m_var 6 (pv 6)) m_nil))) m_int) (m_var 7 (pv 7)))) (s_one (s_set 3 nd (m_bin o_mul (m_var 3 (pv 3)) (m_var 8 (pv 8)))))) s_nil)))))) (s_one (s_ret (m_bltT b_tuple rfl T.tuple (by decide +kernel) (m_cons (m_lc [((Str.ofString "prime"), 5), ((Str.ofString "power"), 6)] rfl nd (i_seqL (m_dsort 2 rfl (pv 2) rfl T.sorted)) (blkOk_by (N := N_law_group) (sc := (defScope s_law_group)) (own := [((Str.ofString "prime"), 5), ((Str.ofString "power"), 6)]) (by decide +kernel)) (fun _ _ _ _ _ => (pg_tup rfl (pgs_cons (pg_name (i := 5) nd rfl (by first | exact Or.inl rfl | exact Or.inr rfl)) (pgs_cons (pg_name (i := 6) nd rfl (by first | exact Or.inl rfl | exact Or.inr rfl)) pgs_nil)))) (fun _ _ _ _ _ => pts_no) (fun _ _ _ _ _ => (m_tup (m_cons (m_tup (m_cons m_str (m_cons (m_var 5 (pv 5)) (m_cons (m_var 6 (pv 6)) m_nil)))) (m_cons (m_dix 2 hu1 (pv 2) (m_tup (m_cons (m_var 5 (pv 5)) (m_cons (m_var 6 (pv 6)) m_nil)))) m_nil))))) m_nil))))))
theorem sc_law_moduli : FnScope N_law_moduli [Str.ofString "group"] (defScope s_law_moduli) := ⟨rfl, rfl, rfl, by decide +kernel, rfl, by decide +kernel, by decide +kernel⟩
theorem w_law_moduli (T : Tx P w K mg ad fdd cA) (G : ∀ (f : Nat) (E : XK), FnOk P w K mg base (L2.CX P w) k (ad f) (fdd f) (psf f) (spD K ⟨cA, cFv, call, W, E⟩ f)) (f : Addr) (cdv : Value) (A : Around) (outer : List Env) (s : Shared) (H : Hp) (E : XK) (hr : Room k (A.deeper (PyProof.Rows.envOfC "_law_moduli" (defScope s_law_moduli) s.heap.objs.size f cdv))) :
    PSs (cxOf (L2.CX P w) P w K mg base N_law_moduli "_law_moduli" (defScope s_law_moduli) f cdv A outer s H E) (defBody s_law_moduli) (rdS K ⟨cA, cFv, call, W, E⟩ f_law_moduli.body) := by
  have nd : N_law_moduli.Nodup := sc_law_moduli.nd
  have hu := hr.units
  have hu1 := hu_of hr
  have hx : Passes (L2.CX P w) (cxOf (L2.CX P w) P w K mg base N_law_moduli "_law_moduli" (defScope s_law_moduli) f cdv A outer s H E) E := cx_px
  have hpo : PassesOwn (model P w) _ _ (cxOf (L2.CX P w) P w K mg base N_law_moduli "_law_moduli" (defScope s_law_moduli) f cdv A outer s H E).xe := cx_po
  exact (s_seq (s_set 1 nd (m_lst m_nil)) (s_seq (s_for (t := (.tp [2, 3])) hpo rfl (i_seqT (m_var 0 (pv 0))) (pg_tup rfl (pgs_cons (pg_name (i := 2) nd rfl (by first | exact Or.inl rfl | exact Or.inr rfl)) (pgs_cons (pg_name (i := 3) nd rfl (by first | exact Or.inl rfl | exact Or.inr rfl)) pgs_nil))) (s_one (s_set 1 nd (m_bin o_add (m_var 1 (pv 1)) (m_bin o_mul (m_lst (m_cons (m_call (G 42 _) hr rfl (T.g 42 (by decide)) (T.kp 42 (by decide)) (T.b 42 (by decide)) hx (m_cons (m_ix (m_var 2 (pv 2)) m_int) (m_cons (m_ix (m_var 2 (pv 2)) m_int) m_nil))) m_nil)) (m_var 3 (pv 3))))))) (s_one (s_ret (m_var 1 (pv 1))))))
theorem sc_law_rows : FnScope N_law_rows [Str.ofString "moduli"] (defScope s_law_rows) := ⟨rfl, rfl, rfl, by decide +kernel, rfl, by decide +kernel, by decide +kernel⟩
theorem w_law_rows (T : Tx P w K mg ad fdd cA) (G : ∀ (f : Nat) (E : XK), FnOk P w K mg base (L2.CX P w) k (ad f) (fdd f) (psf f) (spD K ⟨cA, cFv, call, W, E⟩ f)) (f : Addr) (cdv : Value) (A : Around) (outer : List Env) (s : Shared) (H : Hp) (E : XK) (hr : Room k (A.deeper (PyProof.Rows.envOfC "_law_rows" (defScope s_law_rows) s.heap.objs.size f cdv))) :
    PSs (cxOf (L2.CX P w) P w K mg base N_law_rows "_law_rows" (defScope s_law_rows) f cdv A outer s H E) (defBody s_law_rows) (rdS K ⟨cA, cFv, call, W, E⟩ f_law_rows.body) := by
  have nd : N_law_rows.Nodup := sc_law_rows.nd
  have hu := hr.units
  have hu1 := hu_of hr
  have hx : Passes (L2.CX P w) (cxOf (L2.CX P w) P w K mg base N_law_rows "_law_rows" (defScope s_law_rows) f cdv A outer s H E) E := cx_px
  have hpo : PassesOwn (model P w) _ _ (cxOf (L2.CX P w) P w K mg base N_law_rows "_law_rows" (defScope s_law_rows) f cdv A outer s H E).xe := cx_po
  exact (s_seq (s_set 1 nd (m_lst (m_cons (m_tup m_nil) m_nil))) (s_seq (s_for (t := (.nm 2)) hpo rfl (i_seqL (m_var 0 (pv 0))) (pg_name (i := 2) nd rfl (by first | exact Or.inl rfl | exact Or.inr rfl)) (s_seq (s_set 3 nd (m_lst m_nil)) (s_seq (s_for (t := (.nm 4)) hpo rfl (i_seqL (m_var 1 (pv 1))) (pg_name (i := 4) nd rfl (by first | exact Or.inl rfl | exact Or.inr rfl)) (s_one (s_set 3 nd (m_bin o_add (m_var 3 (pv 3)) (m_lc [((Str.ofString "place"), 5)] rfl nd (i_rng1 rfl T.range (m_var 2 (pv 2))) (blkOk_by (N := N_law_rows) (sc := (defScope s_law_rows)) (own := [((Str.ofString "place"), 5)]) (by decide +kernel)) (fun _ _ _ _ _ => (pg_name (i := 5) nd rfl (by first | exact Or.inl rfl | exact Or.inr rfl))) (fun _ _ _ _ _ => pts_no) (fun _ _ _ _ _ => (m_bin o_add (m_var 4 (pv 4)) (m_tup (m_cons (m_var 5 (pv 5)) m_nil))))))))) (s_one (s_set 1 nd (m_var 3 (pv 3))))))) (s_one (s_ret (m_var 1 (pv 1))))))
theorem sc_law_divides : FnScope N_law_divides [Str.ofString "by", Str.ofString "modulus", Str.ofString "place"] (defScope s_law_divides) := ⟨rfl, rfl, rfl, by decide +kernel, rfl, by decide +kernel, by decide +kernel⟩
theorem w_law_divides (T : Tx P w K mg ad fdd cA) (G : ∀ (f : Nat) (E : XK), FnOk P w K mg base (L2.CX P w) k (ad f) (fdd f) (psf f) (spD K ⟨cA, cFv, call, W, E⟩ f)) (f : Addr) (cdv : Value) (A : Around) (outer : List Env) (s : Shared) (H : Hp) (E : XK) (hr : Room k (A.deeper (PyProof.Rows.envOfC "_law_divides" (defScope s_law_divides) s.heap.objs.size f cdv))) :
    PSs (cxOf (L2.CX P w) P w K mg base N_law_divides "_law_divides" (defScope s_law_divides) f cdv A outer s H E) (defBody s_law_divides) (rdS K ⟨cA, cFv, call, W, E⟩ f_law_divides.body) := by
  have nd : N_law_divides.Nodup := sc_law_divides.nd
  have hu := hr.units
  have hu1 := hu_of hr
  have hx : Passes (L2.CX P w) (cxOf (L2.CX P w) P w K mg base N_law_divides "_law_divides" (defScope s_law_divides) f cdv A outer s H E) E := cx_px
  have hpo : PassesOwn (model P w) _ _ (cxOf (L2.CX P w) P w K mg base N_law_divides "_law_divides" (defScope s_law_divides) f cdv A outer s H E).xe := cx_po
  exact (s_seq (s_par 3 4 rfl nd (m_var 0 (pv 0)) (m_var 1 (pv 1))) (s_seq (s_while hpo (t_cmp (o_ne hu) (m_var 4 (pv 4)) m_int) (s_one (s_par 3 4 rfl nd (m_var 4 (pv 4)) (m_bin o_mod (m_var 3 (pv 3)) (m_var 4 (pv 4)))))) (s_one (s_ret (m_cmp (o_eq hu) (m_bin o_mod (m_var 2 (pv 2)) (m_var 3 (pv 3))) m_int)))))
theorem sc_law_shape : FnScope N_law_shape [Str.ofString "m"] (defScope s_law_shape) := ⟨rfl, rfl, rfl, by decide +kernel, rfl, by decide +kernel, by decide +kernel⟩
theorem w_law_shape (T : Tx P w K mg ad fdd cA) (G : ∀ (f : Nat) (E : XK), FnOk P w K mg base (L2.CX P w) k (ad f) (fdd f) (psf f) (spD K ⟨cA, cFv, call, W, E⟩ f)) (f : Addr) (cdv : Value) (A : Around) (outer : List Env) (s : Shared) (H : Hp) (E : XK) (hr : Room k (A.deeper (PyProof.Rows.envOfC "_law_shape" (defScope s_law_shape) s.heap.objs.size f cdv))) :
    PSs (cxOf (L2.CX P w) P w K mg base N_law_shape "_law_shape" (defScope s_law_shape) f cdv A outer s H E) (defBody s_law_shape) (rdS K ⟨cA, cFv, call, W, E⟩ f_law_shape.body) := by
  have nd : N_law_shape.Nodup := sc_law_shape.nd
  have hu := hr.units
  have hu1 := hu_of hr
  have hx : Passes (L2.CX P w) (cxOf (L2.CX P w) P w K mg base N_law_shape "_law_shape" (defScope s_law_shape) f cdv A outer s H E) E := cx_px
  have hpo : PassesOwn (model P w) _ _ (cxOf (L2.CX P w) P w K mg base N_law_shape "_law_shape" (defScope s_law_shape) f cdv A outer s H E).xe := cx_po
  exact (s_one (s_ret (m_bltT b_tuple rfl T.tuple (by decide +kernel) (m_cons (m_lc [((Str.ofString "turn"), 1)] rfl nd (i_rng1 rfl T.range (m_call (G 39 _) hr rfl (T.g 39 (by decide)) (T.kp 39 (by decide)) (T.b 39 (by decide)) hx (m_cons (m_var 0 (pv 0)) (m_cons m_int m_nil)))) (blkOk_by (N := N_law_shape) (sc := (defScope s_law_shape)) (own := [((Str.ofString "turn"), 1)]) (by decide +kernel)) (fun _ _ _ _ _ => (pg_name (i := 1) nd rfl (by first | exact Or.inl rfl | exact Or.inr rfl))) (fun _ _ _ _ _ => pts_no) (fun _ _ _ _ _ => (m_tup (m_cons (m_call (G 40 _) hr rfl (T.g 40 (by decide)) (T.kp 40 (by decide)) (T.b 40 (by decide)) passL (m_cons (m_var 0 (pv 0)) (m_cons (m_lst (m_cons m_int (m_cons m_int (m_cons m_int (m_cons m_int (m_cons m_int (m_cons m_int (m_cons m_int (m_cons m_int (m_cons m_int m_nil)))))))))) m_nil))) (m_cons (m_call (G 40 _) hr rfl (T.g 40 (by decide)) (T.kp 40 (by decide)) (T.b 40 (by decide)) passL (m_cons (m_var 0 (pv 0)) (m_cons (m_lst (m_cons m_int (m_cons m_int (m_cons (m_neg m_int) (m_cons m_int (m_cons m_int (m_cons m_int (m_cons m_int (m_cons m_int (m_cons m_int m_nil)))))))))) m_nil))) m_nil))))) m_nil))))
theorem sc_law_in : FnScope N_law_in [Str.ofString "moduli", Str.ofString "shape", Str.ofString "row"] (defScope s_law_in) := ⟨rfl, rfl, rfl, by decide +kernel, rfl, by decide +kernel, by decide +kernel⟩
theorem w_law_in (T : Tx P w K mg ad fdd cA) (G : ∀ (f : Nat) (E : XK), FnOk P w K mg base (L2.CX P w) k (ad f) (fdd f) (psf f) (spD K ⟨cA, cFv, call, W, E⟩ f)) (f : Addr) (cdv : Value) (A : Around) (outer : List Env) (s : Shared) (H : Hp) (E : XK) (hr : Room k (A.deeper (PyProof.Rows.envOfC "_law_in" (defScope s_law_in) s.heap.objs.size f cdv))) :
    PSs (cxOf (L2.CX P w) P w K mg base N_law_in "_law_in" (defScope s_law_in) f cdv A outer s H E) (defBody s_law_in) (rdS K ⟨cA, cFv, call, W, E⟩ f_law_in.body) := by
  have nd : N_law_in.Nodup := sc_law_in.nd
  have hu := hr.units
  have hu1 := hu_of hr
  have hx : Passes (L2.CX P w) (cxOf (L2.CX P w) P w K mg base N_law_in "_law_in" (defScope s_law_in) f cdv A outer s H E) E := cx_px
  have hpo : PassesOwn (model P w) _ _ (cxOf (L2.CX P w) P w K mg base N_law_in "_law_in" (defScope s_law_in) f cdv A outer s H E).xe := cx_po
  exact (s_seq (s_for (t := (.tp [3, 4])) hpo rfl (i_seqT (m_var 1 (pv 1))) (pg_tup rfl (pgs_cons (pg_name (i := 3) nd rfl (by first | exact Or.inl rfl | exact Or.inr rfl)) (pgs_cons (pg_name (i := 4) nd rfl (by first | exact Or.inl rfl | exact Or.inr rfl)) pgs_nil))) (s_one (s_if (t_cmp (o_ne hu) (m_lc [((Str.ofString "k"), 5)] rfl nd (i_rng1 rfl T.range (m_bltB b_len rfl T.len (by decide +kernel) (m_cons (m_var 0 (pv 0)) m_nil))) (blkOk_by (N := N_law_in) (sc := (defScope s_law_in)) (own := [((Str.ofString "k"), 5)]) (by decide +kernel)) (fun _ _ _ _ _ => (pg_name (i := 5) nd rfl (by first | exact Or.inl rfl | exact Or.inr rfl))) (fun _ _ _ _ _ => pts_one (t_not (t_val (m_call (G 46 _) hr rfl (T.g 46 (by decide)) (T.kp 46 (by decide)) (T.b 46 (by decide)) passL (m_cons (m_var 3 (pv 3)) (m_cons (m_ix (m_var 0 (pv 0)) (m_var 5 (pv 5))) (m_cons (m_bin o_mod (m_bin o_mul (m_var 4 (pv 4)) (m_ix (m_var 2 (pv 2)) (m_var 5 (pv 5)))) (m_ix (m_var 0 (pv 0)) (m_var 5 (pv 5)))) m_nil))))))) (fun _ _ _ _ _ => (m_var 5 (pv 5)))) (m_lst m_nil)) (s_one (s_ret m_bl)) s_nil))) (s_one (s_ret m_bl)))
theorem sc_law_count : FnScope N_law_count [Str.ofString "group", Str.ofString "one", Str.ofString "other"] (defScope s_law_count) := ⟨rfl, rfl, rfl, by decide +kernel, rfl, by decide +kernel, by decide +kernel⟩
theorem w_law_count (T : Tx P w K mg ad fdd cA) (G : ∀ (f : Nat) (E : XK), FnOk P w K mg base (L2.CX P w) k (ad f) (fdd f) (psf f) (spD K ⟨cA, cFv, call, W, E⟩ f)) (f : Addr) (cdv : Value) (A : Around) (outer : List Env) (s : Shared) (H : Hp) (E : XK) (hr : Room k (A.deeper (PyProof.Rows.envOfC "_law_count" (defScope s_law_count) s.heap.objs.size f cdv))) :
    PSs (cxOf (L2.CX P w) P w K mg base N_law_count "_law_count" (defScope s_law_count) f cdv A outer s H E) (defBody s_law_count) (rdS K ⟨cA, cFv, call, W, E⟩ f_law_count.body) := by
  have nd : N_law_count.Nodup := sc_law_count.nd
  have hu := hr.units
  have hu1 := hu_of hr
  have hx : Passes (L2.CX P w) (cxOf (L2.CX P w) P w K mg base N_law_count "_law_count" (defScope s_law_count) f cdv A outer s H E) E := cx_px
  have hpo : PassesOwn (model P w) _ _ (cxOf (L2.CX P w) P w K mg base N_law_count "_law_count" (defScope s_law_count) f cdv A outer s H E).xe := cx_po
  exact (s_seq (s_set 3 nd (m_call (G 44 _) hr rfl (T.g 44 (by decide)) (T.kp 44 (by decide)) (T.b 44 (by decide)) hx (m_cons (m_var 0 (pv 0)) m_nil))) (s_seq (s_setLc 4 [((Str.ofString "row"), 5)] rfl nd rfl rfl (sw_true rfl rfl rfl (by decide +kernel)) (i_seqL (m_call (G 45 _) hr rfl (T.g 45 (by decide)) (T.kp 45 (by decide)) (T.b 45 (by decide)) hx (m_cons (m_var 3 (pv 3)) m_nil))) (blkOk_by (N := N_law_count) (sc := (defScope s_law_count)) (own := [((Str.ofString "row"), 5)]) (by decide +kernel)) (fun _ _ _ _ _ => (pg_name (i := 5) nd rfl (by first | exact Or.inl rfl | exact Or.inr rfl))) (fun _ _ _ _ _ => pts_one (t_val (m_call (G 48 _) hr rfl (T.g 48 (by decide)) (T.kp 48 (by decide)) (T.b 48 (by decide)) passL (m_cons (m_var 3 (pv 3)) (m_cons (m_var 1 (pv 1)) (m_cons (m_var 5 (pv 5)) m_nil)))))) (fun _ _ _ _ _ => (m_var 5 (pv 5)))) (s_one (s_ret (m_bin o_fdiv (m_bltB b_len rfl T.len (by decide +kernel) (m_cons (m_var 4 (pv 4)) m_nil)) (m_bltB b_len rfl T.len (by decide +kernel) (m_cons (m_lc [((Str.ofString "row"), 5)] rfl nd (i_seqL (m_var 4 (pv 4))) (blkOk_by (N := N_law_count) (sc := (defScope s_law_count)) (own := [((Str.ofString "row"), 5)]) (by decide +kernel)) (fun _ _ _ _ _ => (pg_name (i := 5) nd rfl (by first | exact Or.inl rfl | exact Or.inr rfl))) (fun _ _ _ _ _ => pts_one (t_val (m_call (G 48 _) hr rfl (T.g 48 (by decide)) (T.kp 48 (by decide)) (T.b 48 (by decide)) passL (m_cons (m_var 3 (pv 3)) (m_cons (m_var 2 (pv 2)) (m_cons (m_var 5 (pv 5)) m_nil)))))) (fun _ _ _ _ _ => (m_var 5 (pv 5)))) m_nil)))))))
theorem sc_law_common : FnScope N_law_common [Str.ofString "one", Str.ofString "other"] (defScope s_law_common) := ⟨rfl, rfl, rfl, by decide +kernel, rfl, by decide +kernel, by decide +kernel⟩
theorem w_law_common (T : Tx P w K mg ad fdd cA) (G : ∀ (f : Nat) (E : XK), FnOk P w K mg base (L2.CX P w) k (ad f) (fdd f) (psf f) (spD K ⟨cA, cFv, call, W, E⟩ f)) (f : Addr) (cdv : Value) (A : Around) (outer : List Env) (s : Shared) (H : Hp) (E : XK) (hr : Room k (A.deeper (PyProof.Rows.envOfC "_law_common" (defScope s_law_common) s.heap.objs.size f cdv))) :
    PSs (cxOf (L2.CX P w) P w K mg base N_law_common "_law_common" (defScope s_law_common) f cdv A outer s H E) (defBody s_law_common) (rdS K ⟨cA, cFv, call, W, E⟩ f_law_common.body) := by
  have nd : N_law_common.Nodup := sc_law_common.nd
  have hu := hr.units
  have hu1 := hu_of hr
  have hx : Passes (L2.CX P w) (cxOf (L2.CX P w) P w K mg base N_law_common "_law_common" (defScope s_law_common) f cdv A outer s H E) E := cx_px
  have hpo : PassesOwn (model P w) _ _ (cxOf (L2.CX P w) P w K mg base N_law_common "_law_common" (defScope s_law_common) f cdv A outer s H E).xe := cx_po
  exact (s_seq (s_while hpo (t_cmp (o_ne hu) (m_var 1 (pv 1)) m_int) (s_one (s_par 0 1 rfl nd (m_var 1 (pv 1)) (m_bin o_mod (m_var 0 (pv 0)) (m_var 1 (pv 1)))))) (s_one (s_ret (m_bltB b_abs rfl T.abs (by decide +kernel) (m_cons (m_var 0 (pv 0)) m_nil)))))
theorem sc_law_whole : FnScope N_law_whole [Str.ofString "shape"] (defScope s_law_whole) := ⟨rfl, rfl, rfl, by decide +kernel, rfl, by decide +kernel, by decide +kernel⟩
theorem w_law_whole (T : Tx P w K mg ad fdd cA) (G : ∀ (f : Nat) (E : XK), FnOk P w K mg base (L2.CX P w) k (ad f) (fdd f) (psf f) (spD K ⟨cA, cFv, call, W, E⟩ f)) (f : Addr) (cdv : Value) (A : Around) (outer : List Env) (s : Shared) (H : Hp) (E : XK) (hr : Room k (A.deeper (PyProof.Rows.envOfC "_law_whole" (defScope s_law_whole) s.heap.objs.size f cdv))) :
    PSs (cxOf (L2.CX P w) P w K mg base N_law_whole "_law_whole" (defScope s_law_whole) f cdv A outer s H E) (defBody s_law_whole) (rdS K ⟨cA, cFv, call, W, E⟩ f_law_whole.body) := by
  have nd : N_law_whole.Nodup := sc_law_whole.nd
  have hu := hr.units
  have hu1 := hu_of hr
  have hx : Passes (L2.CX P w) (cxOf (L2.CX P w) P w K mg base N_law_whole "_law_whole" (defScope s_law_whole) f cdv A outer s H E) E := cx_px
  have hpo : PassesOwn (model P w) _ _ (cxOf (L2.CX P w) P w K mg base N_law_whole "_law_whole" (defScope s_law_whole) f cdv A outer s H E).xe := cx_po
  exact (s_seq (s_setLc 1 [((Str.ofString "by"), 4), ((Str.ofString "factor"), 5)] rfl nd rfl rfl (sw_true rfl rfl rfl (by decide +kernel)) (i_seqT (m_var 0 (pv 0))) (blkOk_by (N := N_law_whole) (sc := (defScope s_law_whole)) (own := [((Str.ofString "by"), 4), ((Str.ofString "factor"), 5)]) (by decide +kernel)) (fun _ _ _ _ _ => (pg_tup rfl (pgs_cons (pg_name (i := 4) nd rfl (by first | exact Or.inl rfl | exact Or.inr rfl)) (pgs_cons (pg_name (i := 5) nd rfl (by first | exact Or.inl rfl | exact Or.inr rfl)) pgs_nil)))) (fun _ _ _ _ _ => pts_one (t_cmp (o_ne hu) (m_var 5 (pv 5)) m_int)) (fun _ _ _ _ _ => (m_bin o_fdiv (m_var 4 (pv 4)) (m_call (G 50 _) hr rfl (T.g 50 (by decide)) (T.kp 50 (by decide)) (T.b 50 (by decide)) passL (m_cons (m_var 4 (pv 4)) (m_cons (m_var 5 (pv 5)) m_nil)))))) (s_seq (s_set 2 nd m_int) (s_seq (s_for (t := (.nm 3)) hpo rfl (i_seqL (m_var 1 (pv 1))) (pg_name (i := 3) nd rfl (by first | exact Or.inl rfl | exact Or.inr rfl)) (s_one (s_set 2 nd (m_ifx (PW.pt (w_or (t_cmp (o_eq hu) (m_var 3 (pv 3)) m_int) (w_or1 (t_cmp (o_eq hu) (m_var 2 (pv 2)) m_int)))) m_int (m_bin o_fdiv (m_bin o_mul (m_var 2 (pv 2)) (m_var 3 (pv 3))) (m_call (G 50 _) hr rfl (T.g 50 (by decide)) (T.kp 50 (by decide)) (T.b 50 (by decide)) hx (m_cons (m_var 2 (pv 2)) (m_cons (m_var 3 (pv 3)) m_nil)))))))) (s_one (s_ret (m_var 2 (pv 2)))))))
theorem sc_law_torsion : FnScope N_law_torsion [Str.ofString "prime", Str.ofString "shape"] (defScope s_law_torsion) := ⟨rfl, rfl, rfl, by decide +kernel, rfl, by decide +kernel, by decide +kernel⟩
theorem w_law_torsion (T : Tx P w K mg ad fdd cA) (G : ∀ (f : Nat) (E : XK), FnOk P w K mg base (L2.CX P w) k (ad f) (fdd f) (psf f) (spD K ⟨cA, cFv, call, W, E⟩ f)) (f : Addr) (cdv : Value) (A : Around) (outer : List Env) (s : Shared) (H : Hp) (E : XK) (hr : Room k (A.deeper (PyProof.Rows.envOfC "_law_torsion" (defScope s_law_torsion) s.heap.objs.size f cdv))) :
    PSs (cxOf (L2.CX P w) P w K mg base N_law_torsion "_law_torsion" (defScope s_law_torsion) f cdv A outer s H E) (defBody s_law_torsion) (rdS K ⟨cA, cFv, call, W, E⟩ f_law_torsion.body) := by
  have nd : N_law_torsion.Nodup := sc_law_torsion.nd
  have hu := hr.units
  have hu1 := hu_of hr
  have hx : Passes (L2.CX P w) (cxOf (L2.CX P w) P w K mg base N_law_torsion "_law_torsion" (defScope s_law_torsion) f cdv A outer s H E) E := cx_px
  have hpo : PassesOwn (model P w) _ _ (cxOf (L2.CX P w) P w K mg base N_law_torsion "_law_torsion" (defScope s_law_torsion) f cdv A outer s H E).xe := cx_po
  exact (s_seq (s_newL 2 nd) (s_seq (s_for (t := (.tp [3, 4])) hpo rfl (i_seqT (m_var 1 (pv 1))) (pg_tup rfl (pgs_cons (pg_name (i := 3) nd rfl (by first | exact Or.inl rfl | exact Or.inr rfl)) (pgs_cons (pg_name (i := 4) nd rfl (by first | exact Or.inl rfl | exact Or.inr rfl)) pgs_nil))) (s_one (s_if (PW.pt (w_and (t_cmp (o_eq hu) (m_var 3 (pv 3)) m_int) (w_and1 (t_cmp (o_ne hu) (m_var 4 (pv 4)) m_int)))) (s_seq (s_set 5 nd m_int) (s_seq (s_while hpo (t_cmp (o_eq hu) (m_bin o_mod (m_var 4 (pv 4)) (m_bin o_mul (m_var 5 (pv 5)) (m_var 0 (pv 0)))) m_int) (s_one (s_set 5 nd (m_bin o_mul (m_var 5 (pv 5)) (m_var 0 (pv 0)))))) (s_one (s_app 2 (pv 2) (m_var 5 (pv 5)))))) s_nil))) (s_frz 2 (s_one (s_ret (m_ifx (t_cmp (o_ne hu) (m_var 2 (pv 2)) (m_lst m_nil)) (m_bltB (b_min1 rfl) rfl T.min (by decide +kernel) (m_cons (m_var 2 (pv 2)) m_nil)) m_non))))))
theorem sc_law_endless : FnScope N_law_endless [Str.ofString "m", Str.ofString "one", Str.ofString "other"] (defScope s_law_endless) := ⟨rfl, rfl, rfl, by decide +kernel, rfl, by decide +kernel, by decide +kernel⟩
theorem w_law_endless (T : Tx P w K mg ad fdd cA) (G : ∀ (f : Nat) (E : XK), FnOk P w K mg base (L2.CX P w) k (ad f) (fdd f) (psf f) (spD K ⟨cA, cFv, call, W, E⟩ f)) (f : Addr) (cdv : Value) (A : Around) (outer : List Env) (s : Shared) (H : Hp) (E : XK) (hr : Room k (A.deeper (PyProof.Rows.envOfC "_law_endless" (defScope s_law_endless) s.heap.objs.size f cdv))) :
    PSs (cxOf (L2.CX P w) P w K mg base N_law_endless "_law_endless" (defScope s_law_endless) f cdv A outer s H E) (defBody s_law_endless) (rdS K ⟨cA, cFv, call, W, E⟩ f_law_endless.body) := by
  have nd : N_law_endless.Nodup := sc_law_endless.nd
  have hu := hr.units
  have hu1 := hu_of hr
  have hx : Passes (L2.CX P w) (cxOf (L2.CX P w) P w K mg base N_law_endless "_law_endless" (defScope s_law_endless) f cdv A outer s H E) E := cx_px
  have hpo : PassesOwn (model P w) _ _ (cxOf (L2.CX P w) P w K mg base N_law_endless "_law_endless" (defScope s_law_endless) f cdv A outer s H E).xe := cx_po
  exact (s_seq (s_par 3 4 rfl nd (m_call (G 51 _) hr rfl (T.g 51 (by decide)) (T.kp 51 (by decide)) (T.b 51 (by decide)) hx (m_cons (m_var 1 (pv 1)) m_nil)) (m_call (G 51 _) hr rfl (T.g 51 (by decide)) (T.kp 51 (by decide)) (T.b 51 (by decide)) hx (m_cons (m_bin o_add (m_var 1 (pv 1)) (m_var 2 (pv 2))) m_nil))) (s_seq (s_set 5 nd (m_ifx (t_cmp (o_eq hu) (m_var 3 (pv 3)) m_int) m_int (m_ifx (t_cmp (o_eq hu) (m_var 4 (pv 4)) m_int) m_str (m_bin o_fdiv (m_var 4 (pv 4)) (m_var 3 (pv 3)))))) (s_seq (s_if (t_not (t_val (m_call (G 41 _) hr rfl (T.g 41 (by decide)) (T.kp 41 (by decide)) (T.b 41 (by decide)) hx (m_cons (m_call (G 37 _) hr rfl (T.g 37 (by decide)) (T.kp 37 (by decide)) (T.b 37 (by decide)) hx (m_cons (m_tup (m_cons (m_tup (m_cons (m_tup (m_cons m_str m_nil)) (m_cons m_int m_nil))) m_nil)) (m_cons (m_var 1 (pv 1)) (m_cons (m_var 2 (pv 2)) m_nil)))) (m_cons (m_var 5 (pv 5)) m_nil))))) (s_one (s_ret m_bl)) s_nil) (s_seq (s_if (t_not (t_val (m_call (G 41 _) hr rfl (T.g 41 (by decide)) (T.kp 41 (by decide)) (T.b 41 (by decide)) hx (m_cons (m_call (G 37 _) hr rfl (T.g 37 (by decide)) (T.kp 37 (by decide)) (T.b 37 (by decide)) hx (m_cons (m_tup (m_cons (m_tup (m_cons (m_tup (m_cons m_str m_nil)) (m_cons m_int m_nil))) m_nil)) (m_cons (m_var 1 (pv 1)) (m_cons (m_var 2 (pv 2)) m_nil)))) (m_cons (m_ifx (t_cmp o_in (m_var 5 (pv 5)) (m_lst (m_cons m_int (m_cons m_str m_nil)))) (m_var 5 (pv 5)) (m_bin o_mul (m_var 5 (pv 5)) (m_var 5 (pv 5)))) m_nil))))) (s_one (s_ret m_bl)) s_nil) (s_seq (s_setLc 6 [((Str.ofString "shape"), 8)] rfl nd rfl rfl (sw_true rfl rfl rfl (by decide +kernel)) (i_seqT (m_tup (m_cons (m_var 1 (pv 1)) (m_cons (m_bin o_add (m_var 1 (pv 1)) (m_var 2 (pv 2))) m_nil)))) (blkOk_by (N := N_law_endless) (sc := (defScope s_law_endless)) (own := [((Str.ofString "shape"), 8)]) (by decide +kernel)) (fun _ _ _ _ _ => (pg_name (i := 8) nd rfl (by first | exact Or.inl rfl | exact Or.inr rfl))) (fun _ _ _ _ _ => pts_no) (fun _ _ _ _ _ => (m_cmp (o_ne hu) (m_lc [((Str.ofString "pair"), 9)] rfl nd (i_seqT (m_var 8 (pv 8))) (blkOk_by (N := N_law_endless) (sc := (relS _ (defScope s_law_endless))) (own := [((Str.ofString "pair"), 9)]) (by decide +kernel)) (fun _ _ _ _ _ => (pg_name (i := 9) nd rfl (by first | exact Or.inl rfl | exact Or.inr rfl))) (fun _ _ _ _ _ => pts_one (PW.pt (w_and (t_cmp (o_eq hu) (m_ix (m_var 9 (pv 9)) m_int) m_int) (w_and1 (t_cmp (o_ne hu) (m_ix (m_var 9 (pv 9)) m_int) m_int))))) (fun _ _ _ _ _ => (m_var 9 (pv 9)))) (m_lst m_nil)))) (s_seq (s_if (t_not (t_val (m_call (G 41 _) hr rfl (T.g 41 (by decide)) (T.kp 41 (by decide)) (T.b 41 (by decide)) hx (m_cons (m_call (G 37 _) hr rfl (T.g 37 (by decide)) (T.kp 37 (by decide)) (T.b 37 (by decide)) hx (m_cons (m_tup (m_cons (m_tup (m_cons (m_tup (m_cons m_str m_nil)) (m_cons m_str m_nil))) m_nil)) (m_cons (m_var 1 (pv 1)) (m_cons (m_var 2 (pv 2)) m_nil)))) (m_cons (m_ifx (PW.pt (w_and (t_val (m_ix (m_var 6 (pv 6)) m_int)) (w_and1 (t_not (t_val (m_ix (m_var 6 (pv 6)) m_int)))))) m_str m_int) m_nil))))) (s_one (s_ret m_bl)) s_nil) (s_seq (s_set 7 nd (m_call (G 40 _) hr rfl (T.g 40 (by decide)) (T.kp 40 (by decide)) (T.b 40 (by decide)) hx (m_cons (m_var 0 (pv 0)) (m_cons (m_lst (m_cons m_int (m_cons m_int m_nil))) m_nil)))) (s_seq (s_par 3 4 rfl nd (m_call (G 52 _) hr rfl (T.g 52 (by decide)) (T.kp 52 (by decide)) (T.b 52 (by decide)) hx (m_cons (m_var 7 (pv 7)) (m_cons (m_var 1 (pv 1)) m_nil))) (m_call (G 52 _) hr rfl (T.g 52 (by decide)) (T.kp 52 (by decide)) (T.b 52 (by decide)) hx (m_cons (m_var 7 (pv 7)) (m_cons (m_bin o_add (m_var 1 (pv 1)) (m_var 2 (pv 2))) m_nil)))) (s_seq (s_set 5 nd (m_ifx (t_cmp o_is (m_var 3 (pv 3)) m_non) (m_ifx (t_cmp o_is (m_var 4 (pv 4)) m_non) m_int m_str) (m_bin o_fdiv (m_var 3 (pv 3)) (m_var 4 (pv 4))))) (s_one (s_ret (m_call (G 41 _) hr rfl (T.g 41 (by decide)) (T.kp 41 (by decide)) (T.b 41 (by decide)) hx (m_cons (m_call (G 37 _) hr rfl (T.g 37 (by decide)) (T.kp 37 (by decide)) (T.b 37 (by decide)) hx (m_cons (m_tup (m_cons (m_tup (m_cons (m_tup (m_cons m_str (m_cons (m_var 7 (pv 7)) m_nil))) (m_cons m_int m_nil))) m_nil)) (m_cons (m_var 1 (pv 1)) (m_cons (m_var 2 (pv 2)) m_nil)))) (m_cons (m_var 5 (pv 5)) m_nil))))))))))))))
theorem sc_law : FnScope N_law [Str.ofString "script"] (defScope s_law) := ⟨rfl, rfl, rfl, by decide +kernel, rfl, by decide +kernel, by decide +kernel⟩
theorem w_law (T : Tx P w K mg ad fdd cA) (G : ∀ (f : Nat) (E : XK), FnOk P w K mg base (L2.CX P w) k (ad f) (fdd f) (psf f) (spD K ⟨cA, cFv, call, W, E⟩ f)) (f : Addr) (cdv : Value) (A : Around) (outer : List Env) (s : Shared) (H : Hp) (E : XK) (hr : Room k (A.deeper (PyProof.Rows.envOfC "law" (defScope s_law) s.heap.objs.size f cdv))) (hgd : (A.deeper (PyProof.Rows.envOfC "law" (defScope s_law) s.heap.objs.size f cdv)).guards = some []) (hu64 : (A.deeper (PyProof.Rows.envOfC "law" (defScope s_law) s.heap.objs.size f cdv)).units + 64 < cLine) {CE : Addr} (mCE : mg "AddingError" = some (.ref CE)) (em : PySem.W.exmOne K (.ref (cA 2)) (.ref CE) = some true) (ei : ErrIs K (cA 2)) (ki : PySem.W.kitOne K (.ref (cA 2)) (.ref (cA 2)) = some true) (xf : XfC K (cA 2)) (hno : PySem.W.findIn K (.ref (cA 2)) (cFv 2) = some none) :
    PSs (cxOf (L2.CX P w) P w K mg base N_law "law" (defScope s_law) f cdv A outer s H E) (defBody s_law).tail (rdS K ⟨cA, cFv, call, W, E⟩ f_law.body) := by
  have nd : N_law.Nodup := sc_law.nd
  have hu := hr.units
  have hu1 := hu_of hr
  have hx : Passes (L2.CX P w) (cxOf (L2.CX P w) P w K mg base N_law "law" (defScope s_law) f cdv A outer s H E) E := cx_px
  have hpo : PassesOwn (model P w) _ _ (cxOf (L2.CX P w) P w K mg base N_law "law" (defScope s_law) f cdv A outer s H E).xe := cx_po
  obtain ⟨_, e_BadShape⟩ := T.e_BadShape
  exact (s_seq (s_for (t := (.nm 2)) hpo rfl (i_rng1 rfl T.range m_int) (pg_name (i := 2) nd rfl (by first | exact Or.inl rfl | exact Or.inr rfl)) (s_seq (s_par3 3 4 5 rfl nd (m_call (G 47 _) hr rfl (T.g 47 (by decide)) (T.kp 47 (by decide)) (T.b 47 (by decide)) hx (m_cons (m_var 1 (pv 1)) m_nil)) (m_call (G 47 _) hr rfl (T.g 47 (by decide)) (T.kp 47 (by decide)) (T.b 47 (by decide)) hx (m_cons (m_var 1 (pv 1)) m_nil)) (m_call (G 47 _) hr rfl (T.g 47 (by decide)) (T.kp 47 (by decide)) (T.b 47 (by decide)) hx (m_cons (m_var 1 (pv 1)) m_nil))) (s_seq (s_set 6 nd (m_call (G 43 _) hr rfl (T.g 43 (by decide)) (T.kp 43 (by decide)) (T.b 43 (by decide)) hx (m_cons (m_var 1 (pv 1)) (m_cons m_int m_nil)))) (s_seq (s_set 7 nd (m_call (G 49 _) hr rfl (T.g 49 (by decide)) (T.kp 49 (by decide)) (T.b 49 (by decide)) hx (m_cons (m_var 6 (pv 6)) (m_cons (m_var 3 (pv 3)) (m_cons (m_var 4 (pv 4)) m_nil))))) (s_seq (s_if (PW.pt (w_or (t_not (t_val (m_call (G 41 _) hr rfl (T.g 41 (by decide)) (T.kp 41 (by decide)) (T.b 41 (by decide)) hx (m_cons (m_call (G 37 _) hr rfl (T.g 37 (by decide)) (T.kp 37 (by decide)) (T.b 37 (by decide)) hx (m_cons (m_var 6 (pv 6)) (m_cons (m_var 3 (pv 3)) (m_cons (m_var 4 (pv 4)) m_nil)))) (m_cons (m_var 7 (pv 7)) m_nil))))) (w_or1 (t_not (t_val (m_call (G 53 _) hr rfl (T.g 53 (by decide)) (T.kp 53 (by decide)) (T.b 53 (by decide)) hx (m_cons (m_var 1 (pv 1)) (m_cons (m_var 3 (pv 3)) (m_cons (m_var 4 (pv 4)) m_nil))))))))) (s_one (s_ret m_bl)) s_nil) (s_seq (s_if (t_cmp (o_ne hu) (m_bin o_mul (m_var 7 (pv 7)) (m_call (G 49 _) hr rfl (T.g 49 (by decide)) (T.kp 49 (by decide)) (T.b 49 (by decide)) hx (m_cons (m_var 6 (pv 6)) (m_cons (m_bin o_add (m_var 3 (pv 3)) (m_var 4 (pv 4))) (m_cons (m_var 5 (pv 5)) m_nil))))) (m_call (G 37 _) hr rfl (T.g 37 (by decide)) (T.kp 37 (by decide)) (T.b 37 (by decide)) hx (m_cons (m_var 6 (pv 6)) (m_cons (m_var 3 (pv 3)) (m_cons (m_bin o_add (m_var 4 (pv 4)) (m_var 5 (pv 5))) m_nil))))) (s_one (s_ret m_bl)) s_nil) (s_seq (s_set 8 nd (m_call (G 43 _) hr rfl (T.g 43 (by decide)) (T.kp 43 (by decide)) (T.b 43 (by decide)) hx (m_cons (m_var 1 (pv 1)) (m_cons m_int m_nil)))) (s_seq (s_if (t_not (t_val (m_call (G 41 _) hr rfl (T.g 41 (by decide)) (T.kp 41 (by decide)) (T.b 41 (by decide)) hx (m_cons (m_call (G 37 _) hr rfl (T.g 37 (by decide)) (T.kp 37 (by decide)) (T.b 37 (by decide)) hx (m_cons (m_call (G 10 _) hr rfl (T.g 10 (by decide)) (T.kp 10 (by decide)) (T.b 10 (by decide)) hx (m_cons (m_var 6 (pv 6)) (m_cons (m_var 8 (pv 8)) m_nil))) (m_cons (m_var 3 (pv 3)) (m_cons (m_var 4 (pv 4)) m_nil)))) (m_cons (m_bin o_mul (m_var 7 (pv 7)) (m_call (G 49 _) hr rfl (T.g 49 (by decide)) (T.kp 49 (by decide)) (T.b 49 (by decide)) hx (m_cons (m_var 8 (pv 8)) (m_cons (m_var 3 (pv 3)) (m_cons (m_var 4 (pv 4)) m_nil))))) m_nil))))) (s_one (s_ret m_bl)) s_nil) (s_seq (s_set 9 nd (m_tup (m_cons m_str (m_cons (m_call (G 40 _) hr rfl (T.g 40 (by decide)) (T.kp 40 (by decide)) (T.b 40 (by decide)) hx (m_cons (m_var 1 (pv 1)) (m_cons (m_lst (m_cons m_int (m_cons m_int m_nil))) m_nil))) (m_cons (m_bin o_add m_int (m_call (G 39 _) hr rfl (T.g 39 (by decide)) (T.kp 39 (by decide)) (T.b 39 (by decide)) hx (m_cons (m_var 1 (pv 1)) (m_cons m_int m_nil)))) m_nil))))) (s_seq (s_par 10 11 rfl nd (m_call (G 49 _) hr rfl (T.g 49 (by decide)) (T.kp 49 (by decide)) (T.b 49 (by decide)) hx (m_cons (m_tup (m_cons (m_tup (m_cons (m_var 9 (pv 9)) (m_cons m_int m_nil))) m_nil)) (m_cons (m_var 3 (pv 3)) (m_cons (m_var 4 (pv 4)) m_nil)))) (m_bin o_add m_int (m_call (G 39 _) hr rfl (T.g 39 (by decide)) (T.kp 39 (by decide)) (T.b 39 (by decide)) hx (m_cons (m_var 1 (pv 1)) (m_cons m_int m_nil))))) (s_seq (s_if (t_not (t_val (m_call (G 41 _) hr rfl (T.g 41 (by decide)) (T.kp 41 (by decide)) (T.b 41 (by decide)) hx (m_cons (m_call (G 37 _) hr rfl (T.g 37 (by decide)) (T.kp 37 (by decide)) (T.b 37 (by decide)) hx (m_cons (m_tup (m_cons (m_tup (m_cons (m_var 9 (pv 9)) (m_cons (m_var 11 (pv 11)) m_nil))) m_nil)) (m_cons (m_var 3 (pv 3)) (m_cons (m_var 4 (pv 4)) m_nil)))) (m_cons (m_call (G 42 _) hr rfl (T.g 42 (by decide)) (T.kp 42 (by decide)) (T.b 42 (by decide)) hx (m_cons (m_var 10 (pv 10)) (m_cons (m_var 11 (pv 11)) m_nil))) m_nil))))) (s_one (s_ret m_bl)) s_nil) (s_seq (s_if (t_not (t_val (m_call (G 41 _) hr rfl (T.g 41 (by decide)) (T.kp 41 (by decide)) (T.b 41 (by decide)) hx (m_cons (m_call (G 37 _) hr rfl (T.g 37 (by decide)) (T.kp 37 (by decide)) (T.b 37 (by decide)) hx (m_cons (m_tup (m_cons (m_tup (m_cons (m_var 9 (pv 9)) (m_cons m_str m_nil))) m_nil)) (m_cons (m_var 3 (pv 3)) (m_cons (m_var 4 (pv 4)) m_nil)))) (m_cons (m_ifx (t_cmp (o_eq hu) (m_var 10 (pv 10)) m_int) m_int m_str) m_nil))))) (s_one (s_ret m_bl)) s_nil) (s_seq (s_set 12 nd (m_call (G 44 _) hr rfl (T.g 44 (by decide)) (T.kp 44 (by decide)) (T.b 44 (by decide)) hx (m_cons (m_var 6 (pv 6)) m_nil))) (s_seq (s_for (t := (.tp [13, 14])) hpo rfl (i_seqL (m_sl (m_lzip rfl (m_call (G 28 _) hr rfl (T.g 28 (by decide)) (T.kp 28 (by decide)) (T.b 28 (by decide)) hx (m_cons (m_var 6 (pv 6)) m_nil)) (m_call (G 45 _) hr rfl (T.g 45 (by decide)) (T.kp 45 (by decide)) (T.b 45 (by decide)) hx (m_cons (m_var 12 (pv 12)) m_nil)) rfl T.list rfl T.zip) po_no (po_so m_int))) (pg_tup rfl (pgs_cons (pg_name (i := 13) nd rfl (by first | exact Or.inl rfl | exact Or.inr rfl)) (pgs_cons (pg_name (i := 14) nd rfl (by first | exact Or.inl rfl | exact Or.inr rfl)) pgs_nil))) (s_one (s_if (PW.pt (w_and (t_cmp (o_eq hu) (m_lc [((Str.ofString "pair"), 17)] rfl nd (i_seqT (m_var 3 (pv 3))) (blkOk_by (N := N_law) (sc := (defScope s_law)) (own := [((Str.ofString "pair"), 17)]) (by decide +kernel)) (fun _ _ _ _ _ => (pg_name (i := 17) nd rfl (by first | exact Or.inl rfl | exact Or.inr rfl))) (fun _ _ _ _ _ => pts_one (t_not (t_val (m_call (G 26 _) hr rfl (T.g 26 (by decide)) (T.kp 26 (by decide)) (T.b 26 (by decide)) passL (m_cons (m_var 6 (pv 6)) (m_cons (m_ix (m_var 17 (pv 17)) m_int) (m_cons (m_call (G 25 _) hr rfl (T.g 25 (by decide)) (T.kp 25 (by decide)) (T.b 25 (by decide)) passL (m_cons (m_var 6 (pv 6)) (m_cons (m_ix (m_var 17 (pv 17)) m_int) (m_cons (m_var 13 (pv 13)) m_nil)))) m_nil))))))) (fun _ _ _ _ _ => (m_var 17 (pv 17)))) (m_lst m_nil)) (w_and1 (t_not (t_val (m_call (G 48 _) hr rfl (T.g 48 (by decide)) (T.kp 48 (by decide)) (T.b 48 (by decide)) hx (m_cons (m_var 12 (pv 12)) (m_cons (m_var 3 (pv 3)) (m_cons (m_var 14 (pv 14)) m_nil))))))))) (s_one (s_ret m_bl)) s_nil))) (s_one (s_for (t := (.nm 15)) hpo rfl (i_seqL (m_lst (m_cons m_non (m_cons (m_lst m_nil) (m_cons (m_tup (m_cons (m_tup (m_cons m_int m_nil)) m_nil)) (m_cons (m_tup (m_cons (m_tup (m_cons (m_neg m_int) (m_cons m_int m_nil))) m_nil)) (m_cons (m_tup (m_cons (m_tup (m_cons m_int (m_cons m_non m_nil))) m_nil)) (m_cons (m_tup (m_cons (m_tup (m_cons m_bl (m_cons m_int m_nil))) m_nil)) (m_cons (m_tup (m_cons (m_tup (m_cons (m_bin o_add (m_bin o_pow m_int m_int) m_int) (m_cons m_int m_nil))) m_nil)) (m_cons m_str m_nil)))))))))) (pg_name (i := 15) nd rfl (by first | exact Or.inl rfl | exact Or.inr rfl)) (s_one (s_tryq (fI := cA 0) (fl := cFv 0) (r18 := ⟨0, 0, 0, 0⟩) (S := ⟨cA, cFv, call, W, E⟩) (c := 2) (i := 16) (o := 15) (vs := [6, 3, 15]) (f := 37) rfl rfl rfl nd rfl rfl ⟨rfl, by decide, .inl mCE⟩ (takes_of rfl rfl rfl rfl) (G 37 _) hr rfl (T.g 37 (by decide)) (T.kp 37 (by decide)) (T.b 37 (by decide)) (fun _ _ => (m_cons (m_var 6 (pv 6)) (m_cons (m_var 3 (pv 3)) (m_cons (m_var 15 (pv 15)) m_nil)))) (by decide) rfl rfl hgd hu64 em ei ki xf hno rfl T.isinstance rfl T.repr rfl e_BadShape.gC (by decide) (fun _ _ => pv 16) (fun _ _ => pv 16) (fun _ _ => pv 15) rfl rfl rfl rfl rfl rfl rfl rfl rfl)))))))))))))))))) (s_one (s_ret m_bl)))
end
end Mini

set_option maxRecDepth 100000
set_option maxHeartbeats 8000000
namespace Mini
open PySem L2 Evl
/-! the beginning of the run: the draws' dict is made -/
def cellsOf (ns : List Int) : List Int := ns.take 63
def leftOf (ns : List Int) : List Int := (cellsOf ns).filter fun n => decide (1000000000000000000 ≤ n)
def runOf (ns : List Int) : G := [(Str.ofString "cells", .list ((cellsOf ns).map .int)), (Str.ofString "left", .list ((leftOf ns).map .int)), (Str.ofString "at", .int 0)]
def m1B : ME := .sl (.scr 0) .no (.so (.cst (.int 63)))
def m2B : ME := .lc [1] (.nm 1) (.seqL m1B) (.cmp .ge (.var 1) (.bin .pow (.cst (.int 10)) (.cst (.int 18)))) (.var 1)
theorem cut_ints (ns : List Int) : cutD (ns.map PyData.int) none (some 63) = (cellsOf ns).map PyData.int := by
  unfold cutD cellsOf
  have e1 : HT.sIx (ns.map PyData.int).length 0 none = 0 := rfl
  have e2 : HT.sIx (ns.map PyData.int).length (ns.map PyData.int).length (some 63) = min 63 ns.length := by
    simp [HT.sIx]
    try omega
  rw [e1, e2]
  simp only [List.drop_zero, Nat.sub_zero, ← List.map_take]
  congr 1
  by_cases h : 63 ≤ ns.length
  · rw [Nat.min_eq_left h]
  · rw [Nat.min_eq_right (by omega), List.take_of_length_le (Nat.le_refl _), List.take_of_length_le (by omega)]
theorem ev_m1B {call : Nat → List D → G → R D} {ρ : Env1} {ns : List Int} (h : ρ[0]? = some (some (.scr ns))) (g : G) : evE call m1B ρ g = .ok (.list ((cellsOf ns).map .int)) g := by
  simp only [m1B, evE, evO, h, R.bind_ok, asI, slD, cut_ints]
  rfl
theorem loopC_pure (f : D → G → R (Option D)) (F : D → Option D) : ∀ (xs : List D) (g : G), (∀ x ∈ xs, ∀ g, f x g = .ok (F x) g) → loopC f xs g = .ok (xs.filterMap F) g
  | [], g, h => rfl
  | x :: xs, g, h => by
    unfold loopC
    rw [h x (List.mem_cons_self ..) g, R.bind_ok, loopC_pure f F xs g fun y hy => h y (List.mem_cons_of_mem _ hy), R.bind_ok, List.filterMap_cons]
    cases F x <;> rfl
theorem loop_left {call : Nat → List D → G → R D} {ρ : Env1} (hl : 2 ≤ ρ.length) (ns : List Int) (g : G) :
    loopC (fun x g => (R.of (setT (.nm 1) x (wipe1 [1] ρ)) g).bind fun ρ1 g1 => (evE call (.cmp .ge (.var 1) (.bin .pow (.cst (.int 10)) (.cst (.int 18)))) ρ1 g1).bind fun b g2 => (asB b g2).bind fun k g3 =>
        if k = true then (evE call (.var 1) ρ1 g3).bind fun d g4 => .ok (some d) g4 else .ok none g3) (ns.map PyData.int) g = .ok ((ns.filter fun n => decide (1000000000000000000 ≤ n)).map .int) g := by
  rw [loopC_pure _ (fun x => match x with | .int n => if (1000000000000000000 : Int) ≤ n then some (.int n) else none | _ => none)]
  · congr 1
    induction ns with
    | nil => rfl
    | cons n ns ih =>
      by_cases h : (1000000000000000000 : Int) ≤ n
      · simp [h, ih]
      · simp [h, ih]
  · intro x hx g
    obtain ⟨n, -, rfl⟩ := List.mem_map.mp hx
    have q : ((wipe1 [1] ρ).set 1 (some (.frz (.int n))))[1]? = some (some (.frz (.int n))) := by
      rw [List.getElem?_set_self (by simp [wipe1]; omega)]
    have qc : cmpD .ge (.int n) (.int (10 ^ 18)) = some (decide (10 ^ 18 ≤ n)) := by
      first | rfl | (simp [cmpD])
    have qb : binD .pow (.int 10) (.int 18) = some (.int (10 ^ 18)) := by first | rfl | simp [binD]
    have e0 : ∀ {α : Type} (a : α) (g : G), R.of (some a) g = R.ok a g := fun _ _ => rfl
    simp only [setT, e0, R.bind_ok, evE, q, qb, qc, asB]
    by_cases h : (1000000000000000000 : Int) ≤ n
    · have h' : (10 ^ 18 : Int) ≤ n := h
      simp [h', h]
    · have h' : ¬ (10 ^ 18 : Int) ≤ n := h
      simp [h', h]
theorem ev_m2B {call : Nat → List D → G → R D} {ρ : Env1} {ns : List Int} (hl : 2 ≤ ρ.length) (h : ρ[0]? = some (some (.scr ns))) : evE call m2B ρ [] = .ok (.list ((leftOf ns).map .int)) [] := by
  unfold m2B
  rw [evE, evI, ev_m1B h]
  simp only [R.bind_ok]
  rw [if_pos (by simp [cellsOf]; omega), loop_left hl]
  rfl
/-- what the beginning promises -/
def spBegun (K : PySem.W.Frag) : Sp := fun vs H Q E => ∃ Hf a ns, vs = [.ref a] ∧ Ex Hf H ∧ MAt K none [] Hf H ∧ SqL K Hf a (ns.map V.int) ∧
  ∀ Hf' H' p, Stp none Hf H Hf' H' → MAt K (some p) (runOf ns) Hf' H' → Ex Hf' H' → Q (.ref p) H'
section
variable {P : Program} {w : World} {K : PySem.W.Frag} {mg : Str → Option Value} {base : Heap} {ad : Nat → Addr} {fdd : Nat → FuncData} {cA : Nat → Addr} {call : Nat → List PyData → G → R PyData} {k W : Nat}
theorem sc_law_begun : FnScope N_law_begun [Str.ofString "script"] (defScope s_law_begun) := ⟨rfl, rfl, rfl, by decide +kernel, rfl, by decide +kernel, by decide +kernel⟩
theorem w_law_begun (T : Tx P w K mg ad fdd cA) (f : Addr) (cdv : Value) (A : Around) (outer : List Env) (s : Shared) (H : Hp) (E : XK) :
    PSs (cxOf (L2.CX P w) P w K mg base N_law_begun "_law_begun" (defScope s_law_begun) f cdv A outer s H E) (defBody s_law_begun)
      (fun D σ H => ∃ ρ Hf d1 d2 d3, Rel K none σ ρ [] Hf H ∧ evE call m1B ρ [] = .ok d1 [] ∧ evE call m2B ρ [] = .ok d2 [] ∧ evE call (.cst (.int 0)) ρ [] = .ok d3 [] ∧
        ∀ Hf' H' p, Stp none Hf H Hf' H' → MAt K (some p) [(Str.ofString "cells", d1), (Str.ofString "left", d2), (Str.ofString "at", d3)] Hf' H' → H p = none → Hf' p = none → Ex Hf' H' → D.rt (.ref p) H') := by
  have nd : N_law_begun.Nodup := sc_law_begun.nd
  exact p_begun (S := ⟨cA, cFv, call, 0, E⟩) (m_sl (m_scr 0 (pv 0) rfl T.list) po_no (po_so m_int))
    (m_lc [((Str.ofString "cell"), 1)] rfl nd (i_seqL (m_sl (m_scr 0 (pv 0) rfl T.list) po_no (po_so m_int)))
      (blkOk_by (N := N_law_begun) (sc := (defScope s_law_begun)) (own := [((Str.ofString "cell"), 1)]) (by decide +kernel))
      (fun _ _ _ _ _ => (pg_name (i := 1) nd rfl (by first | exact Or.inl rfl | exact Or.inr rfl)))
      (fun _ _ _ _ _ => pts_one (t_cmp o_ge (m_var 1 (pv 1)) (m_bin o_pow m_int m_int)))
      (fun _ _ _ _ _ => (m_var 1 (pv 1)))) m_int (by decide) (by decide) (by decide)
theorem ok_law_begun {x : Str} {fd : FuncData} {f : Addr} (T : Tx P w K mg ad fdd cA) (Fu : Fun K x "_law_begun" s_law_begun f fd) : FnOk P w K mg base (L2.CX P w) (k + 1) f fd [Str.ofString "script"] (spBegun K) := by
  refine Fu.okX sc_law_begun (fun vs H Q E h => ?_) (fun cdv A outer s H vs Q E hr h => ⟨_, w_law_begun (call := fun _ _ _ => .stuck) T f cdv A outer s H E, ?_⟩)
  · obtain ⟨Hf, a, ns, rfl, h⟩ := h
    rfl
  · obtain ⟨Hf, a, ns, rfl, ex, m, sq, h⟩ := h
    refine ⟨[some (.scr ns), none], Hf, _, _, _, ⟨ex, m, rfl, fun i e q => ?_, fun i j e e' v ne qi qj oi oj si sj => ?_⟩, ev_m1B rfl _, ev_m2B (Nat.le_refl 2) rfl, rfl, fun Hf' H' p st m' fp _ ex' => h Hf' H' p st m' ex'⟩
    · match i, q with
      | 0, q => cases q; exact ⟨.ref a, rfl, a, rfl, sq⟩
      | 1, q => cases q
    · match i, qi with
      | 0, q => cases q; cases oi
      | 1, q => cases q
end
end Mini

set_option maxRecDepth 100000
set_option maxHeartbeats 4000000
namespace Mini
open PySem PySem.Spec PyProof.Rows L2
section
variable {K : PySem.W.Frag} {N ps : List Str} {fi W : Nat} {F : Fn} {cA : Nat → Addr} {cF : Nat → Str} {call : Nat → List PyData → G → R PyData} {S' : Sg}
theorem sp_len (hn : F.np = ps.length) (hc : ∀ ds g, S'.call fi ds g = runB call W F ds g) {vs : List V} {H : Hp} {Q : VK} {E : XK} (h : spD K S' fi vs H Q E) : vs.length = ps.length := by
  obtain ⟨pm, Hf, g, ds, ex, m, a, h⟩ := h
  rw [hc] at h
  unfold runB at h
  split at h
  · rename_i hl
    rw [a.length, hl, hn]
  · exact h.elim
theorem sp_start (hn : F.np = ps.length) (hN : F.nN = N.length) (h1 : S'.cA = cA) (h2 : S'.cF = cF) (hc : ∀ ds g, S'.call fi ds g = runB call W F ds g) {vs : List V} {H : Hp} {Q : VK} {E : XK} (h : spD K S' fi vs H Q E) : rdS K ⟨cA, cF, call, W, E⟩ F.body { nx := fun _ H' => Q .non H', rt := Q } (start N vs) H := by
  subst h1 h2
  obtain ⟨pm, Hf, g, ds, ex, m, a, h⟩ := h
  rw [hc] at h
  unfold runB at h
  split at h
  · rename_i hl
    have lv := a.length
    refine ⟨pm, Hf, H, _, g, Hf, ⟨⟨ex, m, ?_, fun i e q => ?_, fun i j e e' v ne qi qj oi oj si sj => ?_⟩, fun i e p q o s => ?_⟩, Stp.refl ex, (Post.bindA h).mono fun y g1 Hf1 H1 s1 m1 q e1 => ?_⟩
    · unfold L2.start
      rw [List.length_append, List.length_append, List.length_map, List.length_map, List.length_replicate, List.length_replicate, lv, hl, hN]
    · by_cases hi : i < ds.length
      · rw [List.getElem?_append_left (by rw [List.length_map]; exact hi), List.getElem?_map] at q
        cases z : ds[i]? with
        | none => rw [z] at q; cases q
        | some d =>
          rw [z] at q
          cases q
          obtain ⟨v, w1, w2⟩ := a.get z
          refine ⟨v, ?_, w2⟩
          unfold L2.start
          rw [List.getElem?_append_left (by rw [List.length_map, lv]; exact hi), List.getElem?_map, w1]; rfl
      · rw [List.getElem?_append_right (by rw [List.length_map]; omega), List.getElem?_replicate] at q
        split at q <;> cases q
    · have no : ∀ (i : Nat) (e : Ent), (ds.map (fun d => some (Ent.frz d)) ++ List.replicate (F.nN - F.np) none)[i]? = some (some e) → isOwn e = false := fun i e q => by
        by_cases hi : i < ds.length
        · rw [List.getElem?_append_left (by rw [List.length_map]; exact hi), List.getElem?_map] at q
          cases z : ds[i]? with
          | none => rw [z] at q; cases q
          | some d => rw [z] at q; cases q; rfl
        · rw [List.getElem?_append_right (by rw [List.length_map]; omega), List.getElem?_replicate] at q
          split at q <;> cases q
      rw [no i e qi] at oi; cases oi
    · by_cases hi : i < ds.length
      · rw [List.getElem?_append_left (by rw [List.length_map]; exact hi), List.getElem?_map] at q
        cases z : ds[i]? with
        | none => rw [z] at q; cases q
        | some d => rw [z] at q; cases q; cases o
      · rw [List.getElem?_append_right (by rw [List.length_map]; omega), List.getElem?_replicate] at q
        split at q <;> cases q
    · obtain ⟨fl, ρ1⟩ := y
      cases fl with
      | nx =>
        intro σ' r
        exact q Hf1 H1 s1 m1 .non rfl
      | rt d => exact q Hf1 H1 s1 m1
      | bk => exact q.elim
      | ct => exact q.elim
  · exact h.elim
end
end Mini

set_option maxRecDepth 100000
set_option maxHeartbeats 8000000
namespace Mini
open PySem L2 Evl
def Never : Fn := ⟨0, 0, .ret (.var 0)⟩
theorem never_stuck (call : Nat → List D → G → R D) (W : Nat) (ds : List D) (g : G) : runB call W Never ds g = .stuck := by
  unfold runB
  split
  · rename_i h
    have e : ds = [] := List.length_eq_zero_iff.mp h
    subst e
    rfl
  · rfl
def tabK : List Fn := [f_is_number, f_is_prime, f_is_kind, f_ring_size, f_kind_order, f_are_copies, f_is_group, f_need_group, f_raised, f_size_here, f_sum_of_groups, f_is_power, f_is_fraction, f_is_place, f_zero_place, f_are_places, f_is_element, f_need_element, f_trimmed, f_lowest, f_place_of, f_times_here, f_power_in, f_place_parts, f_parts_here, f_many_times, f_divides, f_longer_by, f_all_elements, f_is_shape, f_need_shape, f_ring_step, f_whole_step, f_is_cut, f_tower_step, f_index_in, f_index_here, f_index_of, Never, f_law_next, f_law_of, f_law_like, f_law_power, f_law_group, f_law_moduli, f_law_rows, f_law_divides, f_law_shape, f_law_in, f_law_count, f_law_common, f_law_whole, f_law_torsion, f_law_endless, Never]
def atL : List Nat := [11, 18, 19, 20, 21, 22, 23, 24, 25, 26, 27, 31, 32, 33, 34, 35, 36, 37, 38, 39, 40, 41, 42, 43, 44, 45, 46, 47, 48, 51, 52, 53, 54, 55, 56, 57, 58, 59, 61, 62, 63, 64, 65, 66, 67, 68, 69, 70, 71, 72, 73, 74, 75, 76, 77]
structure Fx (K : PySem.W.Frag) (ad : Nat → Addr) (fdd : Nat → FuncData) : Prop where
  fn : ∀ i, i < 55 → Fun K (nm i) (nm i) (topS (atL.getD i 0)) (ad i) (fdd i)
structure Lx_sum_of_groups (K : PySem.W.Frag) (mg : Str → Option Value) (base : Heap) (ad : Nat → Addr) (fdd : Nat → FuncData) : Prop where
  ex : ∃ cS PS, (∃ (oc : Value) (od : Option Addr) (kV doc pm : Value) (an : Option Addr) (ct : Value) (osl : Array (Option Value)), fdd 10 = PySem.W.fnOf "sum_of_groups" "sum_of_groups" (defArgs s_sum_of_groups) (defBody s_sum_of_groups) (defScope s_sum_of_groups) .none kV doc pm an (.ref cS) ct ∧ K.lookup (ad 10) = some ⟨oc, od, .func (fdd 10), osl⟩ ∧ PySem.W.codeIn K (.ref cS) "sum_of_groups" = true) ∧
    LamX.TabB base mg cS PS ∧ LamAt K PS ((PyProof.Rows.envOfC "sum_of_groups" (defScope s_sum_of_groups) 0 0 .none).qual ++ "<lambda>") ∧ ∀ q2, LamAt K PS q2 → q2 = (PyProof.Rows.envOfC "sum_of_groups" (defScope s_sum_of_groups) 0 0 .none).qual ++ "<lambda>"
section
variable {P : Program} {w : World} {K : PySem.W.Frag} {mg : Str → Option Value} {base : Heap} {ad : Nat → Addr} {fdd : Nat → FuncData} {cA : Nat → Addr} {call call' : Nat → List PyData → G → R PyData} {k W : Nat}
theorem ok_is_number (T : Tx P w K mg ad fdd cA) (Fu : Fx K ad fdd) (G : ∀ (f : Nat) (E : XK), FnOk P w K mg base (L2.CX P w) (4 * k) (ad f) (fdd f) (psf f) (spD K ⟨cA, cFv, call, W, E⟩ f)) (hc : ∀ ds g, call' 0 ds g = runB call W f_is_number ds g) (E : XK) : FnOk P w K mg base (L2.CX P w) (4 * k + 4) (ad 0) (fdd 0) (psf 0) (spD K ⟨cA, cFv, call', W, E⟩ 0) :=
  fn_body (k := 4 * k + 3) (Fu.fn 0 (by decide)) sc_is_number rfl rfl hc (fun cdv A outer s H E hr => w_is_number T G (ad 0) cdv A outer s H E (hr.mono (by omega))) ⟨cA, cFv, call', W, E⟩ rfl rfl rfl
theorem ok_is_prime (T : Tx P w K mg ad fdd cA) (Fu : Fx K ad fdd) (G : ∀ (f : Nat) (E : XK), FnOk P w K mg base (L2.CX P w) (4 * k) (ad f) (fdd f) (psf f) (spD K ⟨cA, cFv, call, W, E⟩ f)) (hc : ∀ ds g, call' 1 ds g = runB call W f_is_prime ds g) (E : XK) : FnOk P w K mg base (L2.CX P w) (4 * k + 4) (ad 1) (fdd 1) (psf 1) (spD K ⟨cA, cFv, call', W, E⟩ 1) :=
  fn_body (k := 4 * k + 3) (Fu.fn 1 (by decide)) sc_is_prime rfl rfl hc (fun cdv A outer s H E hr => w_is_prime T G (ad 1) cdv A outer s H E (hr.mono (by omega))) ⟨cA, cFv, call', W, E⟩ rfl rfl rfl
theorem ok_is_kind (T : Tx P w K mg ad fdd cA) (Fu : Fx K ad fdd) (G : ∀ (f : Nat) (E : XK), FnOk P w K mg base (L2.CX P w) (4 * k) (ad f) (fdd f) (psf f) (spD K ⟨cA, cFv, call, W, E⟩ f)) (hc : ∀ ds g, call' 2 ds g = runB call W f_is_kind ds g) (E : XK) : FnOk P w K mg base (L2.CX P w) (4 * k + 4) (ad 2) (fdd 2) (psf 2) (spD K ⟨cA, cFv, call', W, E⟩ 2) :=
  fn_body (k := 4 * k + 3) (Fu.fn 2 (by decide)) sc_is_kind rfl rfl hc (fun cdv A outer s H E hr => w_is_kind T G (ad 2) cdv A outer s H E (hr.mono (by omega))) ⟨cA, cFv, call', W, E⟩ rfl rfl rfl
theorem ok_ring_size (T : Tx P w K mg ad fdd cA) (Fu : Fx K ad fdd) (G : ∀ (f : Nat) (E : XK), FnOk P w K mg base (L2.CX P w) (4 * k) (ad f) (fdd f) (psf f) (spD K ⟨cA, cFv, call, W, E⟩ f)) (hc : ∀ ds g, call' 3 ds g = runB call W f_ring_size ds g) (E : XK) : FnOk P w K mg base (L2.CX P w) (4 * k + 4) (ad 3) (fdd 3) (psf 3) (spD K ⟨cA, cFv, call', W, E⟩ 3) :=
  fn_body (k := 4 * k + 3) (Fu.fn 3 (by decide)) sc_ring_size rfl rfl hc (fun cdv A outer s H E hr => w_ring_size T G (ad 3) cdv A outer s H E (hr.mono (by omega))) ⟨cA, cFv, call', W, E⟩ rfl rfl rfl
theorem ok_kind_order (T : Tx P w K mg ad fdd cA) (Fu : Fx K ad fdd) (G : ∀ (f : Nat) (E : XK), FnOk P w K mg base (L2.CX P w) (4 * k) (ad f) (fdd f) (psf f) (spD K ⟨cA, cFv, call, W, E⟩ f)) (hc : ∀ ds g, call' 4 ds g = runB call W f_kind_order ds g) (E : XK) : FnOk P w K mg base (L2.CX P w) (4 * k + 4) (ad 4) (fdd 4) (psf 4) (spD K ⟨cA, cFv, call', W, E⟩ 4) :=
  fn_body (k := 4 * k + 3) (Fu.fn 4 (by decide)) sc_kind_order rfl rfl hc (fun cdv A outer s H E hr => w_kind_order T G (ad 4) cdv A outer s H E (hr.mono (by omega))) ⟨cA, cFv, call', W, E⟩ rfl rfl rfl
theorem ok_are_copies (T : Tx P w K mg ad fdd cA) (Fu : Fx K ad fdd) (G : ∀ (f : Nat) (E : XK), FnOk P w K mg base (L2.CX P w) (4 * k) (ad f) (fdd f) (psf f) (spD K ⟨cA, cFv, call, W, E⟩ f)) (hc : ∀ ds g, call' 5 ds g = runB call W f_are_copies ds g) (E : XK) : FnOk P w K mg base (L2.CX P w) (4 * k + 4) (ad 5) (fdd 5) (psf 5) (spD K ⟨cA, cFv, call', W, E⟩ 5) :=
  fn_body (k := 4 * k + 3) (Fu.fn 5 (by decide)) sc_are_copies rfl rfl hc (fun cdv A outer s H E hr => w_are_copies T G (ad 5) cdv A outer s H E (hr.mono (by omega))) ⟨cA, cFv, call', W, E⟩ rfl rfl rfl
theorem ok_is_group (T : Tx P w K mg ad fdd cA) (Fu : Fx K ad fdd) (G : ∀ (f : Nat) (E : XK), FnOk P w K mg base (L2.CX P w) (4 * k) (ad f) (fdd f) (psf f) (spD K ⟨cA, cFv, call, W, E⟩ f)) (hc : ∀ ds g, call' 6 ds g = runB call W f_is_group ds g) (E : XK) : FnOk P w K mg base (L2.CX P w) (4 * k + 4) (ad 6) (fdd 6) (psf 6) (spD K ⟨cA, cFv, call', W, E⟩ 6) :=
  fn_body (k := 4 * k + 3) (Fu.fn 6 (by decide)) sc_is_group rfl rfl hc (fun cdv A outer s H E hr => w_is_group T G (ad 6) cdv A outer s H E (hr.mono (by omega))) ⟨cA, cFv, call', W, E⟩ rfl rfl rfl
theorem ok_need_group (T : Tx P w K mg ad fdd cA) (Fu : Fx K ad fdd) (G : ∀ (f : Nat) (E : XK), FnOk P w K mg base (L2.CX P w) (4 * k) (ad f) (fdd f) (psf f) (spD K ⟨cA, cFv, call, W, E⟩ f)) (hc : ∀ ds g, call' 7 ds g = runB call W f_need_group ds g) (E : XK) : FnOk P w K mg base (L2.CX P w) (4 * k + 4) (ad 7) (fdd 7) (psf 7) (spD K ⟨cA, cFv, call', W, E⟩ 7) :=
  fn_body (k := 4 * k + 3) (Fu.fn 7 (by decide)) sc_need_group rfl rfl hc (fun cdv A outer s H E hr => w_need_group T G (ad 7) cdv A outer s H E (hr.mono (by omega))) ⟨cA, cFv, call', W, E⟩ rfl rfl rfl
theorem ok_raised (T : Tx P w K mg ad fdd cA) (Fu : Fx K ad fdd) (G : ∀ (f : Nat) (E : XK), FnOk P w K mg base (L2.CX P w) (4 * k) (ad f) (fdd f) (psf f) (spD K ⟨cA, cFv, call, W, E⟩ f)) (hc : ∀ ds g, call' 8 ds g = runB call W f_raised ds g) (E : XK) : FnOk P w K mg base (L2.CX P w) (4 * k + 4) (ad 8) (fdd 8) (psf 8) (spD K ⟨cA, cFv, call', W, E⟩ 8) :=
  fn_body (k := 4 * k + 3) (Fu.fn 8 (by decide)) sc_raised rfl rfl hc (fun cdv A outer s H E hr => w_raised T G (ad 8) cdv A outer s H E (hr.mono (by omega))) ⟨cA, cFv, call', W, E⟩ rfl rfl rfl
theorem ok_size_here (T : Tx P w K mg ad fdd cA) (Fu : Fx K ad fdd) (G : ∀ (f : Nat) (E : XK), FnOk P w K mg base (L2.CX P w) (4 * k) (ad f) (fdd f) (psf f) (spD K ⟨cA, cFv, call, W, E⟩ f)) (hc : ∀ ds g, call' 9 ds g = runB call W f_size_here ds g) (E : XK) : FnOk P w K mg base (L2.CX P w) (4 * k + 4) (ad 9) (fdd 9) (psf 9) (spD K ⟨cA, cFv, call', W, E⟩ 9) :=
  fn_body (k := 4 * k + 3) (Fu.fn 9 (by decide)) sc_size_here rfl rfl hc (fun cdv A outer s H E hr => w_size_here T G (ad 9) cdv A outer s H E (hr.mono (by omega))) ⟨cA, cFv, call', W, E⟩ rfl rfl rfl
theorem ok_sum_of_groups (T : Tx P w K mg ad fdd cA) (X : Lx_sum_of_groups K mg base ad fdd) (G : ∀ (f : Nat) (E : XK), FnOk P w K mg base (L2.CX P w) (4 * k) (ad f) (fdd f) (psf f) (spD K ⟨cA, cFv, call, W, E⟩ f)) (hc : ∀ ds g, call' 10 ds g = runB call W f_sum_of_groups ds g) (E : XK) : FnOk P w K mg base (L2.CX P w) (4 * k + 4) (ad 10) (fdd 10) (psf 10) (spD K ⟨cA, cFv, call', W, E⟩ 10) := by
  obtain ⟨cS, PS, ⟨oc, od, kV, doc, pm, an, ct, osl, e, lk, hcd⟩, TB, hl, hlu⟩ := X.ex
  rw [e] at lk ⊢
  refine fn_of (k := 4 * k + 3) lk hcd sc_sum_of_groups (fun vs H Q E h => sp_len (F := f_sum_of_groups) rfl hc h) fun A outer s H vs Q E hr hsp => ⟨_, w_sum_of_groups T G (ad 10) (.ref cS) A outer s H E (hr.mono (by omega)) hr rfl TB hl hlu, sp_start (ps := psf 10) (F := f_sum_of_groups) rfl rfl rfl rfl hc hsp⟩
theorem ok_is_power (T : Tx P w K mg ad fdd cA) (Fu : Fx K ad fdd) (G : ∀ (f : Nat) (E : XK), FnOk P w K mg base (L2.CX P w) (4 * k) (ad f) (fdd f) (psf f) (spD K ⟨cA, cFv, call, W, E⟩ f)) (hc : ∀ ds g, call' 11 ds g = runB call W f_is_power ds g) (E : XK) : FnOk P w K mg base (L2.CX P w) (4 * k + 4) (ad 11) (fdd 11) (psf 11) (spD K ⟨cA, cFv, call', W, E⟩ 11) :=
  fn_body (k := 4 * k + 3) (Fu.fn 11 (by decide)) sc_is_power rfl rfl hc (fun cdv A outer s H E hr => w_is_power T G (ad 11) cdv A outer s H E (hr.mono (by omega))) ⟨cA, cFv, call', W, E⟩ rfl rfl rfl
theorem ok_is_fraction (T : Tx P w K mg ad fdd cA) (Fu : Fx K ad fdd) (G : ∀ (f : Nat) (E : XK), FnOk P w K mg base (L2.CX P w) (4 * k) (ad f) (fdd f) (psf f) (spD K ⟨cA, cFv, call, W, E⟩ f)) (hc : ∀ ds g, call' 12 ds g = runB call W f_is_fraction ds g) (E : XK) : FnOk P w K mg base (L2.CX P w) (4 * k + 4) (ad 12) (fdd 12) (psf 12) (spD K ⟨cA, cFv, call', W, E⟩ 12) :=
  fn_body (k := 4 * k + 3) (Fu.fn 12 (by decide)) sc_is_fraction rfl rfl hc (fun cdv A outer s H E hr => w_is_fraction T G (ad 12) cdv A outer s H E (hr.mono (by omega))) ⟨cA, cFv, call', W, E⟩ rfl rfl rfl
theorem ok_is_place (T : Tx P w K mg ad fdd cA) (Fu : Fx K ad fdd) (G : ∀ (f : Nat) (E : XK), FnOk P w K mg base (L2.CX P w) (4 * k) (ad f) (fdd f) (psf f) (spD K ⟨cA, cFv, call, W, E⟩ f)) (hc : ∀ ds g, call' 13 ds g = runB call W f_is_place ds g) (E : XK) : FnOk P w K mg base (L2.CX P w) (4 * k + 4) (ad 13) (fdd 13) (psf 13) (spD K ⟨cA, cFv, call', W, E⟩ 13) :=
  fn_body (k := 4 * k + 3) (Fu.fn 13 (by decide)) sc_is_place rfl rfl hc (fun cdv A outer s H E hr => w_is_place T G (ad 13) cdv A outer s H E (hr.mono (by omega))) ⟨cA, cFv, call', W, E⟩ rfl rfl rfl
theorem ok_zero_place (T : Tx P w K mg ad fdd cA) (Fu : Fx K ad fdd) (G : ∀ (f : Nat) (E : XK), FnOk P w K mg base (L2.CX P w) (4 * k) (ad f) (fdd f) (psf f) (spD K ⟨cA, cFv, call, W, E⟩ f)) (hc : ∀ ds g, call' 14 ds g = runB call W f_zero_place ds g) (E : XK) : FnOk P w K mg base (L2.CX P w) (4 * k + 4) (ad 14) (fdd 14) (psf 14) (spD K ⟨cA, cFv, call', W, E⟩ 14) :=
  fn_body (k := 4 * k + 3) (Fu.fn 14 (by decide)) sc_zero_place rfl rfl hc (fun cdv A outer s H E hr => w_zero_place T G (ad 14) cdv A outer s H E (hr.mono (by omega))) ⟨cA, cFv, call', W, E⟩ rfl rfl rfl
theorem ok_are_places (T : Tx P w K mg ad fdd cA) (Fu : Fx K ad fdd) (G : ∀ (f : Nat) (E : XK), FnOk P w K mg base (L2.CX P w) (4 * k) (ad f) (fdd f) (psf f) (spD K ⟨cA, cFv, call, W, E⟩ f)) (hc : ∀ ds g, call' 15 ds g = runB call W f_are_places ds g) (E : XK) : FnOk P w K mg base (L2.CX P w) (4 * k + 4) (ad 15) (fdd 15) (psf 15) (spD K ⟨cA, cFv, call', W, E⟩ 15) :=
  fn_body (k := 4 * k + 3) (Fu.fn 15 (by decide)) sc_are_places rfl rfl hc (fun cdv A outer s H E hr => w_are_places T G (ad 15) cdv A outer s H E (hr.mono (by omega))) ⟨cA, cFv, call', W, E⟩ rfl rfl rfl
theorem ok_is_element (T : Tx P w K mg ad fdd cA) (Fu : Fx K ad fdd) (G : ∀ (f : Nat) (E : XK), FnOk P w K mg base (L2.CX P w) (4 * k) (ad f) (fdd f) (psf f) (spD K ⟨cA, cFv, call, W, E⟩ f)) (hc : ∀ ds g, call' 16 ds g = runB call W f_is_element ds g) (E : XK) : FnOk P w K mg base (L2.CX P w) (4 * k + 4) (ad 16) (fdd 16) (psf 16) (spD K ⟨cA, cFv, call', W, E⟩ 16) :=
  fn_body (k := 4 * k + 3) (Fu.fn 16 (by decide)) sc_is_element rfl rfl hc (fun cdv A outer s H E hr => w_is_element T G (ad 16) cdv A outer s H E (hr.mono (by omega))) ⟨cA, cFv, call', W, E⟩ rfl rfl rfl
theorem ok_need_element (T : Tx P w K mg ad fdd cA) (Fu : Fx K ad fdd) (G : ∀ (f : Nat) (E : XK), FnOk P w K mg base (L2.CX P w) (4 * k) (ad f) (fdd f) (psf f) (spD K ⟨cA, cFv, call, W, E⟩ f)) (hc : ∀ ds g, call' 17 ds g = runB call W f_need_element ds g) (E : XK) : FnOk P w K mg base (L2.CX P w) (4 * k + 4) (ad 17) (fdd 17) (psf 17) (spD K ⟨cA, cFv, call', W, E⟩ 17) :=
  fn_body (k := 4 * k + 3) (Fu.fn 17 (by decide)) sc_need_element rfl rfl hc (fun cdv A outer s H E hr => w_need_element T G (ad 17) cdv A outer s H E (hr.mono (by omega))) ⟨cA, cFv, call', W, E⟩ rfl rfl rfl
theorem ok_trimmed (T : Tx P w K mg ad fdd cA) (Fu : Fx K ad fdd) (G : ∀ (f : Nat) (E : XK), FnOk P w K mg base (L2.CX P w) (4 * k) (ad f) (fdd f) (psf f) (spD K ⟨cA, cFv, call, W, E⟩ f)) (hc : ∀ ds g, call' 18 ds g = runB call W f_trimmed ds g) (E : XK) : FnOk P w K mg base (L2.CX P w) (4 * k + 4) (ad 18) (fdd 18) (psf 18) (spD K ⟨cA, cFv, call', W, E⟩ 18) :=
  fn_body (k := 4 * k + 3) (Fu.fn 18 (by decide)) sc_trimmed rfl rfl hc (fun cdv A outer s H E hr => w_trimmed T G (ad 18) cdv A outer s H E (hr.mono (by omega))) ⟨cA, cFv, call', W, E⟩ rfl rfl rfl
theorem ok_lowest (T : Tx P w K mg ad fdd cA) (Fu : Fx K ad fdd) (G : ∀ (f : Nat) (E : XK), FnOk P w K mg base (L2.CX P w) (4 * k) (ad f) (fdd f) (psf f) (spD K ⟨cA, cFv, call, W, E⟩ f)) (hc : ∀ ds g, call' 19 ds g = runB call W f_lowest ds g) (E : XK) : FnOk P w K mg base (L2.CX P w) (4 * k + 4) (ad 19) (fdd 19) (psf 19) (spD K ⟨cA, cFv, call', W, E⟩ 19) :=
  fn_body (k := 4 * k + 3) (Fu.fn 19 (by decide)) sc_lowest rfl rfl hc (fun cdv A outer s H E hr => w_lowest T G (ad 19) cdv A outer s H E (hr.mono (by omega))) ⟨cA, cFv, call', W, E⟩ rfl rfl rfl
theorem ok_place_of (T : Tx P w K mg ad fdd cA) (Fu : Fx K ad fdd) (G : ∀ (f : Nat) (E : XK), FnOk P w K mg base (L2.CX P w) (4 * k) (ad f) (fdd f) (psf f) (spD K ⟨cA, cFv, call, W, E⟩ f)) (hc : ∀ ds g, call' 20 ds g = runB call W f_place_of ds g) (E : XK) : FnOk P w K mg base (L2.CX P w) (4 * k + 4) (ad 20) (fdd 20) (psf 20) (spD K ⟨cA, cFv, call', W, E⟩ 20) :=
  fn_body (k := 4 * k + 3) (Fu.fn 20 (by decide)) sc_place_of rfl rfl hc (fun cdv A outer s H E hr => w_place_of T G (ad 20) cdv A outer s H E (hr.mono (by omega))) ⟨cA, cFv, call', W, E⟩ rfl rfl rfl
theorem ok_times_here (T : Tx P w K mg ad fdd cA) (Fu : Fx K ad fdd) (G : ∀ (f : Nat) (E : XK), FnOk P w K mg base (L2.CX P w) (4 * k) (ad f) (fdd f) (psf f) (spD K ⟨cA, cFv, call, W, E⟩ f)) (hc : ∀ ds g, call' 21 ds g = runB call W f_times_here ds g) (E : XK) : FnOk P w K mg base (L2.CX P w) (4 * k + 4) (ad 21) (fdd 21) (psf 21) (spD K ⟨cA, cFv, call', W, E⟩ 21) :=
  fn_body (k := 4 * k + 3) (Fu.fn 21 (by decide)) sc_times_here rfl rfl hc (fun cdv A outer s H E hr => w_times_here T G (ad 21) cdv A outer s H E (hr.mono (by omega))) ⟨cA, cFv, call', W, E⟩ rfl rfl rfl
theorem ok_power_in (T : Tx P w K mg ad fdd cA) (Fu : Fx K ad fdd) (G : ∀ (f : Nat) (E : XK), FnOk P w K mg base (L2.CX P w) (4 * k) (ad f) (fdd f) (psf f) (spD K ⟨cA, cFv, call, W, E⟩ f)) (hc : ∀ ds g, call' 22 ds g = runB call W f_power_in ds g) (E : XK) : FnOk P w K mg base (L2.CX P w) (4 * k + 4) (ad 22) (fdd 22) (psf 22) (spD K ⟨cA, cFv, call', W, E⟩ 22) :=
  fn_body (k := 4 * k + 3) (Fu.fn 22 (by decide)) sc_power_in rfl rfl hc (fun cdv A outer s H E hr => w_power_in T G (ad 22) cdv A outer s H E (hr.mono (by omega))) ⟨cA, cFv, call', W, E⟩ rfl rfl rfl
theorem ok_place_parts (T : Tx P w K mg ad fdd cA) (Fu : Fx K ad fdd) (G : ∀ (f : Nat) (E : XK), FnOk P w K mg base (L2.CX P w) (4 * k) (ad f) (fdd f) (psf f) (spD K ⟨cA, cFv, call, W, E⟩ f)) (hc : ∀ ds g, call' 23 ds g = runB call W f_place_parts ds g) (E : XK) : FnOk P w K mg base (L2.CX P w) (4 * k + 4) (ad 23) (fdd 23) (psf 23) (spD K ⟨cA, cFv, call', W, E⟩ 23) :=
  fn_body (k := 4 * k + 3) (Fu.fn 23 (by decide)) sc_place_parts rfl rfl hc (fun cdv A outer s H E hr => w_place_parts T G (ad 23) cdv A outer s H E (hr.mono (by omega))) ⟨cA, cFv, call', W, E⟩ rfl rfl rfl
theorem ok_parts_here (T : Tx P w K mg ad fdd cA) (Fu : Fx K ad fdd) (G : ∀ (f : Nat) (E : XK), FnOk P w K mg base (L2.CX P w) (4 * k) (ad f) (fdd f) (psf f) (spD K ⟨cA, cFv, call, W, E⟩ f)) (hc : ∀ ds g, call' 24 ds g = runB call W f_parts_here ds g) (E : XK) : FnOk P w K mg base (L2.CX P w) (4 * k + 4) (ad 24) (fdd 24) (psf 24) (spD K ⟨cA, cFv, call', W, E⟩ 24) :=
  fn_body (k := 4 * k + 3) (Fu.fn 24 (by decide)) sc_parts_here rfl rfl hc (fun cdv A outer s H E hr => w_parts_here T G (ad 24) cdv A outer s H E (hr.mono (by omega))) ⟨cA, cFv, call', W, E⟩ rfl rfl rfl
theorem ok_many_times (T : Tx P w K mg ad fdd cA) (Fu : Fx K ad fdd) (G : ∀ (f : Nat) (E : XK), FnOk P w K mg base (L2.CX P w) (4 * k) (ad f) (fdd f) (psf f) (spD K ⟨cA, cFv, call, W, E⟩ f)) (hc : ∀ ds g, call' 25 ds g = runB call W f_many_times ds g) (E : XK) : FnOk P w K mg base (L2.CX P w) (4 * k + 4) (ad 25) (fdd 25) (psf 25) (spD K ⟨cA, cFv, call', W, E⟩ 25) :=
  fn_body (k := 4 * k + 3) (Fu.fn 25 (by decide)) sc_many_times rfl rfl hc (fun cdv A outer s H E hr => w_many_times T G (ad 25) cdv A outer s H E (hr.mono (by omega))) ⟨cA, cFv, call', W, E⟩ rfl rfl rfl
theorem ok_divides (T : Tx P w K mg ad fdd cA) (Fu : Fx K ad fdd) (G : ∀ (f : Nat) (E : XK), FnOk P w K mg base (L2.CX P w) (4 * k) (ad f) (fdd f) (psf f) (spD K ⟨cA, cFv, call, W, E⟩ f)) (hc : ∀ ds g, call' 26 ds g = runB call W f_divides ds g) (E : XK) : FnOk P w K mg base (L2.CX P w) (4 * k + 4) (ad 26) (fdd 26) (psf 26) (spD K ⟨cA, cFv, call', W, E⟩ 26) :=
  fn_body (k := 4 * k + 3) (Fu.fn 26 (by decide)) sc_divides rfl rfl hc (fun cdv A outer s H E hr => w_divides T G (ad 26) cdv A outer s H E (hr.mono (by omega))) ⟨cA, cFv, call', W, E⟩ rfl rfl rfl
theorem ok_longer_by (T : Tx P w K mg ad fdd cA) (Fu : Fx K ad fdd) (G : ∀ (f : Nat) (E : XK), FnOk P w K mg base (L2.CX P w) (4 * k) (ad f) (fdd f) (psf f) (spD K ⟨cA, cFv, call, W, E⟩ f)) (hc : ∀ ds g, call' 27 ds g = runB call W f_longer_by ds g) (E : XK) : FnOk P w K mg base (L2.CX P w) (4 * k + 4) (ad 27) (fdd 27) (psf 27) (spD K ⟨cA, cFv, call', W, E⟩ 27) :=
  fn_body (k := 4 * k + 3) (Fu.fn 27 (by decide)) sc_longer_by rfl rfl hc (fun cdv A outer s H E hr => w_longer_by T G (ad 27) cdv A outer s H E (hr.mono (by omega))) ⟨cA, cFv, call', W, E⟩ rfl rfl rfl
theorem ok_all_elements (T : Tx P w K mg ad fdd cA) (Fu : Fx K ad fdd) (G : ∀ (f : Nat) (E : XK), FnOk P w K mg base (L2.CX P w) (4 * k) (ad f) (fdd f) (psf f) (spD K ⟨cA, cFv, call, W, E⟩ f)) (hc : ∀ ds g, call' 28 ds g = runB call W f_all_elements ds g) (E : XK) : FnOk P w K mg base (L2.CX P w) (4 * k + 4) (ad 28) (fdd 28) (psf 28) (spD K ⟨cA, cFv, call', W, E⟩ 28) :=
  fn_body (k := 4 * k + 3) (Fu.fn 28 (by decide)) sc_all_elements rfl rfl hc (fun cdv A outer s H E hr => w_all_elements T G (ad 28) cdv A outer s H E (hr.mono (by omega))) ⟨cA, cFv, call', W, E⟩ rfl rfl rfl
theorem ok_is_shape (T : Tx P w K mg ad fdd cA) (Fu : Fx K ad fdd) (G : ∀ (f : Nat) (E : XK), FnOk P w K mg base (L2.CX P w) (4 * k) (ad f) (fdd f) (psf f) (spD K ⟨cA, cFv, call, W, E⟩ f)) (hc : ∀ ds g, call' 29 ds g = runB call W f_is_shape ds g) (E : XK) : FnOk P w K mg base (L2.CX P w) (4 * k + 4) (ad 29) (fdd 29) (psf 29) (spD K ⟨cA, cFv, call', W, E⟩ 29) :=
  fn_body (k := 4 * k + 3) (Fu.fn 29 (by decide)) sc_is_shape rfl rfl hc (fun cdv A outer s H E hr => w_is_shape T G (ad 29) cdv A outer s H E (hr.mono (by omega))) ⟨cA, cFv, call', W, E⟩ rfl rfl rfl
theorem ok_need_shape (T : Tx P w K mg ad fdd cA) (Fu : Fx K ad fdd) (G : ∀ (f : Nat) (E : XK), FnOk P w K mg base (L2.CX P w) (4 * k) (ad f) (fdd f) (psf f) (spD K ⟨cA, cFv, call, W, E⟩ f)) (hc : ∀ ds g, call' 30 ds g = runB call W f_need_shape ds g) (E : XK) : FnOk P w K mg base (L2.CX P w) (4 * k + 4) (ad 30) (fdd 30) (psf 30) (spD K ⟨cA, cFv, call', W, E⟩ 30) :=
  fn_body (k := 4 * k + 3) (Fu.fn 30 (by decide)) sc_need_shape rfl rfl hc (fun cdv A outer s H E hr => w_need_shape T G (ad 30) cdv A outer s H E (hr.mono (by omega))) ⟨cA, cFv, call', W, E⟩ rfl rfl rfl
theorem ok_ring_step (T : Tx P w K mg ad fdd cA) (Fu : Fx K ad fdd) (G : ∀ (f : Nat) (E : XK), FnOk P w K mg base (L2.CX P w) (4 * k) (ad f) (fdd f) (psf f) (spD K ⟨cA, cFv, call, W, E⟩ f)) (hc : ∀ ds g, call' 31 ds g = runB call W f_ring_step ds g) (E : XK) : FnOk P w K mg base (L2.CX P w) (4 * k + 4) (ad 31) (fdd 31) (psf 31) (spD K ⟨cA, cFv, call', W, E⟩ 31) :=
  fn_body (k := 4 * k + 3) (Fu.fn 31 (by decide)) sc_ring_step rfl rfl hc (fun cdv A outer s H E hr => w_ring_step T G (ad 31) cdv A outer s H E (hr.mono (by omega))) ⟨cA, cFv, call', W, E⟩ rfl rfl rfl
theorem ok_whole_step (T : Tx P w K mg ad fdd cA) (Fu : Fx K ad fdd) (G : ∀ (f : Nat) (E : XK), FnOk P w K mg base (L2.CX P w) (4 * k) (ad f) (fdd f) (psf f) (spD K ⟨cA, cFv, call, W, E⟩ f)) (hc : ∀ ds g, call' 32 ds g = runB call W f_whole_step ds g) (E : XK) : FnOk P w K mg base (L2.CX P w) (4 * k + 4) (ad 32) (fdd 32) (psf 32) (spD K ⟨cA, cFv, call', W, E⟩ 32) :=
  fn_body (k := 4 * k + 3) (Fu.fn 32 (by decide)) sc_whole_step rfl rfl hc (fun cdv A outer s H E hr => w_whole_step T G (ad 32) cdv A outer s H E (hr.mono (by omega))) ⟨cA, cFv, call', W, E⟩ rfl rfl rfl
theorem ok_is_cut (T : Tx P w K mg ad fdd cA) (Fu : Fx K ad fdd) (G : ∀ (f : Nat) (E : XK), FnOk P w K mg base (L2.CX P w) (4 * k) (ad f) (fdd f) (psf f) (spD K ⟨cA, cFv, call, W, E⟩ f)) (hc : ∀ ds g, call' 33 ds g = runB call W f_is_cut ds g) (E : XK) : FnOk P w K mg base (L2.CX P w) (4 * k + 4) (ad 33) (fdd 33) (psf 33) (spD K ⟨cA, cFv, call', W, E⟩ 33) :=
  fn_body (k := 4 * k + 3) (Fu.fn 33 (by decide)) sc_is_cut rfl rfl hc (fun cdv A outer s H E hr => w_is_cut T G (ad 33) cdv A outer s H E (hr.mono (by omega))) ⟨cA, cFv, call', W, E⟩ rfl rfl rfl
theorem ok_tower_step (T : Tx P w K mg ad fdd cA) (Fu : Fx K ad fdd) (G : ∀ (f : Nat) (E : XK), FnOk P w K mg base (L2.CX P w) (4 * k) (ad f) (fdd f) (psf f) (spD K ⟨cA, cFv, call, W, E⟩ f)) (hc : ∀ ds g, call' 34 ds g = runB call W f_tower_step ds g) (E : XK) : FnOk P w K mg base (L2.CX P w) (4 * k + 4) (ad 34) (fdd 34) (psf 34) (spD K ⟨cA, cFv, call', W, E⟩ 34) :=
  fn_body (k := 4 * k + 3) (Fu.fn 34 (by decide)) sc_tower_step rfl rfl hc (fun cdv A outer s H E hr => w_tower_step T G (ad 34) cdv A outer s H E (hr.mono (by omega))) ⟨cA, cFv, call', W, E⟩ rfl rfl rfl
theorem ok_index_in (T : Tx P w K mg ad fdd cA) (Fu : Fx K ad fdd) (G : ∀ (f : Nat) (E : XK), FnOk P w K mg base (L2.CX P w) (4 * k) (ad f) (fdd f) (psf f) (spD K ⟨cA, cFv, call, W, E⟩ f)) (hc : ∀ ds g, call' 35 ds g = runB call W f_index_in ds g) (E : XK) : FnOk P w K mg base (L2.CX P w) (4 * k + 4) (ad 35) (fdd 35) (psf 35) (spD K ⟨cA, cFv, call', W, E⟩ 35) :=
  fn_body (k := 4 * k + 3) (Fu.fn 35 (by decide)) sc_index_in rfl rfl hc (fun cdv A outer s H E hr => w_index_in T G (ad 35) cdv A outer s H E (hr.mono (by omega))) ⟨cA, cFv, call', W, E⟩ rfl rfl rfl
theorem ok_index_here (T : Tx P w K mg ad fdd cA) (Fu : Fx K ad fdd) (G : ∀ (f : Nat) (E : XK), FnOk P w K mg base (L2.CX P w) (4 * k) (ad f) (fdd f) (psf f) (spD K ⟨cA, cFv, call, W, E⟩ f)) (hc : ∀ ds g, call' 36 ds g = runB call W f_index_here ds g) (E : XK) : FnOk P w K mg base (L2.CX P w) (4 * k + 4) (ad 36) (fdd 36) (psf 36) (spD K ⟨cA, cFv, call', W, E⟩ 36) :=
  fn_body (k := 4 * k + 3) (Fu.fn 36 (by decide)) sc_index_here rfl rfl hc (fun cdv A outer s H E hr => w_index_here T G (ad 36) cdv A outer s H E (hr.mono (by omega))) ⟨cA, cFv, call', W, E⟩ rfl rfl rfl
theorem ok_index_of (T : Tx P w K mg ad fdd cA) (Fu : Fx K ad fdd) (G : ∀ (f : Nat) (E : XK), FnOk P w K mg base (L2.CX P w) (4 * k) (ad f) (fdd f) (psf f) (spD K ⟨cA, cFv, call, W, E⟩ f)) (hc : ∀ ds g, call' 37 ds g = runB call W f_index_of ds g) (E : XK) : FnOk P w K mg base (L2.CX P w) (4 * k + 4) (ad 37) (fdd 37) (psf 37) (spD K ⟨cA, cFv, call', W, E⟩ 37) :=
  fn_body (k := 4 * k + 3) (Fu.fn 37 (by decide)) sc_index_of rfl rfl hc (fun cdv A outer s H E hr => w_index_of T G (ad 37) cdv A outer s H E (hr.mono (by omega))) ⟨cA, cFv, call', W, E⟩ rfl rfl rfl
theorem ok_law_next (T : Tx P w K mg ad fdd cA) (Fu : Fx K ad fdd) (G : ∀ (f : Nat) (E : XK), FnOk P w K mg base (L2.CX P w) (4 * k) (ad f) (fdd f) (psf f) (spD K ⟨cA, cFv, call, W, E⟩ f)) (hc : ∀ ds g, call' 39 ds g = runB call W f_law_next ds g) (E : XK) : FnOk P w K mg base (L2.CX P w) (4 * k + 4) (ad 39) (fdd 39) (psf 39) (spD K ⟨cA, cFv, call', W, E⟩ 39) :=
  fn_body (k := 4 * k + 3) (Fu.fn 39 (by decide)) sc_law_next rfl rfl hc (fun cdv A outer s H E hr => w_law_next T G (ad 39) cdv A outer s H E (hr.mono (by omega))) ⟨cA, cFv, call', W, E⟩ rfl rfl rfl
theorem ok_law_of (T : Tx P w K mg ad fdd cA) (Fu : Fx K ad fdd) (G : ∀ (f : Nat) (E : XK), FnOk P w K mg base (L2.CX P w) (4 * k) (ad f) (fdd f) (psf f) (spD K ⟨cA, cFv, call, W, E⟩ f)) (hc : ∀ ds g, call' 40 ds g = runB call W f_law_of ds g) (E : XK) : FnOk P w K mg base (L2.CX P w) (4 * k + 4) (ad 40) (fdd 40) (psf 40) (spD K ⟨cA, cFv, call', W, E⟩ 40) :=
  fn_body (k := 4 * k + 3) (Fu.fn 40 (by decide)) sc_law_of rfl rfl hc (fun cdv A outer s H E hr => w_law_of T G (ad 40) cdv A outer s H E (hr.mono (by omega))) ⟨cA, cFv, call', W, E⟩ rfl rfl rfl
theorem ok_law_like (T : Tx P w K mg ad fdd cA) (Fu : Fx K ad fdd) (G : ∀ (f : Nat) (E : XK), FnOk P w K mg base (L2.CX P w) (4 * k) (ad f) (fdd f) (psf f) (spD K ⟨cA, cFv, call, W, E⟩ f)) (hc : ∀ ds g, call' 41 ds g = runB call W f_law_like ds g) (E : XK) : FnOk P w K mg base (L2.CX P w) (4 * k + 4) (ad 41) (fdd 41) (psf 41) (spD K ⟨cA, cFv, call', W, E⟩ 41) :=
  fn_body (k := 4 * k + 3) (Fu.fn 41 (by decide)) sc_law_like rfl rfl hc (fun cdv A outer s H E hr => w_law_like T G (ad 41) cdv A outer s H E (hr.mono (by omega))) ⟨cA, cFv, call', W, E⟩ rfl rfl rfl
theorem ok_law_power (T : Tx P w K mg ad fdd cA) (Fu : Fx K ad fdd) (G : ∀ (f : Nat) (E : XK), FnOk P w K mg base (L2.CX P w) (4 * k) (ad f) (fdd f) (psf f) (spD K ⟨cA, cFv, call, W, E⟩ f)) (hc : ∀ ds g, call' 42 ds g = runB call W f_law_power ds g) (E : XK) : FnOk P w K mg base (L2.CX P w) (4 * k + 4) (ad 42) (fdd 42) (psf 42) (spD K ⟨cA, cFv, call', W, E⟩ 42) :=
  fn_body (k := 4 * k + 3) (Fu.fn 42 (by decide)) sc_law_power rfl rfl hc (fun cdv A outer s H E hr => w_law_power T G (ad 42) cdv A outer s H E (hr.mono (by omega))) ⟨cA, cFv, call', W, E⟩ rfl rfl rfl
theorem ok_law_group (T : Tx P w K mg ad fdd cA) (Fu : Fx K ad fdd) (G : ∀ (f : Nat) (E : XK), FnOk P w K mg base (L2.CX P w) (4 * k) (ad f) (fdd f) (psf f) (spD K ⟨cA, cFv, call, W, E⟩ f)) (hc : ∀ ds g, call' 43 ds g = runB call W f_law_group ds g) (E : XK) : FnOk P w K mg base (L2.CX P w) (4 * k + 4) (ad 43) (fdd 43) (psf 43) (spD K ⟨cA, cFv, call', W, E⟩ 43) :=
  fn_body (k := 4 * k + 3) (Fu.fn 43 (by decide)) sc_law_group rfl rfl hc (fun cdv A outer s H E hr => w_law_group T G (ad 43) cdv A outer s H E (hr.mono (by omega))) ⟨cA, cFv, call', W, E⟩ rfl rfl rfl
theorem ok_law_moduli (T : Tx P w K mg ad fdd cA) (Fu : Fx K ad fdd) (G : ∀ (f : Nat) (E : XK), FnOk P w K mg base (L2.CX P w) (4 * k) (ad f) (fdd f) (psf f) (spD K ⟨cA, cFv, call, W, E⟩ f)) (hc : ∀ ds g, call' 44 ds g = runB call W f_law_moduli ds g) (E : XK) : FnOk P w K mg base (L2.CX P w) (4 * k + 4) (ad 44) (fdd 44) (psf 44) (spD K ⟨cA, cFv, call', W, E⟩ 44) :=
  fn_body (k := 4 * k + 3) (Fu.fn 44 (by decide)) sc_law_moduli rfl rfl hc (fun cdv A outer s H E hr => w_law_moduli T G (ad 44) cdv A outer s H E (hr.mono (by omega))) ⟨cA, cFv, call', W, E⟩ rfl rfl rfl
theorem ok_law_rows (T : Tx P w K mg ad fdd cA) (Fu : Fx K ad fdd) (G : ∀ (f : Nat) (E : XK), FnOk P w K mg base (L2.CX P w) (4 * k) (ad f) (fdd f) (psf f) (spD K ⟨cA, cFv, call, W, E⟩ f)) (hc : ∀ ds g, call' 45 ds g = runB call W f_law_rows ds g) (E : XK) : FnOk P w K mg base (L2.CX P w) (4 * k + 4) (ad 45) (fdd 45) (psf 45) (spD K ⟨cA, cFv, call', W, E⟩ 45) :=
  fn_body (k := 4 * k + 3) (Fu.fn 45 (by decide)) sc_law_rows rfl rfl hc (fun cdv A outer s H E hr => w_law_rows T G (ad 45) cdv A outer s H E (hr.mono (by omega))) ⟨cA, cFv, call', W, E⟩ rfl rfl rfl
theorem ok_law_divides (T : Tx P w K mg ad fdd cA) (Fu : Fx K ad fdd) (G : ∀ (f : Nat) (E : XK), FnOk P w K mg base (L2.CX P w) (4 * k) (ad f) (fdd f) (psf f) (spD K ⟨cA, cFv, call, W, E⟩ f)) (hc : ∀ ds g, call' 46 ds g = runB call W f_law_divides ds g) (E : XK) : FnOk P w K mg base (L2.CX P w) (4 * k + 4) (ad 46) (fdd 46) (psf 46) (spD K ⟨cA, cFv, call', W, E⟩ 46) :=
  fn_body (k := 4 * k + 3) (Fu.fn 46 (by decide)) sc_law_divides rfl rfl hc (fun cdv A outer s H E hr => w_law_divides T G (ad 46) cdv A outer s H E (hr.mono (by omega))) ⟨cA, cFv, call', W, E⟩ rfl rfl rfl
theorem ok_law_shape (T : Tx P w K mg ad fdd cA) (Fu : Fx K ad fdd) (G : ∀ (f : Nat) (E : XK), FnOk P w K mg base (L2.CX P w) (4 * k) (ad f) (fdd f) (psf f) (spD K ⟨cA, cFv, call, W, E⟩ f)) (hc : ∀ ds g, call' 47 ds g = runB call W f_law_shape ds g) (E : XK) : FnOk P w K mg base (L2.CX P w) (4 * k + 4) (ad 47) (fdd 47) (psf 47) (spD K ⟨cA, cFv, call', W, E⟩ 47) :=
  fn_body (k := 4 * k + 3) (Fu.fn 47 (by decide)) sc_law_shape rfl rfl hc (fun cdv A outer s H E hr => w_law_shape T G (ad 47) cdv A outer s H E (hr.mono (by omega))) ⟨cA, cFv, call', W, E⟩ rfl rfl rfl
theorem ok_law_in (T : Tx P w K mg ad fdd cA) (Fu : Fx K ad fdd) (G : ∀ (f : Nat) (E : XK), FnOk P w K mg base (L2.CX P w) (4 * k) (ad f) (fdd f) (psf f) (spD K ⟨cA, cFv, call, W, E⟩ f)) (hc : ∀ ds g, call' 48 ds g = runB call W f_law_in ds g) (E : XK) : FnOk P w K mg base (L2.CX P w) (4 * k + 4) (ad 48) (fdd 48) (psf 48) (spD K ⟨cA, cFv, call', W, E⟩ 48) :=
  fn_body (k := 4 * k + 3) (Fu.fn 48 (by decide)) sc_law_in rfl rfl hc (fun cdv A outer s H E hr => w_law_in T G (ad 48) cdv A outer s H E (hr.mono (by omega))) ⟨cA, cFv, call', W, E⟩ rfl rfl rfl
theorem ok_law_count (T : Tx P w K mg ad fdd cA) (Fu : Fx K ad fdd) (G : ∀ (f : Nat) (E : XK), FnOk P w K mg base (L2.CX P w) (4 * k) (ad f) (fdd f) (psf f) (spD K ⟨cA, cFv, call, W, E⟩ f)) (hc : ∀ ds g, call' 49 ds g = runB call W f_law_count ds g) (E : XK) : FnOk P w K mg base (L2.CX P w) (4 * k + 4) (ad 49) (fdd 49) (psf 49) (spD K ⟨cA, cFv, call', W, E⟩ 49) :=
  fn_body (k := 4 * k + 3) (Fu.fn 49 (by decide)) sc_law_count rfl rfl hc (fun cdv A outer s H E hr => w_law_count T G (ad 49) cdv A outer s H E (hr.mono (by omega))) ⟨cA, cFv, call', W, E⟩ rfl rfl rfl
theorem ok_law_common (T : Tx P w K mg ad fdd cA) (Fu : Fx K ad fdd) (G : ∀ (f : Nat) (E : XK), FnOk P w K mg base (L2.CX P w) (4 * k) (ad f) (fdd f) (psf f) (spD K ⟨cA, cFv, call, W, E⟩ f)) (hc : ∀ ds g, call' 50 ds g = runB call W f_law_common ds g) (E : XK) : FnOk P w K mg base (L2.CX P w) (4 * k + 4) (ad 50) (fdd 50) (psf 50) (spD K ⟨cA, cFv, call', W, E⟩ 50) :=
  fn_body (k := 4 * k + 3) (Fu.fn 50 (by decide)) sc_law_common rfl rfl hc (fun cdv A outer s H E hr => w_law_common T G (ad 50) cdv A outer s H E (hr.mono (by omega))) ⟨cA, cFv, call', W, E⟩ rfl rfl rfl
theorem ok_law_whole (T : Tx P w K mg ad fdd cA) (Fu : Fx K ad fdd) (G : ∀ (f : Nat) (E : XK), FnOk P w K mg base (L2.CX P w) (4 * k) (ad f) (fdd f) (psf f) (spD K ⟨cA, cFv, call, W, E⟩ f)) (hc : ∀ ds g, call' 51 ds g = runB call W f_law_whole ds g) (E : XK) : FnOk P w K mg base (L2.CX P w) (4 * k + 4) (ad 51) (fdd 51) (psf 51) (spD K ⟨cA, cFv, call', W, E⟩ 51) :=
  fn_body (k := 4 * k + 3) (Fu.fn 51 (by decide)) sc_law_whole rfl rfl hc (fun cdv A outer s H E hr => w_law_whole T G (ad 51) cdv A outer s H E (hr.mono (by omega))) ⟨cA, cFv, call', W, E⟩ rfl rfl rfl
theorem ok_law_torsion (T : Tx P w K mg ad fdd cA) (Fu : Fx K ad fdd) (G : ∀ (f : Nat) (E : XK), FnOk P w K mg base (L2.CX P w) (4 * k) (ad f) (fdd f) (psf f) (spD K ⟨cA, cFv, call, W, E⟩ f)) (hc : ∀ ds g, call' 52 ds g = runB call W f_law_torsion ds g) (E : XK) : FnOk P w K mg base (L2.CX P w) (4 * k + 4) (ad 52) (fdd 52) (psf 52) (spD K ⟨cA, cFv, call', W, E⟩ 52) :=
  fn_body (k := 4 * k + 3) (Fu.fn 52 (by decide)) sc_law_torsion rfl rfl hc (fun cdv A outer s H E hr => w_law_torsion T G (ad 52) cdv A outer s H E (hr.mono (by omega))) ⟨cA, cFv, call', W, E⟩ rfl rfl rfl
theorem ok_law_endless (T : Tx P w K mg ad fdd cA) (Fu : Fx K ad fdd) (G : ∀ (f : Nat) (E : XK), FnOk P w K mg base (L2.CX P w) (4 * k) (ad f) (fdd f) (psf f) (spD K ⟨cA, cFv, call, W, E⟩ f)) (hc : ∀ ds g, call' 53 ds g = runB call W f_law_endless ds g) (E : XK) : FnOk P w K mg base (L2.CX P w) (4 * k + 4) (ad 53) (fdd 53) (psf 53) (spD K ⟨cA, cFv, call', W, E⟩ 53) :=
  fn_body (k := 4 * k + 3) (Fu.fn 53 (by decide)) sc_law_endless rfl rfl hc (fun cdv A outer s H E hr => w_law_endless T G (ad 53) cdv A outer s H E (hr.mono (by omega))) ⟨cA, cFv, call', W, E⟩ rfl rfl rfl
theorem ok_stuck {j f : Nat} {f' : Addr} {fd : FuncData} {ps : List Str} (hs : ∀ ds g, call' f ds g = .stuck) (E : XK) : FnOk P w K mg base (L2.CX P w) j f' fd ps (spD K ⟨cA, cFv, call', W, E⟩ f) := by
  have no : ∀ vs H Q E', spD K ⟨cA, cFv, call', W, E⟩ f vs H Q E' → False := fun vs H Q E' h => by
    obtain ⟨pm, Hf, g, ds, _, _, _, h⟩ := h
    simp only [hs] at h
    exact h
  exact ⟨fun vs H Q E' h => (no _ _ _ _ h).elim, fun A outer s H args us vs Q E' _ _ _ _ h => (no _ _ _ _ h).elim⟩
theorem ok_all (T : Tx P w K mg ad fdd cA) (Fu : Fx K ad fdd) (X0 : Lx_sum_of_groups K mg base ad fdd) : ∀ (k f : Nat) (E : XK), FnOk P w K mg base (L2.CX P w) (4 * k) (ad f) (fdd f) (psf f) (spD K ⟨cA, cFv, callK tabK W k, W, E⟩ f)
  | 0, f, E => ok_stuck (fun _ _ => rfl) E
  | k + 1, 0, E => ok_is_number T Fu (ok_all T Fu X0 k) (fun _ _ => rfl) E
  | k + 1, 1, E => ok_is_prime T Fu (ok_all T Fu X0 k) (fun _ _ => rfl) E
  | k + 1, 2, E => ok_is_kind T Fu (ok_all T Fu X0 k) (fun _ _ => rfl) E
  | k + 1, 3, E => ok_ring_size T Fu (ok_all T Fu X0 k) (fun _ _ => rfl) E
  | k + 1, 4, E => ok_kind_order T Fu (ok_all T Fu X0 k) (fun _ _ => rfl) E
  | k + 1, 5, E => ok_are_copies T Fu (ok_all T Fu X0 k) (fun _ _ => rfl) E
  | k + 1, 6, E => ok_is_group T Fu (ok_all T Fu X0 k) (fun _ _ => rfl) E
  | k + 1, 7, E => ok_need_group T Fu (ok_all T Fu X0 k) (fun _ _ => rfl) E
  | k + 1, 8, E => ok_raised T Fu (ok_all T Fu X0 k) (fun _ _ => rfl) E
  | k + 1, 9, E => ok_size_here T Fu (ok_all T Fu X0 k) (fun _ _ => rfl) E
  | k + 1, 10, E => ok_sum_of_groups T X0 (ok_all T Fu X0 k) (fun _ _ => rfl) E
  | k + 1, 11, E => ok_is_power T Fu (ok_all T Fu X0 k) (fun _ _ => rfl) E
  | k + 1, 12, E => ok_is_fraction T Fu (ok_all T Fu X0 k) (fun _ _ => rfl) E
  | k + 1, 13, E => ok_is_place T Fu (ok_all T Fu X0 k) (fun _ _ => rfl) E
  | k + 1, 14, E => ok_zero_place T Fu (ok_all T Fu X0 k) (fun _ _ => rfl) E
  | k + 1, 15, E => ok_are_places T Fu (ok_all T Fu X0 k) (fun _ _ => rfl) E
  | k + 1, 16, E => ok_is_element T Fu (ok_all T Fu X0 k) (fun _ _ => rfl) E
  | k + 1, 17, E => ok_need_element T Fu (ok_all T Fu X0 k) (fun _ _ => rfl) E
  | k + 1, 18, E => ok_trimmed T Fu (ok_all T Fu X0 k) (fun _ _ => rfl) E
  | k + 1, 19, E => ok_lowest T Fu (ok_all T Fu X0 k) (fun _ _ => rfl) E
  | k + 1, 20, E => ok_place_of T Fu (ok_all T Fu X0 k) (fun _ _ => rfl) E
  | k + 1, 21, E => ok_times_here T Fu (ok_all T Fu X0 k) (fun _ _ => rfl) E
  | k + 1, 22, E => ok_power_in T Fu (ok_all T Fu X0 k) (fun _ _ => rfl) E
  | k + 1, 23, E => ok_place_parts T Fu (ok_all T Fu X0 k) (fun _ _ => rfl) E
  | k + 1, 24, E => ok_parts_here T Fu (ok_all T Fu X0 k) (fun _ _ => rfl) E
  | k + 1, 25, E => ok_many_times T Fu (ok_all T Fu X0 k) (fun _ _ => rfl) E
  | k + 1, 26, E => ok_divides T Fu (ok_all T Fu X0 k) (fun _ _ => rfl) E
  | k + 1, 27, E => ok_longer_by T Fu (ok_all T Fu X0 k) (fun _ _ => rfl) E
  | k + 1, 28, E => ok_all_elements T Fu (ok_all T Fu X0 k) (fun _ _ => rfl) E
  | k + 1, 29, E => ok_is_shape T Fu (ok_all T Fu X0 k) (fun _ _ => rfl) E
  | k + 1, 30, E => ok_need_shape T Fu (ok_all T Fu X0 k) (fun _ _ => rfl) E
  | k + 1, 31, E => ok_ring_step T Fu (ok_all T Fu X0 k) (fun _ _ => rfl) E
  | k + 1, 32, E => ok_whole_step T Fu (ok_all T Fu X0 k) (fun _ _ => rfl) E
  | k + 1, 33, E => ok_is_cut T Fu (ok_all T Fu X0 k) (fun _ _ => rfl) E
  | k + 1, 34, E => ok_tower_step T Fu (ok_all T Fu X0 k) (fun _ _ => rfl) E
  | k + 1, 35, E => ok_index_in T Fu (ok_all T Fu X0 k) (fun _ _ => rfl) E
  | k + 1, 36, E => ok_index_here T Fu (ok_all T Fu X0 k) (fun _ _ => rfl) E
  | k + 1, 37, E => ok_index_of T Fu (ok_all T Fu X0 k) (fun _ _ => rfl) E
  | k + 1, 38, E => ok_stuck (fun ds g => never_stuck _ _ _ _) E
  | k + 1, 39, E => ok_law_next T Fu (ok_all T Fu X0 k) (fun _ _ => rfl) E
  | k + 1, 40, E => ok_law_of T Fu (ok_all T Fu X0 k) (fun _ _ => rfl) E
  | k + 1, 41, E => ok_law_like T Fu (ok_all T Fu X0 k) (fun _ _ => rfl) E
  | k + 1, 42, E => ok_law_power T Fu (ok_all T Fu X0 k) (fun _ _ => rfl) E
  | k + 1, 43, E => ok_law_group T Fu (ok_all T Fu X0 k) (fun _ _ => rfl) E
  | k + 1, 44, E => ok_law_moduli T Fu (ok_all T Fu X0 k) (fun _ _ => rfl) E
  | k + 1, 45, E => ok_law_rows T Fu (ok_all T Fu X0 k) (fun _ _ => rfl) E
  | k + 1, 46, E => ok_law_divides T Fu (ok_all T Fu X0 k) (fun _ _ => rfl) E
  | k + 1, 47, E => ok_law_shape T Fu (ok_all T Fu X0 k) (fun _ _ => rfl) E
  | k + 1, 48, E => ok_law_in T Fu (ok_all T Fu X0 k) (fun _ _ => rfl) E
  | k + 1, 49, E => ok_law_count T Fu (ok_all T Fu X0 k) (fun _ _ => rfl) E
  | k + 1, 50, E => ok_law_common T Fu (ok_all T Fu X0 k) (fun _ _ => rfl) E
  | k + 1, 51, E => ok_law_whole T Fu (ok_all T Fu X0 k) (fun _ _ => rfl) E
  | k + 1, 52, E => ok_law_torsion T Fu (ok_all T Fu X0 k) (fun _ _ => rfl) E
  | k + 1, 53, E => ok_law_endless T Fu (ok_all T Fu X0 k) (fun _ _ => rfl) E
  | k + 1, 54, E => ok_stuck (fun ds g => never_stuck _ _ _ _) E
  | k + 1, n + 55, E => ok_stuck (fun ds g => by show (match tabK[n + 55]? with | some F => runB (callK tabK W k) W F ds g | none => .stuck) = _; rw [List.getElem?_eq_none (by show 55 ≤ n + 55; omega)]) E
end
end Mini

set_option maxRecDepth 100000
set_option maxHeartbeats 8000000
namespace Mini
open PySem L2 Evl
/-! the law itself: it makes the run, and then its body is read by the machine -/
def rhoLaw : Env1 := [none, some (.frz (.dict []))] ++ List.replicate 16 none
def spLaw (K : PySem.W.Frag) (call : Nat → List PyData → G → R PyData) (W : Nat) : Sp := fun vs H Q E => ∃ Hf a ns ρ' g', vs = [.ref a] ∧ Ex Hf H ∧ MAt K none [] Hf H ∧ SqL K Hf a (ns.map V.int) ∧
  exS call W f_law.body rhoLaw (runOf ns) = .ok (.rt (.bool true), ρ') g' ∧ ∀ H', Q (.bl true) H'
section
variable {P : Program} {w : World} {K : PySem.W.Frag} {mg : Str → Option Value} {base : Heap} {ad : Nat → Addr} {fdd : Nat → FuncData} {cA : Nat → Addr} {k W : Nat}
theorem run_law (T : Tx P w K mg ad fdd cA) (Fu : Fx K ad fdd) (X0 : Lx_sum_of_groups K mg base ad fdd) (hr : Room (4 * (k + 1) + 1) callerA) (hgd : ∀ env, (callerA.deeper env).guards = some []) (hu64 : ∀ env, (callerA.deeper env).units + 64 < cLine)
    {CE : Addr} (mCE : mg "AddingError" = some (.ref CE)) (em : PySem.W.exmOne K (.ref (cA 2)) (.ref CE) = some true) (ei : ErrIs K (cA 2)) (ki : PySem.W.kitOne K (.ref (cA 2)) (.ref (cA 2)) = some true) (xf : XfC K (cA 2)) (hno : PySem.W.findIn K (.ref (cA 2)) (cFv 2) = some none) :
    RunC P w K mg base (L2.CX P w) (ad 54) (fdd 54) [Str.ofString "script"] (spLaw K (callK tabK W (k + 1)) W) := by
  refine runC_of (x := "law") (qual := "law") (st := s_law) (Fu.fn 54 (by decide)) sc_law hr (fun vs H Q E h => ?_) fun cdv outer s H vs Q E hr h => ?_
  · obtain ⟨Hf, a, ns, ρ', g', rfl, h⟩ := h
    rfl
  · have nd : N_law.Nodup := sc_law.nd
    have hb : FnOk P w K mg base (L2.CX P w) (4 * (k + 1)) (ad 38) (fdd 38) [Str.ofString "script"] (spBegun K) := (ok_law_begun (k := 0) T (Fu.fn 38 (by decide))).mono (by omega)
    refine ⟨_, pss_cons (ps_set (X := cxOf (L2.CX P w) P w K mg base N_law "law" (defScope s_law) (ad 54) cdv callerA outer s H E) (i := 1) nd rfl (by first | exact Or.inl rfl | exact Or.inr rfl)
      (pe_call (dvs := []) hb hr rfl (T.g 38 (by decide)) (T.kp 38 (by decide)) (T.b 38 (by decide)) .nil (cx_px (E := E)) (pa_cons (pv 0) pa_nil rfl)))
      (w_law (W := W) T (ok_all T Fu X0 (k + 1)) (ad 54) cdv callerA outer s H E hr (hgd _) (hu64 _) mCE em ei ki xf hno), ?_⟩
    obtain ⟨Hf, a, ns, ρ', g', rfl, ex, m, sq, he, hq⟩ := h
    refine ⟨.ref a, rfl, Hf, a, ns, rfl, ex, m, sq, fun Hf' H' p st m' ex' => ?_⟩
    refine ⟨some p, Hf', H', rhoLaw, runOf ns, Hf', ⟨⟨ex', m', rfl, fun i e q => ?_, fun i j e e' v ne qi qj oi oj si sj => ?_⟩, fun i e a' q o si => ?_⟩, Stp.refl ex', ?_⟩
    · match i, q with
      | 0, q => cases q
      | 1, q => cases q; exact ⟨.ref p, rfl, rfl, p, rfl, rfl⟩
      | n + 2, q =>
        have q' : (List.replicate 16 (none : Option Ent))[n]? = some (some e) := q
        rw [List.getElem?_replicate] at q'
        split at q' <;> cases q'
    · match i, qi with
      | 0, q => cases q
      | 1, q => cases q; cases oi
      | n + 2, q =>
        have q' : (List.replicate 16 (none : Option Ent))[n]? = some (some e) := q
        rw [List.getElem?_replicate] at q'
        split at q' <;> cases q'
    · match i, q with
      | 0, q => cases q
      | 1, q => cases q; cases o
      | n + 2, q =>
        have q' : (List.replicate 16 (none : Option Ent))[n]? = some (some e) := q
        rw [List.getElem?_replicate] at q'
        split at q' <;> cases q'
    · show PostS K _ (some p) Hf' H' (exS (callK tabK W (k + 1)) W f_law.body rhoLaw (runOf ns)) _
      rw [he]
      intro Hf2 H2 s2 m2 _ v av
      have av' : v = .bl true := av
      rw [av']
      exact hq H2
end
end Mini

set_option maxRecDepth 100000
set_option maxHeartbeats 2000000
namespace Mini
/-! ### the plain law of indices: numbers -/
/-- how often p goes into v, at most n times -/
def pin (p : Nat) : Nat → Int → Nat
  | 0, _ => 0
  | n + 1, v => if v % (p : Int) = 0 then pin p n (v / (p : Int)) + 1 else 0
def st1 (p n : Nat) (x : Int × Int) : Nat := if x.2 = 0 then 0 else pin p n x.1 - pin p n x.2
def st (p n : Nat) (s : List (Int × Int)) : Nat := s.foldl (fun a x => max a (st1 p n x)) 0
def good1 (m : Nat) (x : Int × Int) (v : Nat) : Bool := decide ((x.2 * (v : Int) % (m : Int)) % ((Int.gcd x.1 m : Nat) : Int) = 0)
def good (m : Nat) (s : List (Int × Int)) (v : Nat) : Bool := s.all fun x => good1 m x v
def Bs : List Int := [0, 1, 2, 3, 4, 6, 8, 9]
def Fs : List Int := [1, -1, 2, 3, 4, 0, 6, 9]
def PN (p n : Nat) : Prop := p ∈ [2, 3, 5, 7] ∧ n ∈ [1, 2, 3]
def okP (x : Int × Int) : Prop := x.1 ∈ Bs ∧ x.2 ∈ Fs
def okS (s : List (Int × Int)) : Prop := ∀ x ∈ s, okP x
theorem okS.append {s t : List (Int × Int)} (h : okS s) (g : okS t) : okS (s ++ t) := fun x hx => (List.mem_append.mp hx).elim (h x) (g x)
theorem fin_all : ∀ p ∈ [2, 3, 5, 7], ∀ n ∈ [1, 2, 3], ∀ b ∈ Bs, ∀ f ∈ Fs, (st1 p n (b, f) ≤ n ∧ Int.gcd b ((p ^ n : Nat) : Int) = p ^ pin p n b) ∧ ∀ v ∈ List.range (p ^ n), good1 (p ^ n) (b, f) v = decide (v % p ^ st1 p n (b, f) = 0) := by decide +kernel
theorem st1_le {p n : Nat} {x : Int × Int} (h : PN p n) (o : okP x) : st1 p n x ≤ n := (fin_all p h.1 n h.2 x.1 o.1 x.2 o.2).1.1
theorem gcd_pin {p n : Nat} {x : Int × Int} (h : PN p n) (o : okP x) : Int.gcd x.1 ((p ^ n : Nat) : Int) = p ^ pin p n x.1 := (fin_all p h.1 n h.2 x.1 o.1 x.2 o.2).1.2
theorem good1_eq {p n v : Nat} {x : Int × Int} (h : PN p n) (o : okP x) (hv : v < p ^ n) : good1 (p ^ n) x v = decide (v % p ^ st1 p n x = 0) := (fin_all p h.1 n h.2 x.1 o.1 x.2 o.2).2 v (List.mem_range.mpr hv)
theorem PN.pos {p n : Nat} (h : PN p n) : 0 < p := by
  have h1 := h.1
  simp only [List.mem_cons, List.not_mem_nil, or_false] at h1
  omega
theorem pow_dvd_max {p a b v : Nat} : (v % p ^ max a b = 0) ↔ (v % p ^ a = 0 ∧ v % p ^ b = 0) := by
  simp only [← Nat.dvd_iff_mod_eq_zero]
  rcases Nat.le_total a b with h | h
  · rw [Nat.max_eq_right h]
    exact ⟨fun q => ⟨Nat.dvd_trans (Nat.pow_dvd_pow p h) q, q⟩, fun q => q.2⟩
  · rw [Nat.max_eq_left h]
    exact ⟨fun q => ⟨q, Nat.dvd_trans (Nat.pow_dvd_pow p h) q⟩, fun q => q.1⟩
theorem st_from (p n : Nat) : ∀ (s : List (Int × Int)) (a : Nat), s.foldl (fun a x => max a (st1 p n x)) a = max a (st p n s)
  | [], a => by simp [st]
  | x :: s, a => by
    unfold st
    rw [List.foldl_cons, List.foldl_cons, st_from p n s, st_from p n s (max 0 _), Nat.zero_max, Nat.max_assoc]
theorem st_cons (p n : Nat) (x : Int × Int) (s : List (Int × Int)) : st p n (x :: s) = max (st1 p n x) (st p n s) := by
  show (x :: s).foldl _ 0 = _
  rw [List.foldl_cons, st_from, Nat.zero_max]
theorem st_append (p n : Nat) (s t : List (Int × Int)) : st p n (s ++ t) = max (st p n s) (st p n t) := by
  show (s ++ t).foldl _ 0 = _
  rw [List.foldl_append, st_from]
  rfl
theorem st_le {p n : Nat} (h : PN p n) : ∀ {s : List (Int × Int)}, okS s → st p n s ≤ n
  | [], _ => Nat.zero_le _
  | x :: s, o => by
    rw [st_cons]
    exact Nat.max_le.mpr ⟨st1_le h (o x (List.mem_cons_self ..)), st_le h fun y hy => o y (List.mem_cons_of_mem _ hy)⟩
theorem good_eq {p n v : Nat} (h : PN p n) (hv : v < p ^ n) : ∀ {s : List (Int × Int)}, okS s → good (p ^ n) s v = decide (v % p ^ st p n s = 0)
  | [], _ => by simp [good, st, Nat.mod_one]
  | x :: s, o => by
    have e := good_eq h hv (s := s) fun y hy => o y (List.mem_cons_of_mem _ hy)
    unfold good at e ⊢
    rw [List.all_cons, e, good1_eq h (o x (List.mem_cons_self ..)) hv, st_cons, ← Bool.decide_and]
    exact decide_eq_decide.mpr pow_dvd_max.symm
theorem fin_count : ∀ p ∈ [2, 3, 5, 7], ∀ n ∈ [1, 2, 3], ∀ j ∈ List.range (n + 1), ((List.range (p ^ n)).filter fun v => decide (v % p ^ j = 0)).length = p ^ (n - j) := by decide +kernel
theorem count_good {p n : Nat} {s : List (Int × Int)} (h : PN p n) (o : okS s) : ((List.range (p ^ n)).filter (good (p ^ n) s)).length = p ^ (n - st p n s) := by
  rw [← fin_count p h.1 n h.2 (st p n s) (List.mem_range.mpr (Nat.lt_succ_of_le (st_le h o)))]
  congr 1
  exact List.filter_congr fun v hv => good_eq h (List.mem_range.mp hv) o
/-! ### rows -/
def rowsL : List Nat → List (List Nat)
  | [] => [[]]
  | m :: ms => (List.range m).flatMap fun x => (rowsL ms).map (x :: ·)
def rowStep (R : List (List Nat)) (m : Nat) : List (List Nat) := R.flatMap fun r => (List.range m).map fun x => r ++ [x]
theorem rows_fold : ∀ (ms : List Nat) (R : List (List Nat)), ms.foldl rowStep R = R.flatMap fun r => (rowsL ms).map (r ++ ·)
  | [], R => by
    simp only [List.foldl_nil, rowsL, List.map_cons, List.map_nil, List.append_nil]
    induction R with
    | nil => rfl
    | cons r R ih => rw [List.flatMap_cons, ← ih]; rfl
  | m :: ms, R => by
    rw [List.foldl_cons, rows_fold ms, rowStep, List.flatMap_assoc]
    congr 1
    funext r
    simp only [rowsL, List.flatMap_map, List.map_flatMap, List.map_map]
    congr 1
    funext x
    congr 1
    funext t
    simp
theorem rows_append : ∀ (ms ns : List Nat), rowsL (ms ++ ns) = (rowsL ms).flatMap fun r => (rowsL ns).map (r ++ ·)
  | [], ns => by simp [rowsL]
  | m :: ms, ns => by
    rw [List.cons_append, rowsL, rowsL, List.flatMap_assoc]
    congr 1
    funext x
    rw [rows_append ms ns, List.map_flatMap, List.flatMap_map]
    congr 1
    funext r
    rw [List.map_map]
    rfl
theorem rows_len : ∀ {ms : List Nat} {r : List Nat}, r ∈ rowsL ms → r.length = ms.length
  | [], r, h => by simp only [rowsL, List.mem_singleton] at h; rw [h]
  | m :: ms, r, h => by
    simp only [rowsL, List.mem_flatMap, List.mem_map] at h
    obtain ⟨x, -, t, ht, rfl⟩ := h
    rw [List.length_cons, List.length_cons, rows_len ht]
def sizeL (ms : List Nat) : Nat := ms.foldr (· * ·) 1
theorem rows_length : ∀ (ms : List Nat), (rowsL ms).length = sizeL ms
  | [] => rfl
  | m :: ms => by
    have e : ∀ k : Nat, ((List.range k).flatMap fun x => (rowsL ms).map (x :: ·)).length = k * sizeL ms := by
      intro k
      induction k with
      | zero => simp
      | succ k ih => rw [List.range_succ, List.flatMap_append, List.length_append, ih]; simp [rows_length ms, Nat.succ_mul]
    exact e m
def inRow : List Nat → List (Int × Int) → List Nat → Bool
  | m :: ms, s, x :: r => good m s x && inRow ms s r
  | [], _, _ => true
  | _ :: _, _, [] => true
theorem inRow_append (s t : List (Int × Int)) : ∀ (ms r : List Nat), inRow ms (s ++ t) r = (inRow ms s r && inRow ms t r)
  | m :: ms, x :: r => by
    have e : good m (s ++ t) x = (good m s x && good m t x) := by unfold good; rw [List.all_append]
    unfold inRow
    rw [e, inRow_append s t ms r]
    cases good m s x <;> cases good m t x <;> cases inRow ms s r <;> cases inRow ms t r <;> rfl
  | [], _ => by unfold inRow; rfl
  | _ :: _, [] => by unfold inRow; rfl
theorem count_rows (s : List (Int × Int)) : ∀ (ms : List Nat), ((rowsL ms).filter (inRow ms s)).length = sizeL (ms.map fun m => ((List.range m).filter (good m s)).length)
  | [] => rfl
  | m :: ms => by
    have e : ∀ xs : List Nat, ((xs.flatMap fun x => (rowsL ms).map (x :: ·)).filter (inRow (m :: ms) s)).length = (xs.filter (good m s)).length * ((rowsL ms).filter (inRow ms s)).length := by
      intro xs
      induction xs with
      | nil => simp
      | cons x xs ih =>
        rw [List.flatMap_cons, List.filter_append, List.length_append, ih, List.filter_map, List.length_map]
        cases hx : good m s x with
        | true =>
          have : (inRow (m :: ms) s ∘ fun r => x :: r) = inRow ms s := by funext r; show (good m s x && inRow ms s r) = _; rw [hx]; rfl
          rw [this, List.filter_cons_of_pos hx, List.length_cons, Nat.succ_mul, Nat.add_comm]
        | false =>
          have : (inRow (m :: ms) s ∘ fun r => x :: r) = fun _ => false := by funext r; show (good m s x && inRow ms s r) = _; rw [hx]; rfl
          rw [this, List.filter_cons_of_neg (by simp [hx])]
          simp
    show ((rowsL (m :: ms)).filter (inRow (m :: ms) s)).length = _
    rw [rowsL, e, count_rows s ms]
    rfl
/-! ### groups -/
abbrev Gr := List (Nat × Nat × Nat)
def modL : Gr → List Nat
  | [] => []
  | (p, n, c) :: g => List.replicate c (p ^ n) ++ modL g
def wprod (w : Nat → Nat → Nat) : Gr → Nat
  | [] => 1
  | (p, n, c) :: g => w p n ^ c * wprod w g
theorem sizeL_append (ms ns : List Nat) : sizeL (ms ++ ns) = sizeL ms * sizeL ns := by
  induction ms with
  | nil => simp [sizeL]
  | cons m ms ih =>
    show m * sizeL (ms ++ ns) = m * sizeL ms * sizeL ns
    rw [ih, Nat.mul_assoc]
theorem sizeL_rep (c m : Nat) : sizeL (List.replicate c m) = m ^ c := by
  induction c with
  | zero => rfl
  | succ c ih =>
    show m * sizeL (List.replicate c m) = _
    rw [ih, Nat.pow_succ, Nat.mul_comm]
theorem sizeL_mod (f : Nat → Nat) : ∀ (g : Gr), sizeL ((modL g).map f) = wprod (fun p n => f (p ^ n)) g
  | [] => rfl
  | (p, n, c) :: g => by rw [modL, List.map_append, sizeL_append, List.map_replicate, sizeL_rep, sizeL_mod f g, wprod]
theorem wprod_congr {w v : Nat → Nat → Nat} : ∀ {g : Gr}, (∀ x ∈ g, w x.1 x.2.1 = v x.1 x.2.1) → wprod w g = wprod v g
  | [], _ => rfl
  | (p, n, c) :: g, h => by
    have e : w p n = v p n := h (p, n, c) (List.mem_cons_self ..)
    rw [wprod, wprod, wprod_congr fun x hx => h x (List.mem_cons_of_mem _ hx), e]
theorem wprod_mul (w v : Nat → Nat → Nat) : ∀ (g : Gr), wprod w g * wprod v g = wprod (fun p n => w p n * v p n) g
  | [] => rfl
  | (p, n, c) :: g => by
    rw [wprod, wprod, wprod, ← wprod_mul w v g, Nat.mul_pow]
    ac_rfl
theorem wprod_pos {w : Nat → Nat → Nat} : ∀ {g : Gr}, (∀ x ∈ g, 0 < w x.1 x.2.1) → 0 < wprod w g
  | [], _ => Nat.one_pos
  | (p, n, c) :: g, h => Nat.mul_pos (Nat.pow_pos (h (p, n, c) (List.mem_cons_self ..))) (wprod_pos fun x hx => h x (List.mem_cons_of_mem _ hx))
theorem wprod_perm (w : Nat → Nat → Nat) {g h : Gr} (q : g.Perm h) : wprod w g = wprod w h := by
  induction q with
  | nil => rfl
  | cons x q ih => obtain ⟨p, n, c⟩ := x; rw [wprod, wprod, ih]
  | swap x y l => obtain ⟨p, n, c⟩ := x; obtain ⟨p', n', c'⟩ := y; simp only [wprod]; ac_rfl
  | trans _ _ i j => exact i.trans j
def okG (g : Gr) : Prop := ∀ x ∈ g, PN x.1 x.2.1
def cnt (g : Gr) (s : List (Int × Int)) : Nat := ((rowsL (modL g)).filter (inRow (modL g) s)).length
theorem cnt_eq {g : Gr} {s : List (Int × Int)} (hg : okG g) (o : okS s) : cnt g s = wprod (fun p n => p ^ (n - st p n s)) g := by
  unfold cnt
  rw [count_rows, sizeL_mod (fun m => ((List.range m).filter (good m s)).length)]
  exact wprod_congr fun x hx => count_good (hg x hx) o
def idx (g : Gr) (s t : List (Int × Int)) : Nat := wprod (fun p n => p ^ (st p n (s ++ t) - st p n s)) g
theorem cnt_pos {g : Gr} {s : List (Int × Int)} (hg : okG g) (o : okS s) : 0 < cnt g s := by
  rw [cnt_eq hg o]
  exact wprod_pos fun x hx => Nat.pow_pos (hg x hx).pos
theorem cnt_le {g : Gr} {s : List (Int × Int)} : cnt g s ≤ sizeL (modL g) := by
  unfold cnt
  rw [← rows_length]
  exact List.length_filter_le ..
theorem cnt_idx {g : Gr} {s t : List (Int × Int)} (hg : okG g) (o : okS s) (o' : okS t) : cnt g s / cnt g (s ++ t) = idx g s t := by
  have e : cnt g s = cnt g (s ++ t) * idx g s t := by
    rw [cnt_eq hg o, cnt_eq hg (o.append o'), idx, wprod_mul]
    refine wprod_congr fun x hx => ?_
    show x.1 ^ (x.2.1 - st x.1 x.2.1 s) = x.1 ^ (x.2.1 - st x.1 x.2.1 (s ++ t)) * x.1 ^ (st x.1 x.2.1 (s ++ t) - st x.1 x.2.1 s)
    have h1 := st_le (hg x hx) (o.append o')
    have h2 : st x.1 x.2.1 s ≤ st x.1 x.2.1 (s ++ t) := by rw [st_append]; exact Nat.le_max_left ..
    rw [← Nat.pow_add]
    congr 1
    omega
  rw [e]
  exact Nat.mul_div_cancel_left _ (cnt_pos hg (o.append o'))
theorem idx_chain (g : Gr) (a b c : List (Int × Int)) : idx g a b * idx g (a ++ b) c = idx g a (b ++ c) := by
  unfold idx
  rw [wprod_mul]
  refine wprod_congr fun x hx => ?_
  show x.1 ^ _ * x.1 ^ _ = x.1 ^ _
  rw [← Nat.pow_add]
  congr 1
  rw [List.append_assoc, st_append, st_append, st_append]
  omega
/-! ### elements -/
theorem flatMap_congrL {α β : Type} {f h : α → List β} : ∀ {l : List α}, (∀ x ∈ l, f x = h x) → l.flatMap f = l.flatMap h
  | [], _ => rfl
  | x :: l, q => by rw [List.flatMap_cons, List.flatMap_cons, q x (List.mem_cons_self ..), flatMap_congrL fun y hy => q y (List.mem_cons_of_mem _ hy)]
def trimR : List Nat → List Nat := fun r => (r.reverse.dropWhile (· == 0)).reverse
def splitR : Gr → List Nat → List (List Nat)
  | [], _ => []
  | (_, _, c) :: g, r => trimR (r.take c) :: splitR g (r.drop c)
def elemStep (E : List (List (List Nat))) (x : Nat × Nat × Nat) : List (List (List Nat)) := E.flatMap fun e => (rowsL (List.replicate x.2.2 (x.1 ^ x.2.1))).map fun r => e ++ [trimR r]
theorem elems_fold : ∀ (g : Gr) (E : List (List (List Nat))), g.foldl elemStep E = E.flatMap fun e => (rowsL (modL g)).map fun r => e ++ splitR g r
  | [], E => by
    simp only [List.foldl_nil, modL, rowsL, List.map_cons, List.map_nil, splitR, List.append_nil]
    induction E with
    | nil => rfl
    | cons r R ih => rw [List.flatMap_cons, ← ih]; rfl
  | (p, n, c) :: g, E => by
    rw [List.foldl_cons, elems_fold g, elemStep, List.flatMap_assoc]
    congr 1
    funext e
    rw [modL, rows_append, List.map_flatMap, List.flatMap_map]
    refine flatMap_congrL ?_
    intro r hr
    rw [List.map_map]
    have hl : r.length = c := by rw [rows_len hr, List.length_replicate]
    refine List.map_congr_left fun t _ => ?_
    show _ = e ++ splitR ((p, n, c) :: g) (r ++ t)
    rw [splitR, ← hl, List.take_left, List.drop_left, List.append_assoc]
    rfl
end Mini

set_option maxRecDepth 100000
set_option maxHeartbeats 2000000
namespace Mini
/-! ### dicts of summands -/
abbrev Dc := List ((Nat × Nat) × Nat)
def dgetP : Dc → Nat × Nat → Nat
  | [], _ => 0
  | (k, v) :: r, q => if k = q then v else dgetP r q
def daddP : Dc → Nat × Nat → Nat → Dc
  | [], q, c => [(q, c)]
  | (k, v) :: r, q, c => if k = q then (k, v + c) :: r else (k, v) :: daddP r q c
def tri (x : (Nat × Nat) × Nat) : Nat × Nat × Nat := (x.1.1, x.1.2, x.2)
def keysP (d : Dc) : List (Nat × Nat) := d.map (·.1)
structure DI (B L : Nat) (d : Dc) : Prop where
  nd : (keysP d).Nodup
  ok : ∀ x ∈ d, PN x.1.1 x.1.2 ∧ 1 ≤ x.2 ∧ x.2 ≤ B
  len : d.length ≤ L
theorem DI.nil {B L : Nat} : DI B L [] := ⟨List.nodup_nil, fun x hx => (List.not_mem_nil hx).elim, Nat.zero_le _⟩
theorem DI.mono {B L B' L' : Nat} {d : Dc} (h : DI B L d) (hB : B ≤ B') (hL : L ≤ L') : DI B' L' d := ⟨h.nd, fun x hx => ⟨(h.ok x hx).1, (h.ok x hx).2.1, Nat.le_trans (h.ok x hx).2.2 hB⟩, Nat.le_trans h.len hL⟩
theorem dadd_keys : ∀ (d : Dc) (q : Nat × Nat) (c : Nat), ∀ x ∈ keysP (daddP d q c), x = q ∨ x ∈ keysP d
  | [], q, c, x, h => by
    left
    simpa [keysP, daddP] using h
  | (k, v) :: r, q, c, x, h => by
    unfold daddP at h
    split at h
    · right; exact h
    · rcases List.mem_cons.mp h with h | h
      · right; rw [h]; exact List.mem_cons_self ..
      · rcases dadd_keys r q c x h with h | h
        · exact .inl h
        · exact .inr (List.mem_cons_of_mem _ h)
theorem dadd_nodup : ∀ {d : Dc} {q : Nat × Nat} {c : Nat}, (keysP d).Nodup → (keysP (daddP d q c)).Nodup
  | [], q, c, _ => by simp [keysP, daddP]
  | (k, v) :: r, q, c, h => by
    have h' : k ∉ keysP r ∧ (keysP r).Nodup := List.nodup_cons.mp h
    unfold daddP
    split
    · exact h
    · rename_i ne
      refine List.nodup_cons.mpr ⟨fun hk => ?_, dadd_nodup h'.2⟩
      rcases dadd_keys r q c k hk with e | e
      · exact ne e
      · exact h'.1 e
theorem dadd_mem : ∀ {d : Dc} {q : Nat × Nat} {c : Nat}, ∀ x ∈ daddP d q c, x ∈ d ∨ (x.1 = q ∧ c ≤ x.2 ∧ (x.2 = c ∨ ∃ y ∈ d, x.2 = y.2 + c))
  | [], q, c, x, h => by
    simp only [daddP, List.mem_singleton] at h
    right
    rw [h]
    exact ⟨rfl, Nat.le_refl _, .inl rfl⟩
  | (k, v) :: r, q, c, x, h => by
    unfold daddP at h
    split at h
    · rename_i e
      rcases List.mem_cons.mp h with h | h
      · right
        rw [h]
        exact ⟨e, Nat.le_add_left .., .inr ⟨(k, v), List.mem_cons_self .., rfl⟩⟩
      · left; exact List.mem_cons_of_mem _ h
    · rcases List.mem_cons.mp h with h | h
      · left; rw [h]; exact List.mem_cons_self ..
      · rcases dadd_mem x h with h | ⟨h1, h2, h3⟩
        · left; exact List.mem_cons_of_mem _ h
        · right
          refine ⟨h1, h2, h3.elim .inl fun ⟨y, hy, e⟩ => .inr ⟨y, List.mem_cons_of_mem _ hy, e⟩⟩
theorem dadd_len : ∀ {d : Dc} {q : Nat × Nat} {c : Nat}, (daddP d q c).length ≤ d.length + 1
  | [], q, c => Nat.le_refl _
  | (k, v) :: r, q, c => by
    unfold daddP
    split
    · exact Nat.le_succ _
    · exact Nat.succ_le_succ dadd_len
theorem DI.add {B L c : Nat} {d : Dc} {q : Nat × Nat} (h : DI B L d) (hq : PN q.1 q.2) (hc : 1 ≤ c) : DI (B + c) (L + 1) (daddP d q c) := by
  refine ⟨dadd_nodup h.nd, fun x hx => ?_, Nat.le_trans dadd_len (Nat.succ_le_succ h.len)⟩
  rcases dadd_mem x hx with hx | ⟨e, h2, h3⟩
  · have o := h.ok x hx
    exact ⟨o.1, o.2.1, by omega⟩
  · refine ⟨e ▸ hq, by omega, ?_⟩
    rcases h3 with e | ⟨y, hy, e⟩
    · omega
    · have := (h.ok y hy).2.2
      omega
theorem wprod_add (w : Nat → Nat → Nat) : ∀ (d : Dc) (q : Nat × Nat) (c : Nat), wprod w ((daddP d q c).map tri) = w q.1 q.2 ^ c * wprod w (d.map tri)
  | [], q, c => rfl
  | (k, v) :: r, q, c => by
    unfold daddP
    split
    · rename_i e
      rw [e]
      show w q.1 q.2 ^ (v + c) * wprod w (r.map tri) = w q.1 q.2 ^ c * (w q.1 q.2 ^ v * wprod w (r.map tri))
      rw [Nat.pow_add]
      ac_rfl
    · show w k.1 k.2 ^ v * wprod w ((daddP r q c).map tri) = w q.1 q.2 ^ c * (w k.1 k.2 ^ v * wprod w (r.map tri))
      rw [wprod_add w r q c]
      ac_rfl
def leK (x y : (Nat × Nat) × Nat) : Bool := decide (x.1.1 < y.1.1) || (decide (x.1.1 = y.1.1) && decide (x.1.2 ≤ y.1.2))
def sortG (d : Dc) : Gr := (d.mergeSort leK).map tri
def ltT (x y : Nat × Nat × Nat) : Prop := x.1 < y.1 ∨ (x.1 = y.1 ∧ x.2.1 < y.2.1)
structure NG (g : Gr) : Prop where
  ok : okG g
  cop : ∀ x ∈ g, 1 ≤ x.2.2 ∧ x.2.2 ≤ 1000
  asc : g.Pairwise ltT
  len : g.length ≤ 12
theorem leK_trans (a b c : (Nat × Nat) × Nat) (h : leK a b = true) (h' : leK b c = true) : leK a c = true := by
  simp only [leK, Bool.or_eq_true, Bool.and_eq_true, decide_eq_true_eq] at h h' ⊢
  omega
theorem leK_total (a b : (Nat × Nat) × Nat) : (leK a b || leK b a) = true := by
  simp only [leK, Bool.or_eq_true, Bool.and_eq_true, decide_eq_true_eq]
  omega
theorem NG_sort {d : Dc} (h : DI 1000 12 d) : NG (sortG d) := by
  have pm : (d.mergeSort leK).Perm d := List.mergeSort_perm ..
  have mm : ∀ x ∈ sortG d, ∃ y ∈ d, x = tri y := fun x hx => by
    obtain ⟨y, hy, e⟩ := List.mem_map.mp hx
    exact ⟨y, pm.mem_iff.mp hy, e.symm⟩
  refine ⟨fun x hx => ?_, fun x hx => ?_, ?_, ?_⟩
  · obtain ⟨y, hy, rfl⟩ := mm x hx
    exact (h.ok y hy).1
  · obtain ⟨y, hy, rfl⟩ := mm x hx
    exact (h.ok y hy).2
  · have s : (d.mergeSort leK).Pairwise (fun a b => leK a b = true) := List.pairwise_mergeSort leK_trans leK_total d
    have nd : (keysP (d.mergeSort leK)).Nodup := (List.Perm.map (fun x : (Nat × Nat) × Nat => x.1) pm).nodup_iff.mpr h.nd
    refine List.pairwise_map.mpr ?_
    have nd' : (d.mergeSort leK).Pairwise (fun a b => a.1 ≠ b.1) := List.pairwise_map.mp nd
    refine (s.and nd').imp fun {a b} q => ?_
    obtain ⟨q1, q2⟩ := q
    simp only [leK, Bool.or_eq_true, Bool.and_eq_true, decide_eq_true_eq] at q1
    show a.1.1 < b.1.1 ∨ (a.1.1 = b.1.1 ∧ a.1.2 < b.1.2)
    have q2' : ¬ (a.1.1 = b.1.1 ∧ a.1.2 = b.1.2) := fun ⟨u, v⟩ => q2 (Prod.ext u v)
    omega
  · unfold sortG
    rw [List.length_map, pm.length_eq]
    exact h.len
theorem wprod_sort (w : Nat → Nat → Nat) (d : Dc) : wprod w (sortG d) = wprod w (d.map tri) := wprod_perm w ((List.mergeSort_perm d leK).map tri)
theorem dget_mem : ∀ {d : Dc} {x : (Nat × Nat) × Nat}, (keysP d).Nodup → x ∈ d → dgetP d x.1 = x.2
  | (k, v) :: r, x, nd, h => by
    have nd' : k ∉ keysP r ∧ (keysP r).Nodup := List.nodup_cons.mp nd
    rcases List.mem_cons.mp h with h | h
    · rw [h]; simp [dgetP]
    · unfold dgetP
      have ne : ¬ k = x.1 := fun e => nd'.1 (e ▸ List.mem_map_of_mem (f := fun x : (Nat × Nat) × Nat => x.1) h)
      rw [if_neg ne, dget_mem nd'.2 h]
/-- by its keys in order -/
theorem sortG_keys {d : Dc} (nd : (keysP d).Nodup) : ((keysP d).mergeSort fun a b => decide (a.1 < b.1) || (decide (a.1 = b.1) && decide (a.2 ≤ b.2))).map (fun k => (k.1, k.2, dgetP d k)) = sortG d := by
  have e : (keysP d).mergeSort (fun a b => decide (a.1 < b.1) || (decide (a.1 = b.1) && decide (a.2 ≤ b.2))) = (d.mergeSort leK).map (·.1) := by
    unfold keysP
    exact (List.map_mergeSort (f := fun x : (Nat × Nat) × Nat => x.1) fun a _ b _ => rfl).symm
  rw [e, List.map_map]
  unfold sortG
  refine List.map_congr_left fun x hx => ?_
  have hx' := (List.mergeSort_perm d leK).mem_iff.mp hx
  show (x.1.1, x.1.2, dgetP d x.1) = tri x
  rw [dget_mem nd hx']
  rfl
def addAll (d : Dc) (g : Gr) : Dc := g.foldl (fun d x => daddP d (x.1, x.2.1) x.2.2) d
theorem addAll_wprod (w : Nat → Nat → Nat) : ∀ (g : Gr) (d : Dc), wprod w ((addAll d g).map tri) = wprod w (d.map tri) * wprod w g
  | [], d => by simp [addAll, wprod]
  | (p, n, c) :: g, d => by
    show wprod w ((addAll (daddP d (p, n) c) g).map tri) = _
    rw [addAll_wprod w g, wprod_add, wprod]
    ac_rfl
theorem addAll_DI : ∀ {g : Gr} {d : Dc} {B L C : Nat}, DI B L d → okG g → (∀ x ∈ g, 1 ≤ x.2.2 ∧ x.2.2 ≤ C) → DI (B + C * g.length) (L + g.length) (addAll d g)
  | [], d, B, L, C, h, _, _ => by simpa [addAll] using h
  | (p, n, c) :: g, d, B, L, C, h, o, hc => by
    have h1 := hc (p, n, c) (List.mem_cons_self ..)
    have h2 : DI (B + c) (L + 1) (daddP d (p, n) c) := h.add (o (p, n, c) (List.mem_cons_self ..)) h1.1
    have h3 := addAll_DI (g := g) (C := C) h2 (fun x hx => o x (List.mem_cons_of_mem _ hx)) fun x hx => hc x (List.mem_cons_of_mem _ hx)
    refine h3.mono ?_ (by rw [List.length_cons]; omega)
    rw [List.length_cons, Nat.mul_succ]
    have : c ≤ C := h1.2
    omega
def sumG (g h : Gr) : Gr := sortG (addAll [] (g ++ h))
theorem wprod_append (w : Nat → Nat → Nat) : ∀ (g h : Gr), wprod w (g ++ h) = wprod w g * wprod w h
  | [], h => by simp [wprod]
  | (p, n, c) :: g, h => by
    show w p n ^ c * wprod w (g ++ h) = w p n ^ c * wprod w g * wprod w h
    rw [wprod_append w g h, Nat.mul_assoc]
theorem sumG_wprod (w : Nat → Nat → Nat) (g h : Gr) : wprod w (sumG g h) = wprod w g * wprod w h := by
  unfold sumG
  rw [wprod_sort, addAll_wprod, wprod_append]
  simp [wprod]
end Mini

set_option maxRecDepth 100000
set_option maxHeartbeats 2000000
namespace Mini
/-! ### wholes and towers -/
def lcI (a b : Int) : Int := if b = 0 ∨ a = 0 then 0 else a * b / ((Int.gcd a b : Nat) : Int)
def ownI (x : Int × Int) : Int := x.1 / ((Int.gcd x.1 x.2 : Nat) : Int)
def wstF (a : Int) (x : Int × Int) : Int := if x.2 = 0 then a else lcI a (ownI x)
def wst (s : List (Int × Int)) : Int := s.foldl wstF 1
def D72 : List Int := [0, 1, 2, 3, 4, 6, 8, 9, 12, 18, 24, 36, 72]
theorem fin72 : ∀ a ∈ D72, ∀ b ∈ Bs, ∀ f ∈ Fs, wstF a (b, f) ∈ D72 ∧ ownI (b, f) ∈ Bs := by decide +kernel
theorem wst_from : ∀ {s : List (Int × Int)} {a : Int}, okS s → a ∈ D72 → s.foldl wstF a ∈ D72
  | [], a, _, h => h
  | x :: s, a, o, h => wst_from (s := s) (fun y hy => o y (List.mem_cons_of_mem _ hy)) (fin72 a h x.1 (o x (List.mem_cons_self ..)).1 x.2 (o x (List.mem_cons_self ..)).2).1
theorem wst_mem {s : List (Int × Int)} (o : okS s) : wst s ∈ D72 := wst_from o (by decide)
theorem wst_append (s t : List (Int × Int)) : wst (s ++ t) = t.foldl wstF (wst s) := List.foldl_append ..
theorem wst_zero : ∀ {s : List (Int × Int)}, s.foldl wstF 0 = 0
  | [] => rfl
  | x :: s => by
    have : wstF 0 x = 0 := by
      unfold wstF lcI
      split <;> simp
    rw [List.foldl_cons, this, wst_zero]
def isC (x : Int × Int) : Bool := decide (x.1 = 0) && !decide (x.2 = 0)
def vl (p : Nat) (x : Int × Int) : Nat := pin p 8 x.2
def tstF (p : Nat) (a : Option Nat) (x : Int × Int) : Option Nat := if isC x = true then some (match a with | none => vl p x | some a => min a (vl p x)) else a
def tst (p : Nat) (s : List (Int × Int)) : Option Nat := s.foldl (tstF p) none
theorem tst_from (p : Nat) : ∀ (s : List (Int × Int)) (a : Nat), ∃ b, s.foldl (tstF p) (some a) = some b ∧ b ≤ a
  | [], a => ⟨a, rfl, Nat.le_refl _⟩
  | x :: s, a => by
    rw [List.foldl_cons]
    unfold tstF
    split
    · obtain ⟨b, e, h⟩ := tst_from p s (min a (vl p x))
      exact ⟨b, e, Nat.le_trans h (Nat.min_le_left ..)⟩
    · exact tst_from p s a
theorem tst_append {p : Nat} {s t : List (Int × Int)} {a : Nat} (h : tst p s = some a) : ∃ b, tst p (s ++ t) = some b ∧ b ≤ a := by
  unfold tst at h ⊢
  rw [List.foldl_append, h]
  exact tst_from p t a
theorem vl_le {p : Nat} {x : Int × Int} : vl p x ≤ 8 := by
  have : ∀ n v, pin p n v ≤ n := by
    intro n
    induction n with
    | zero => intro v; exact Nat.le_refl _
    | succ n ih =>
      intro v
      unfold pin
      split
      · exact Nat.succ_le_succ (ih _)
      · exact Nat.zero_le _
  exact this 8 x.2
theorem tst_le {p : Nat} : ∀ {s : List (Int × Int)} {a : Option Nat} {b : Nat}, (∀ c, a = some c → c ≤ 8) → s.foldl (tstF p) a = some b → b ≤ 8
  | [], a, b, h, e => h b e
  | x :: s, a, b, h, e => by
    refine tst_le (s := s) (a := tstF p a x) (fun c hc => ?_) e
    unfold tstF at hc
    split at hc
    · cases a with
      | none => cases hc; exact vl_le
      | some a => cases hc; exact Nat.le_trans (Nat.min_le_left ..) (h a rfl)
    · exact h c hc
end Mini

set_option maxRecDepth 100000
set_option maxHeartbeats 2000000
namespace Mini
open PySem L2 Evl
/-! ### evaluation: rules for simp -/
abbrev WW : Nat := 2000
theorem R.of_ok {α : Type} (a : α) (g : G) : R.of (some a) g = R.ok a g := rfl
section
variable {α β : Type}
@[simp] theorem q_bind (a : α) (g : G) (k : α → G → R β) : (R.ok a g).bind k = k a g := Eq.trans rfl rfl
@[simp] theorem q_of (a : α) (g : G) : R.of (some a) g = R.ok a g := Eq.trans rfl rfl
@[simp] theorem q_nox (a : α) (g : G) : R.noX (R.ok a g) = R.ok a g := Eq.trans rfl rfl
@[simp] theorem q_asB (b : Bool) (g : G) : asB (.bool b) g = .ok b g := Eq.trans rfl rfl
@[simp] theorem q_asI (b : Int) (g : G) : asI (.int b) g = .ok b g := Eq.trans rfl rfl
theorem q_ite (c : Prop) [Decidable c] (a b : α) (g : G) (k : α → G → R β) : (if c then R.ok a g else R.ok b g).bind k = if c then k a g else k b g := by split <;> rfl
end
def varD : Option (Option Ent) → G → R D
  | some (some (.frz d)), g => .ok d g
  | _, _ => .stuck
@[simp] theorem varD_frz (d : D) (g : G) : varD (some (some (.frz d))) g = .ok d g := Eq.trans rfl rfl
section
variable (call : Nat → List D → G → R D) (W : Nat) (ρ : Env1) (g : G)
@[simp] theorem e_cst (d : D) : evE call (.cst d) ρ g = .ok d g := by rw [evE]
@[simp] theorem e_var (i : Nat) : evE call (.var i) ρ g = varD ρ[i]? g := by
  rw [evE]
  rcases ρ[i]? with _ | _ | x
  · rfl
  · rfl
  · cases x <;> rfl
@[simp] theorem e_tup (es : MA) : evE call (.tup es) ρ g = (evA call es ρ g).bind fun ds g1 => if ds.length ≤ sizeLine then .ok (.tuple ds) g1 else .stuck := by rw [evE]
@[simp] theorem e_lst (es : MA) : evE call (.lst es) ρ g = (evA call es ρ g).bind fun ds g1 => if ds.length ≤ sizeLine then .ok (.list ds) g1 else .stuck := by rw [evE]
@[simp] theorem e_bin (o : BO) (a b : ME) : evE call (.bin o a b) ρ g = (evE call a ρ g).bind fun x g1 => (evE call b ρ g1).bind fun y g2 => R.of (binD o x y) g2 := by rw [evE]
@[simp] theorem e_neg (a : ME) : evE call (.neg a) ρ g = (evE call a ρ g).bind fun x g1 => (asI x g1).bind fun i g2 => .ok (.int (-i)) g2 := by rw [evE]
@[simp] theorem e_cmp (o : CO) (a b : ME) : evE call (.cmp o a b) ρ g = (evE call a ρ g).bind fun x g1 => (evE call b ρ g1).bind fun y g2 => (R.of (cmpD o x y) g2).bind fun c g3 => .ok (.bool c) g3 := by rw [evE]
@[simp] theorem e_chain (o o' : CO) (a b c : ME) : evE call (.chain o o' a b c) ρ g = (evE call a ρ g).bind fun x g1 => (evE call b ρ g1).bind fun y g2 => (R.of (cmpD o x y) g2).bind fun k g3 =>
      if k = true then (evE call c ρ g3).bind fun z g4 => (R.of (cmpD o' y z) g4).bind fun k2 g5 => .ok (.bool k2) g5 else .ok (.bool false) g3 := by rw [evE]
@[simp] theorem e_and (a b : ME) : evE call (.and a b) ρ g = (evE call a ρ g).bind fun x g1 => (asB x g1).bind fun k g2 => if k = true then (evE call b ρ g2).bind fun y g3 => (asB y g3).bind fun k2 g4 => .ok (.bool k2) g4 else .ok (.bool false) g2 := by rw [evE]
@[simp] theorem e_or (a b : ME) : evE call (.or a b) ρ g = (evE call a ρ g).bind fun x g1 => (asB x g1).bind fun k g2 => if k = true then .ok (.bool true) g2 else (evE call b ρ g2).bind fun y g3 => (asB y g3).bind fun k2 g4 => .ok (.bool k2) g4 := by rw [evE]
@[simp] theorem e_not (a : ME) : evE call (.not a) ρ g = (evE call a ρ g).bind fun x g1 => (asB x g1).bind fun k g2 => .ok (.bool (!k)) g2 := by rw [evE]
@[simp] theorem e_ifx (c a b : ME) : evE call (.ifx c a b) ρ g = (evE call c ρ g).bind fun x g1 => (asB x g1).bind fun k g2 => if k = true then evE call a ρ g2 else evE call b ρ g2 := by rw [evE]
@[simp] theorem e_ix (a b : ME) : evE call (.ix a b) ρ g = (evE call a ρ g).bind fun x g1 => (evE call b ρ g1).bind fun y g2 => R.of (ixD x y) g2 := by rw [evE]
@[simp] theorem e_sl (a : ME) (lo hi : MO) : evE call (.sl a lo hi) ρ g = (evE call a ρ g).bind fun x g1 => (evO call lo ρ g1).bind fun l g2 => (evO call hi ρ g2).bind fun h g3 => R.of (slD x l h) g3 := by rw [evE]
@[simp] theorem e_call (f : Nat) (es : MA) : evE call (.call f es) ρ g = (evA call es ρ g).bind fun ds g1 => call f ds g1 := by rw [evE]
@[simp] theorem e_blt (b : BI) (es : MA) : evE call (.blt b es) ρ g = (evA call es ρ g).bind fun ds g1 => R.of (bltD b ds) g1 := by rw [evE]
@[simp] theorem e_isi (t : TY) (a : ME) : evE call (.isi t a) ρ g = (evE call a ρ g).bind fun x g1 => if nod x = true then .ok (.bool (isiD t x)) g1 else .stuck := by rw [evE]
@[simp] theorem e_nil : evA call .nil ρ g = .ok [] g := by rw [evA]
@[simp] theorem e_cons (e : ME) (r : MA) : evA call (.cons e r) ρ g = (evE call e ρ g).bind fun d g1 => (evA call r ρ g1).bind fun ds g2 => .ok (d :: ds) g2 := by rw [evA]
@[simp] theorem e_no : evO call .no ρ g = .ok none g := by rw [evO]
@[simp] theorem e_so (e : ME) : evO call (.so e) ρ g = (evE call e ρ g).bind fun x g1 => (asI x g1).bind fun i g2 => .ok (some i) g2 := by rw [evO]
def seqLD : D → G → R (List D)
  | .list xs, g => .ok xs g
  | _, _ => .stuck
def seqTD : D → G → R (List D)
  | .tuple xs, g => .ok xs g
  | _, _ => .stuck
@[simp] theorem seqL_list (xs : List D) : seqLD (.list xs) g = .ok xs g := Eq.trans rfl rfl
@[simp] theorem seqT_tup (xs : List D) : seqTD (.tuple xs) g = .ok xs g := Eq.trans rfl rfl
@[simp] theorem e_seqL (e : ME) : evI call (.seqL e) ρ g = (evE call e ρ g).bind seqLD := by
  rw [evI]
  congr 1
  funext x g1
  cases x <;> rfl
@[simp] theorem e_seqT (e : ME) : evI call (.seqT e) ρ g = (evE call e ρ g).bind seqTD := by
  rw [evI]
  congr 1
  funext x g1
  cases x <;> rfl
def rngR (lo hi : Int) (g : G) : R (List D) := if -(2 ^ 62) ≤ lo ∧ lo < 2 ^ 62 ∧ -(2 ^ 62) ≤ hi ∧ hi < 2 ^ 62 then .ok (rngD lo (hi - lo).toNat) g else .stuck
@[simp] theorem e_rng1 (e : ME) : evI call (.rng1 e) ρ g = (evE call e ρ g).bind fun x g1 => (asI x g1).bind fun j g2 => rngR 0 j g2 := by
  rw [evI]
  unfold rngR
  simp only [Int.sub_zero]
  congr 1
  funext x g1
  congr 1
  funext j g2
  have : (-(2 ^ 62) ≤ j ∧ j < 2 ^ 62) ↔ (-(2 ^ 62) ≤ (0 : Int) ∧ (0 : Int) < 2 ^ 62 ∧ -(2 ^ 62) ≤ j ∧ j < 2 ^ 62) := by omega
  by_cases h : (-(2 ^ 62) ≤ j ∧ j < 2 ^ 62)
  · rw [if_pos h, if_pos (this.mp h)]
  · rw [if_neg h, if_neg fun q => h (this.mpr q)]
@[simp] theorem e_rng2 (a b : ME) : evI call (.rng2 a b) ρ g = (evE call a ρ g).bind fun x g1 => (evE call b ρ g1).bind fun y g2 => (asI x g2).bind fun i g3 => (asI y g3).bind fun j g4 => rngR i j g4 := by
  rw [evI]
  rfl
theorem rngR_nat (n : Nat) (h : n < 2 ^ 62) : rngR 0 (n : Int) g = .ok (rngD 0 n) g := by
  unfold rngR
  rw [if_pos (by omega)]
  congr 2
def zipTD : D → D → G → R (List D)
  | .tuple xs, .tuple ys, g => .ok (zipD xs ys) g
  | _, _, _ => .stuck
@[simp] theorem zipT_tt (xs ys : List D) : zipTD (.tuple xs) (.tuple ys) g = .ok (zipD xs ys) g := Eq.trans rfl rfl
@[simp] theorem e_zipT (a b : ME) : evI call (.zipT a b) ρ g = (evE call a ρ g).bind fun x g1 => (evE call b ρ g1).bind fun y g2 => zipTD x y g2 := by
  rw [evI]
  congr 1
  funext x g1
  congr 1
  funext y g2
  cases x <;> cases y <;> rfl
def lcE (own : List Nat) (t : MT) (test elt : ME) (x : D) (g : G) : R (Option D) := (R.of (setT t x (wipe1 own ρ)) g).bind fun ρ1 g1 => (evE call test ρ1 g1).bind fun b g2 => (asB b g2).bind fun k g3 =>
        if k = true then (evE call elt ρ1 g3).bind fun d g4 => .ok (some d) g4 else .ok none g3
theorem e_lc (own : List Nat) (t : MT) (it : MI) (test elt : ME) : evE call (.lc own t it test elt) ρ g = (evI call it ρ g).bind fun xs g1 => if xs.length < 1000000 then
      (R.noX (loopC (lcE call ρ own t test elt) xs g1)).bind fun ds g2 => .ok (.list ds) g2 else .stuck := by
  rw [evE]
  rfl
/-- a comprehension whose turns are known -/
theorem lc_go {call : Nat → List D → G → R D} {ρ : Env1} {g : G} {own : List Nat} {t : MT} {it : MI} {test elt : ME} {xs : List D} (F : D → Option D) (hi : evI call it ρ g = .ok xs g) (hl : xs.length < 1000000)
    (h : ∀ x ∈ xs, lcE call ρ own t test elt x g = .ok (F x) g) : evE call (.lc own t it test elt) ρ g = .ok (.list (xs.filterMap F)) g := by
  rw [e_lc, hi, q_bind, if_pos hl]
  have e : ∀ ys : List D, (∀ x ∈ ys, x ∈ xs) → loopC (lcE call ρ own t test elt) ys g = .ok (ys.filterMap F) g := by
    intro ys
    induction ys with
    | nil => intro _; rfl
    | cons y ys ih =>
      intro hy
      unfold loopC
      rw [h y (hy y (List.mem_cons_self ..)), q_bind, ih fun x hx => hy x (List.mem_cons_of_mem _ hx), q_bind, List.filterMap_cons]
      cases F y <;> rfl
  rw [e xs fun x hx => hx]
  rfl
/-- a comprehension without a test -/
theorem lc_map {call : Nat → List D → G → R D} {ρ : Env1} {g : G} {own : List Nat} {t : MT} {it : MI} {test elt : ME} {xs : List D} (F : D → D) (hi : evI call it ρ g = .ok xs g) (hl : xs.length < 1000000)
    (h : ∀ x ∈ xs, lcE call ρ own t test elt x g = .ok (some (F x)) g) : evE call (.lc own t it test elt) ρ g = .ok (.list (xs.map F)) g := by
  rw [lc_go (fun x => some (F x)) hi hl h]
  congr 2
  induction xs with
  | nil => rfl
  | cons x xs ih => simp
@[simp] theorem x_skip : exS call W .skip ρ g = .ok (.nx, ρ) g := by rw [exS]
noncomputable def seqR (call : Nat → List D → G → R D) (W : Nat) (b : MS) : Fl × Env1 → G → R (Fl × Env1)
  | (.nx, ρ), g => exS call W b ρ g
  | (f, ρ), g => .ok (f, ρ) g
@[simp] theorem seqR_nx (b : MS) : seqR call W b (.nx, ρ) g = exS call W b ρ g := Eq.trans rfl rfl
@[simp] theorem seqR_rt (b : MS) (d : D) : seqR call W b (.rt d, ρ) g = .ok (.rt d, ρ) g := Eq.trans rfl rfl
@[simp] theorem seqR_bk (b : MS) : seqR call W b (.bk, ρ) g = .ok (.bk, ρ) g := Eq.trans rfl rfl
@[simp] theorem seqR_ct (b : MS) : seqR call W b (.ct, ρ) g = .ok (.ct, ρ) g := Eq.trans rfl rfl
@[simp] theorem x_seq (a b : MS) : exS call W (.seq a b) ρ g = (exS call W a ρ g).bind (seqR call W b) := by
  rw [exS]
  congr 1
  funext x g1
  obtain ⟨f, r⟩ := x
  cases f <;> rfl
@[simp] theorem x_expr (e : ME) : exS call W (.expr e) ρ g = (evE call e ρ g).bind fun _ g1 => .ok (.nx, ρ) g1 := by rw [exS]
@[simp] theorem x_asg (t : MT) (e : ME) : exS call W (.asg t e) ρ g = (evE call e ρ g).bind fun d g1 => (R.of (setT t d ρ) g1).bind fun ρ1 g2 => .ok (.nx, ρ1) g2 := by rw [exS]
@[simp] theorem x_ret (e : ME) : exS call W (.ret e) ρ g = (evE call e ρ g).bind fun d g1 => .ok (.rt d, ρ) g1 := by rw [exS]
@[simp] theorem x_ife (c : ME) (a b : MS) : exS call W (.ife c a b) ρ g = (evE call c ρ g).bind fun x g1 => (asB x g1).bind fun k g2 => if k = true then exS call W a ρ g2 else exS call W b ρ g2 := by rw [exS]
@[simp] theorem x_raise (c : Nat) (e : ME) : exS call W (.raise c e) ρ g = (evE call e ρ g).bind fun d g1 => .exc c d g1 := by rw [exS]
@[simp] theorem x_newL (i : Nat) : exS call W (.newL i) ρ g = .ok (.nx, ρ.set i (some (.ownL []))) g := by rw [exS]
@[simp] theorem x_newD (i : Nat) : exS call W (.newD i) ρ g = .ok (.nx, ρ.set i (some (.ownD []))) g := by rw [exS]
noncomputable def forF (t : MT) (b : MS) (x : D) (ρ : Env1) (g : G) : R (Fl × Env1) := (R.of (setT t x ρ) g).bind fun ρ1 g1 => exS call W b ρ1 g1
theorem x_forr (t : MT) (it : MI) (b : MS) : exS call W (.forr t it b) ρ g = (evI call it ρ g).bind fun xs g1 => forR (forF call W t b) xs ρ g1 := by
  rw [exS]
  rfl
@[simp] theorem t_nm (i : Nat) (d : D) : setT (.nm i) d ρ = some (ρ.set i (some (.frz d))) := Eq.trans rfl rfl
@[simp] theorem t_tp (is : List Nat) (ds : List D) : setT (.tp is) (.tuple ds) ρ = setAll is ds ρ := Eq.trans rfl rfl
@[simp] theorem t_nil : setAll [] [] ρ = some ρ := Eq.trans rfl rfl
@[simp] theorem t_cons (i : Nat) (is : List Nat) (d : D) (ds : List D) : setAll (i :: is) (d :: ds) ρ = setAll is ds (ρ.set i (some (.frz d))) := Eq.trans rfl rfl
@[simp] theorem w_nil : wipe1 [] ρ = ρ := Eq.trans rfl rfl
@[simp] theorem w_cons (i : Nat) (is : List Nat) : wipe1 (i :: is) ρ = (wipe1 is ρ).set i none := Eq.trans rfl rfl
end
/-- a loop by its invariant: the turns so far, the surroundings -/
theorem for_go {call : Nat → List D → G → R D} {W : Nat} {t : MT} {it : MI} {b : MS} {ρ : Env1} {g : G} {xs : List D} (I : Nat → Env1 → Prop) (hi : evI call it ρ g = .ok xs g) (h0 : I 0 ρ)
    (h : ∀ (j : Nat) (hj : j < xs.length) ρ, I j ρ → ∃ ρ', forF call W t b xs[j] ρ g = .ok (.nx, ρ') g ∧ I (j + 1) ρ') : ∃ ρ', exS call W (.forr t it b) ρ g = .ok (.nx, ρ') g ∧ I xs.length ρ' := by
  rw [x_forr, hi, q_bind]
  have e : ∀ (ys : List D) (i : Nat) (ρ : Env1), I i ρ → xs.drop i = ys → i ≤ xs.length → ∃ ρ', forR (forF call W t b) ys ρ g = .ok (.nx, ρ') g ∧ I xs.length ρ' := by
    intro ys
    induction ys with
    | nil =>
      intro i ρ hI hd hl
      have : xs.length - i = 0 := by rw [← List.length_drop, hd]; rfl
      have : i = xs.length := by omega
      exact ⟨ρ, rfl, this ▸ hI⟩
    | cons y ys ih =>
      intro i ρ hI hd hl
      have hlt : i < xs.length := by
        have : xs.length - i = ys.length + 1 := by rw [← List.length_drop, hd]; rfl
        omega
      have hy : xs[i] = y := by
        have := List.drop_eq_getElem_cons hlt
        rw [hd] at this
        exact (List.cons.inj this).1.symm
      have hys : xs.drop (i + 1) = ys := by
        have := List.drop_eq_getElem_cons hlt
        rw [hd] at this
        exact (List.cons.inj this).2.symm
      obtain ⟨ρ1, e1, i1⟩ := h i hlt ρ hI
      obtain ⟨ρ2, e2, i2⟩ := ih (i + 1) ρ1 i1 hys hlt
      refine ⟨ρ2, ?_, i2⟩
      unfold forR
      rw [← hy, e1]
      exact e2
  exact e xs 0 ρ h0 (List.drop_zero) (Nat.zero_le _)
/-- a loop that folds -/
theorem for_fold {α β : Type} {call : Nat → List D → G → R D} {W : Nat} {t : MT} {it : MI} {b : MS} {ρ : Env1} {g : G} (enc : β → D) (J : α → Env1 → Prop) (step : α → β → α) (xs : List β) (a : α) (hi : evI call it ρ g = .ok (xs.map enc) g) (h0 : J a ρ)
    (h : ∀ a, ∀ x ∈ xs, ∀ ρ, J a ρ → ∃ ρ', forF call W t b (enc x) ρ g = .ok (.nx, ρ') g ∧ J (step a x) ρ') : ∃ ρ', exS call W (.forr t it b) ρ g = .ok (.nx, ρ') g ∧ J (xs.foldl step a) ρ' := by
  rw [x_forr, hi, q_bind]
  clear hi
  induction xs generalizing a ρ with
  | nil => exact ⟨ρ, rfl, h0⟩
  | cons x xs ih =>
    obtain ⟨ρ1, e1, i1⟩ := h a x (List.mem_cons_self ..) ρ h0
    obtain ⟨ρ2, e2, i2⟩ := ih (step a x) i1 fun a y hy => h a y (List.mem_cons_of_mem _ hy)
    refine ⟨ρ2, ?_, i2⟩
    rw [List.map_cons]
    unfold forR
    rw [e1]
    exact e2
/-- a loop that looks: it goes through where P holds, else it tells d -/
theorem for_all {β : Type} {call : Nat → List D → G → R D} {W : Nat} {t : MT} {it : MI} {b : MS} {ρ : Env1} {g : G} (enc : β → D) (J : Env1 → Prop) (P : β → Bool) (d : D) (xs : List β) (hi : evI call it ρ g = .ok (xs.map enc) g) (h0 : J ρ)
    (h : ∀ x ∈ xs, ∀ ρ, J ρ → ∃ ρ', J ρ' ∧ forF call W t b (enc x) ρ g = .ok (if P x = true then .nx else .rt d, ρ') g) : ∃ ρ', J ρ' ∧ exS call W (.forr t it b) ρ g = .ok (if xs.all P = true then .nx else .rt d, ρ') g := by
  rw [x_forr, hi, q_bind]
  clear hi
  induction xs generalizing ρ with
  | nil => exact ⟨ρ, h0, rfl⟩
  | cons x xs ih =>
    obtain ⟨ρ1, i1, e1⟩ := h x (List.mem_cons_self ..) ρ h0
    rw [List.map_cons]
    unfold forR
    rw [e1]
    cases hp : P x with
    | true =>
      obtain ⟨ρ2, i2, e2⟩ := ih i1 fun y hy => h y (List.mem_cons_of_mem _ hy)
      refine ⟨ρ2, i2, ?_⟩
      rw [List.all_cons, hp]
      exact e2
    | false =>
      refine ⟨ρ1, i1, ?_⟩
      rw [List.all_cons, hp]
      rfl
/-- a while by its measure -/
theorem whl_go {α : Type} {call : Nat → List D → G → R D} {W : Nat} {c : ME} {b : MS} {g : G} (env : α → Env1) (cond : α → Bool) (step : α → α) (P : α → Prop) (μ : α → Nat)
    (hc : ∀ a, P a → evE call c (env a) g = .ok (.bool (cond a)) g) (hb : ∀ a, P a → cond a = true → exS call W b (env a) g = .ok (.nx, env (step a)) g) (hP : ∀ a, P a → cond a = true → P (step a) ∧ μ (step a) < μ a)
    (a : α) (ha : P a) (hW : μ a < W) : ∃ a', P a' ∧ cond a' = false ∧ exS call W (.whl c b) (env a) g = .ok (.nx, env a') g := by
  have e : ∀ (n : Nat) (a : α), P a → μ a < n → ∃ a', P a' ∧ cond a' = false ∧ whileR (fun ρ g => (evE call c ρ g).bind fun x g1 => asB x g1) (fun ρ g => exS call W b ρ g) n (env a) g = .ok (.nx, env a') g := by
    intro n
    induction n with
    | zero => intro a _ h; omega
    | succ n ih =>
      intro a ha h
      unfold whileR
      rw [hc a ha]
      cases hk : cond a with
      | false => exact ⟨a, ha, hk, rfl⟩
      | true =>
        obtain ⟨p1, m1⟩ := hP a ha hk
        obtain ⟨a', p2, c2, e2⟩ := ih (step a) p1 (by omega)
        refine ⟨a', p2, c2, ?_⟩
        simp only [q_bind, q_asB, if_true, hb a ha hk]
        exact e2
  obtain ⟨a', p, c', e'⟩ := e W a ha hW
  refine ⟨a', p, c', ?_⟩
  rw [exS]
  exact e'
/-- a def by its body -/
theorem call_go {F : Fn} {k f : Nat} {ds : List D} {g g' : G} {d : D} {ρ' : Env1} (hF : tabK[f]? = some F) (hn : ds.length = F.np) (h : exS (callK tabK WW k) WW F.body (ds.map (fun d => some (.frz d)) ++ List.replicate (F.nN - F.np) none) g = .ok (.rt d, ρ') g') : callK tabK WW (k + 1) f ds g = .ok d g' := by
  show (match tabK[f]? with | some F => runB (callK tabK WW k) WW F ds g | none => .stuck) = _
  rw [hF]
  show runB (callK tabK WW k) WW F ds g = _
  unfold runB
  rw [if_pos hn, h]
  rfl
theorem call_nx {F : Fn} {k f : Nat} {ds : List D} {g g' : G} {ρ' : Env1} (hF : tabK[f]? = some F) (hn : ds.length = F.np) (h : exS (callK tabK WW k) WW F.body (ds.map (fun d => some (.frz d)) ++ List.replicate (F.nN - F.np) none) g = .ok (.nx, ρ') g') : callK tabK WW (k + 1) f ds g = .ok .none g' := by
  show (match tabK[f]? with | some F => runB (callK tabK WW k) WW F ds g | none => .stuck) = _
  rw [hF]
  show runB (callK tabK WW k) WW F ds g = _
  unfold runB
  rw [if_pos hn, h]
  rfl
end Mini

set_option maxRecDepth 100000
set_option maxHeartbeats 2000000
namespace Mini
open PySem L2 Evl
/-! ### operations -/
section
variable (i j : Int)
@[simp] theorem b_add : binD .add (.int i) (.int j) = some (.int (i + j)) := Eq.trans rfl rfl
@[simp] theorem b_sub : binD .sub (.int i) (.int j) = some (.int (i - j)) := Eq.trans rfl rfl
theorem b_mul (h : okMul i j = true) : binD .mul (.int i) (.int j) = some (.int (i * j)) := by simp [binD, h]
theorem b_mod (h : 0 < j) : binD .mod (.int i) (.int j) = some (.int (i % j)) := by simp [binD, h]
theorem b_fdiv (h : 0 < j) (h' : j.natAbs.log2 < 9000) : binD .fdiv (.int i) (.int j) = some (.int (i / j)) := by simp [binD, h, h']
theorem shaped_int : SeqAt.shaped (.int i) = true := rfl
@[simp] theorem k_eq : cmpD .eq (.int i) (.int j) = some (decide (i = j)) := by
  have : PyData.eqv (.int i) (.int j) = decide (i = j) := by rw [Bool.eq_iff_iff]; simp [PyData.eqv]
  simp [cmpD, shaped_int, this]
@[simp] theorem k_ne : cmpD .ne (.int i) (.int j) = some (!decide (i = j)) := by
  have : PyData.eqv (.int i) (.int j) = decide (i = j) := by rw [Bool.eq_iff_iff]; simp [PyData.eqv]
  simp [cmpD, shaped_int, this]
@[simp] theorem k_lt : cmpD .lt (.int i) (.int j) = some (decide (i < j)) := Eq.trans rfl rfl
@[simp] theorem k_le : cmpD .le (.int i) (.int j) = some (decide (i ≤ j)) := Eq.trans rfl rfl
@[simp] theorem k_gt : cmpD .gt (.int i) (.int j) = some (decide (j < i)) := Eq.trans rfl rfl
@[simp] theorem k_ge : cmpD .ge (.int i) (.int j) = some (decide (j ≤ i)) := Eq.trans rfl rfl
end
theorem okMul_l {i j : Int} (h1 : -(2 ^ 64) < i) (h2 : i < 2 ^ 64) : okMul i j = true := by
  unfold okMul
  rw [decide_eq_true h1, decide_eq_true h2]
  simp
theorem okMul_r {i j : Int} (h1 : -(2 ^ 64) < j) (h2 : j < 2 ^ 64) : okMul i j = true := by
  unfold okMul
  rw [decide_eq_true h1, decide_eq_true h2]
  simp
theorem log2_le {a x : Nat} (h : a < 2 ^ x) : a.log2 ≤ x := by
  rcases Nat.eq_zero_or_pos a with h0 | h0
  · rw [h0]; exact Nat.zero_le _
  · exact Nat.le_of_lt ((Nat.log2_lt (Nat.pos_iff_ne_zero.mp h0)).mpr h)
theorem okMul_n {a b x y : Nat} (h1 : a < 2 ^ x) (h2 : b < 2 ^ y) (h : x + y < 1000000) : okMul (a : Int) (b : Int) = true := by
  have e1 := log2_le h1
  have e2 := log2_le h2
  have : decide ((a : Int).natAbs.log2 + (b : Int).natAbs.log2 < 1000000) = true := decide_eq_true (by rw [Int.natAbs_natCast, Int.natAbs_natCast]; omega)
  simp only [okMul, this, Bool.or_true]
abbrev sR : Str := Str.ofString "ring"
abbrev sW : Str := Str.ofString "whole"
abbrev sF : Str := Str.ofString "fraction"
abbrev sT : Str := Str.ofString "tower"
abbrev sM : Str := Str.ofString "many"
theorem shaped_str {s : Str} (h : (PyData.str s).canLay0 = true) : SeqAt.shaped (.str s) = true := by
  unfold SeqAt.shaped
  rw [h]
  simp [PyData.depth]
def okStr (s : Str) : Bool := (PyData.str s).canLay0
@[simp] theorem okR : okStr (Str.ofString "ring") = true := by decide +kernel
@[simp] theorem okW : okStr (Str.ofString "whole") = true := by decide +kernel
@[simp] theorem okF : okStr (Str.ofString "fraction") = true := by decide +kernel
@[simp] theorem okT : okStr (Str.ofString "tower") = true := by decide +kernel
@[simp] theorem okM : okStr (Str.ofString "many") = true := by decide +kernel
theorem eqv_str (a b : Str) : PyData.eqv (.str a) (.str b) = decide (a = b) := by
  rw [Bool.eq_iff_iff]; simp [PyData.eqv]
@[simp] theorem k_eqS {a b : Str} (h : okStr a = true) (h' : okStr b = true) : cmpD .eq (.str a) (.str b) = some (decide (a = b)) := by
  simp [cmpD, shaped_str h, shaped_str h', eqv_str]
@[simp] theorem k_neS {a b : Str} (h : okStr a = true) (h' : okStr b = true) : cmpD .ne (.str a) (.str b) = some (!decide (a = b)) := by
  simp [cmpD, shaped_str h, shaped_str h', eqv_str]
@[simp] theorem k_eqIS {i : Int} {b : Str} (h' : okStr b = true) : cmpD .eq (.int i) (.str b) = some false := by
  simp [cmpD, shaped_int, shaped_str h', PyData.eqv]
@[simp] theorem k_eqSI {i : Int} {b : Str} (h' : okStr b = true) : cmpD .eq (.str b) (.int i) = some false := by
  simp [cmpD, shaped_int, shaped_str h', PyData.eqv]
@[simp] theorem k_neSI {i : Int} {b : Str} (h' : okStr b = true) : cmpD .ne (.str b) (.int i) = some true := by
  simp [cmpD, shaped_int, shaped_str h', PyData.eqv]
@[simp] theorem n_RW : (Str.ofString "ring" = Str.ofString "whole") = False := by simp only [eq_iff_iff, iff_false]; decide +kernel
@[simp] theorem n_RF : (Str.ofString "ring" = Str.ofString "fraction") = False := by simp only [eq_iff_iff, iff_false]; decide +kernel
@[simp] theorem n_RT : (Str.ofString "ring" = Str.ofString "tower") = False := by simp only [eq_iff_iff, iff_false]; decide +kernel
@[simp] theorem n_WR : (Str.ofString "whole" = Str.ofString "ring") = False := by simp only [eq_iff_iff, iff_false]; decide +kernel
@[simp] theorem n_WF : (Str.ofString "whole" = Str.ofString "fraction") = False := by simp only [eq_iff_iff, iff_false]; decide +kernel
@[simp] theorem n_WT : (Str.ofString "whole" = Str.ofString "tower") = False := by simp only [eq_iff_iff, iff_false]; decide +kernel
@[simp] theorem n_FR : (Str.ofString "fraction" = Str.ofString "ring") = False := by simp only [eq_iff_iff, iff_false]; decide +kernel
@[simp] theorem n_FW : (Str.ofString "fraction" = Str.ofString "whole") = False := by simp only [eq_iff_iff, iff_false]; decide +kernel
@[simp] theorem n_FT : (Str.ofString "fraction" = Str.ofString "tower") = False := by simp only [eq_iff_iff, iff_false]; decide +kernel
@[simp] theorem n_TR : (Str.ofString "tower" = Str.ofString "ring") = False := by simp only [eq_iff_iff, iff_false]; decide +kernel
@[simp] theorem n_TW : (Str.ofString "tower" = Str.ofString "whole") = False := by simp only [eq_iff_iff, iff_false]; decide +kernel
@[simp] theorem n_TF : (Str.ofString "tower" = Str.ofString "fraction") = False := by simp only [eq_iff_iff, iff_false]; decide +kernel
theorem len_le {α : Type} {l : List α} {n : Nat} (h : l.length ≤ n) (h' : n ≤ sizeLine) : l.length ≤ sizeLine := Nat.le_trans h h'
@[simp] theorem sl0 : (0 ≤ sizeLine) = True := by simp
@[simp] theorem sl1 : (1 ≤ sizeLine) = True := by simp [sizeLine]
@[simp] theorem sl2 : (2 ≤ sizeLine) = True := by simp [sizeLine]
@[simp] theorem sl3 : (3 ≤ sizeLine) = True := by simp [sizeLine]
@[simp] theorem x_len_t (a : List D) : bltD .len [.tuple a] = some (.int a.length) := Eq.trans rfl rfl
@[simp] theorem x_len_l (a : List D) : bltD .len [.list a] = some (.int a.length) := Eq.trans rfl rfl
@[simp] theorem x_tuple_l (a : List D) : bltD .tuple [.list a] = some (.tuple a) := Eq.trans rfl rfl
@[simp] theorem x_tuple_t (a : List D) : bltD .tuple [.tuple a] = some (.tuple a) := Eq.trans rfl rfl
@[simp] theorem x_list_l (a : List D) : bltD .list [.list a] = some (.list a) := Eq.trans rfl rfl
@[simp] theorem x_list_t (a : List D) : bltD .list [.tuple a] = some (.list a) := Eq.trans rfl rfl
@[simp] theorem x_int (i : Int) : bltD .int [.int i] = some (.int i) := Eq.trans rfl rfl
@[simp] theorem x_gcd (a b : Int) : bltD .gcd [.int a, .int b] = some (.int ((Nat.gcd a.natAbs b.natAbs : Nat) : Int)) := Eq.trans rfl rfl
@[simp] theorem x_abs (i : Int) : bltD .abs [.int i] = some (.int (if i < 0 then -i else i)) := Eq.trans rfl rfl
@[simp] theorem x_max2 (i j : Int) : bltD .max2 [.int i, .int j] = some (.int (if j > i then j else i)) := Eq.trans rfl rfl
@[simp] theorem x_min2 (i j : Int) : bltD .min2 [.int i, .int j] = some (.int (if j < i then j else i)) := Eq.trans rfl rfl
theorem boolsD_map {α : Type} (F : α → Bool) : ∀ xs : List α, boolsD (xs.map fun x => .bool (F x)) = some (xs.map F)
  | [] => rfl
  | x :: xs => by rw [List.map_cons, boolsD, boolsD_map F xs]; rfl
@[simp] theorem x_all {α : Type} (F : α → Bool) (xs : List α) : bltD .all [.list (xs.map fun x => .bool (F x))] = some (.bool (xs.all F)) := by
  show (boolsD _).map _ = _
  rw [boolsD_map]
  simp
@[simp] theorem x_any {α : Type} (F : α → Bool) (xs : List α) : bltD .any [.list (xs.map fun x => .bool (F x))] = some (.bool (xs.any F)) := by
  show (boolsD _).map _ = _
  rw [boolsD_map]
  simp
theorem intsD_map' : ∀ xs : List Int, intsD (xs.map .int) = some xs
  | [] => rfl
  | x :: xs => by rw [List.map_cons, intsD, intsD_map' xs]; rfl
@[simp] theorem nod_t0 : nod (.tuple []) = true := Eq.trans rfl rfl
theorem ix_tn (a : List D) (n : Nat) (h : n < a.length) : ixD (.tuple a) (.int (n : Int)) = some a[n] := by
  show atI a (n : Int) = _
  unfold atI
  simp [ixN, h]
theorem ix_ln (a : List D) (n : Nat) (h : n < a.length) : ixD (.list a) (.int (n : Int)) = some a[n] := by
  show atI a (n : Int) = _
  unfold atI
  simp [ixN, h]
@[simp] theorem ix_t0 (a : D) (r : List D) : ixD (.tuple (a :: r)) (.int 0) = some a := ix_tn (a :: r) 0 (Nat.succ_pos _)
@[simp] theorem ix_t1 (a b : D) (r : List D) : ixD (.tuple (a :: b :: r)) (.int 1) = some b := ix_tn (a :: b :: r) 1 (by simp)
@[simp] theorem ix_t2 (a b c : D) (r : List D) : ixD (.tuple (a :: b :: c :: r)) (.int 2) = some c := ix_tn (a :: b :: c :: r) 2 (by simp)
theorem nodL_map {α : Type} (F : α → D) (h : ∀ x, nod (F x) = true) : ∀ xs : List α, nodL (xs.map F) = true
  | [] => rfl
  | x :: xs => by rw [List.map_cons, nodL, h x, nodL_map F h xs]; rfl
/-! ### numbers and kinds -/
def ringD (p n : Nat) : D := .tuple [.str (Str.ofString "ring"), .int p, .int n]
def wholeD : D := .tuple [.str (Str.ofString "whole")]
def fracD : D := .tuple [.str (Str.ofString "fraction")]
def towD (p : Nat) : D := .tuple [.str (Str.ofString "tower"), .int p]
def isNumD (l u : Int) : D → Bool
  | .int v => decide (l ≤ v) && decide (v ≤ u)
  | _ => false
theorem c_is_number {k : Nat} (v : D) (l u : Int) (g : G) (hn : nod v = true) : callK tabK WW (k + 1) 0 [v, .int l, .int u] g = .ok (.bool (isNumD l u v)) g := by
  refine call_go (F := f_is_number) (ρ' := [some (.frz v), some (.frz (.int l)), some (.frz (.int u))]) rfl rfl ?_
  cases v with
  | int n => by_cases h : l ≤ n <;> by_cases h2 : n ≤ u <;> simp [f_is_number, hn, isiD, isNumD, h, h2]
  | _ => simp [f_is_number, hn, isiD, isNumD]
@[simp] theorem c_num {k : Nat} (v l u : Int) (g : G) : callK tabK WW (k + 1) 0 [.int v, .int l, .int u] g = .ok (.bool (decide (l ≤ v) && decide (v ≤ u))) g := c_is_number _ l u g rfl
theorem c_prime {k p : Nat} (h : p ∈ [2, 3, 5, 7]) (g : G) : callK tabK WW (k + 2) 1 [.int p] g = .ok (.bool true) g := by
  simp only [List.mem_cons, List.not_mem_nil, or_false] at h
  rcases h with rfl | rfl | rfl | rfl <;> rfl
end Mini

set_option maxRecDepth 100000
set_option maxHeartbeats 2000000
namespace Mini
open PySem L2 Evl
theorem c_ring_size {k : Nat} (p n : Nat) (g : G) (hp : p ≤ 1000000) (hn : n ≤ 1000) : callK tabK WW (k + 1) 3 [ringD p n] g = .ok (.int ((p ^ n : Nat) : Int)) g := by
  have body : ∃ ρ', exS (callK tabK WW k) WW (.forr (.nm 2) (.rng1 (.ix (.var 0) (.cst (PyData.int 2)))) (.asg (.nm 1) (.bin .mul (.var 1) (.ix (.var 0) (.cst (PyData.int 1)))))) [some (.frz (ringD p n)), some (.frz (.int 1)), none] g = .ok (.nx, ρ') g ∧ ∃ x, ρ' = [some (.frz (ringD p n)), some (.frz (.int ((p ^ (rngD 0 n).length : Nat) : Int))), x] := by
    refine for_go (xs := rngD 0 n) (fun i ρ => ∃ x, ρ = [some (.frz (ringD p n)), some (.frz (.int ((p ^ i : Nat) : Int))), x]) ?_ ⟨none, rfl⟩ ?_
    · simp [ringD, rngR_nat g n (by omega)]
    · rintro j hj ρ ⟨x, rfl⟩
      refine ⟨_, ?_, some (.frz (rngD 0 n)[j]), rfl⟩
      have := b_mul ((p ^ j : Nat) : Int) (p : Int) (okMul_r (by omega) (by omega))
      rw [← Int.natCast_mul, ← Nat.pow_succ] at this
      simp only [forF, t_nm, q_of, q_bind, x_asg, e_bin, e_var, e_ix, e_cst, List.set_cons_zero, List.set_cons_succ, List.getElem?_cons_zero, List.getElem?_cons_succ, varD_frz, ringD, ix_t1, this]
  obtain ⟨ρ', e, x, rfl⟩ := body
  rw [rngD_len] at e
  exact call_go (F := f_ring_size) (ρ' := [some (.frz (ringD p n)), some (.frz (.int ((p ^ n : Nat) : Int))), x]) rfl rfl (by
    simp only [f_ring_size, x_seq, x_asg, e_cst, q_bind, q_of, t_nm, List.map_cons, List.map_nil, List.replicate, List.nil_append, List.cons_append, List.set_cons_zero, List.set_cons_succ, seqR_nx, Nat.reduceSub, e, x_ret, e_var, List.getElem?_cons_zero, List.getElem?_cons_succ, varD_frz])
end Mini

set_option maxRecDepth 100000
set_option maxHeartbeats 2000000
namespace Mini
open PySem L2 Evl
theorem inn_str {s : Str} {ys : List Str} : cmpD .inn (.str s) (.tuple (ys.map .str)) = some (ys.any fun y => decide (y = s)) := by
  have h : ∀ ys : List Str, (ys.map PyData.str).all flatD = true := by
    intro ys
    induction ys with
    | nil => rfl
    | cons y ys ih => rw [List.map_cons, List.all_cons, ih]; rfl
  show (if flatD (.str s) = true ∧ (ys.map PyData.str).all flatD = true then some (inD (.str s) (ys.map .str)) else none) = _
  rw [if_pos ⟨rfl, h ys⟩]
  congr 1
  unfold inD
  rw [List.any_map]
  have e : ((fun y => y.eqv (PyData.str s)) ∘ PyData.str) = fun y => decide (y = s) := funext fun y => eqv_str y s
  rw [e]
@[simp] theorem inn_str2 {s a b : Str} : cmpD .inn (.str s) (.tuple [.str a, .str b]) = some (decide (a = s) || decide (b = s)) := by
  rw [show ([.str a, .str b] : List D) = [a, b].map .str from rfl, inn_str]
  simp
section
variable (p n : Nat)
@[simp] theorem kr0 : ixD (ringD p n) (.int 0) = some (.str (Str.ofString "ring")) := Eq.trans (ix_t0 _ _) rfl
@[simp] theorem kr1 : ixD (ringD p n) (.int 1) = some (.int p) := Eq.trans (ix_t1 _ _ _) rfl
@[simp] theorem kr2 : ixD (ringD p n) (.int 2) = some (.int n) := Eq.trans (ix_t2 _ _ _ _) rfl
@[simp] theorem krn : nod (ringD p n) = true := Eq.trans rfl rfl
@[simp] theorem krl : bltD .len [ringD p n] = some (.int 3) := Eq.trans rfl rfl
@[simp] theorem kri : isiD .tuple (ringD p n) = true := Eq.trans rfl rfl
@[simp] theorem krs : slD (ringD p n) (some 1) none = some (.tuple [.int p, .int n]) := Eq.trans rfl rfl
@[simp] theorem kt0 : ixD (towD p) (.int 0) = some (.str (Str.ofString "tower")) := Eq.trans (ix_t0 _ _) rfl
@[simp] theorem kt1 : ixD (towD p) (.int 1) = some (.int p) := Eq.trans (ix_t1 _ _ _) rfl
@[simp] theorem ktn : nod (towD p) = true := Eq.trans rfl rfl
@[simp] theorem ktl : bltD .len [towD p] = some (.int 2) := Eq.trans rfl rfl
@[simp] theorem kti : isiD .tuple (towD p) = true := Eq.trans rfl rfl
@[simp] theorem kts : slD (towD p) (some 1) none = some (.tuple [.int p]) := Eq.trans rfl rfl
@[simp] theorem kw0 : ixD wholeD (.int 0) = some (.str (Str.ofString "whole")) := Eq.trans (ix_t0 _ _) rfl
@[simp] theorem kwn : nod wholeD = true := Eq.trans rfl rfl
@[simp] theorem kwl : bltD .len [wholeD] = some (.int 1) := Eq.trans rfl rfl
@[simp] theorem kwi : isiD .tuple wholeD = true := Eq.trans rfl rfl
@[simp] theorem kws : slD wholeD (some 1) none = some (.tuple []) := Eq.trans rfl rfl
@[simp] theorem kf0 : ixD fracD (.int 0) = some (.str (Str.ofString "fraction")) := Eq.trans (ix_t0 _ _) rfl
@[simp] theorem kfn : nod fracD = true := Eq.trans rfl rfl
@[simp] theorem kfl : bltD .len [fracD] = some (.int 1) := Eq.trans rfl rfl
@[simp] theorem kfi : isiD .tuple fracD = true := Eq.trans rfl rfl
@[simp] theorem kfs : slD fracD (some 1) none = some (.tuple []) := Eq.trans rfl rfl
end
@[simp] theorem nodS (s : Str) : nod (.str s) = true := Eq.trans rfl rfl
@[simp] theorem nodI (s : Int) : nod (.int s) = true := Eq.trans rfl rfl
@[simp] theorem nodB (s : Bool) : nod (.bool s) = true := Eq.trans rfl rfl
@[simp] theorem isiSS (s : Str) : isiD .str (.str s) = true := Eq.trans rfl rfl
@[simp] theorem isiSI (s : Int) : isiD .str (.int s) = false := Eq.trans rfl rfl
@[simp] theorem isiII (s : Int) : isiD .int (.int s) = true := Eq.trans rfl rfl
@[simp] theorem isiIS (s : Str) : isiD .int (.str s) = false := Eq.trans rfl rfl
@[simp] theorem isiBI (s : Int) : isiD .bool (.int s) = false := Eq.trans rfl rfl
@[simp] theorem isiTI (s : Int) : isiD .tuple (.int s) = false := Eq.trans rfl rfl
@[simp] theorem isiTS (s : Str) : isiD .tuple (.str s) = false := Eq.trans rfl rfl
@[simp] theorem isiTT (s : List D) : isiD .tuple (.tuple s) = true := Eq.trans rfl rfl
theorem PN.small {p n : Nat} (h : PN p n) : p ≤ 7 ∧ n ≤ 3 ∧ 1 ≤ n ∧ 2 ≤ p ∧ p ^ n ≤ 343 := by
  obtain ⟨h1, h2⟩ := h
  simp only [List.mem_cons, List.not_mem_nil, or_false] at h1 h2
  rcases h1 with rfl | rfl | rfl | rfl <;> rcases h2 with rfl | rfl | rfl <;> decide
@[simp] theorem c_ring {k p n : Nat} (h : PN p n) (g : G) : callK tabK WW (k + 1) 3 [ringD p n] g = .ok (.int ((p ^ n : Nat) : Int)) g := c_ring_size p n g (by have := h.small; omega) (by have := h.small; omega)
theorem c_kind_ring {k p n : Nat} (h : PN p n) (g : G) : callK tabK WW (k + 3) 2 [ringD p n] g = .ok (.bool true) g := by
  refine call_go (F := f_is_kind) (ρ' := [some (.frz (ringD p n))]) rfl rfl ?_
  have e1 := c_prime (k := k) h.1 g
  have e2 : callK tabK WW (k + 2) 3 [ringD p n] g = _ := c_ring (k := k + 1) h g
  have s := h.small
  have q1 : (1 : Int) ≤ n := by omega
  have q2 : (n : Int) ≤ 20 := by omega
  have q3 : ((p : Int) ^ n) ≤ 1000000 := by
    rw [← Int.natCast_pow]
    omega
  have e3 : callK tabK WW (k + 2) 0 [PyData.int (n : Int), PyData.int 1, PyData.int 20] g = _ := c_num (k := k + 1) (n : Int) 1 20 g
  simp [f_is_kind, e1, e2, e3, q1, q2, q3]
theorem c_kind_whole {k : Nat} (g : G) : callK tabK WW (k + 3) 2 [wholeD] g = .ok (.bool true) g := by
  refine call_go (F := f_is_kind) (ρ' := [some (.frz wholeD)]) rfl rfl ?_
  simp [f_is_kind]
theorem c_kind_frac {k : Nat} (g : G) : callK tabK WW (k + 3) 2 [fracD] g = .ok (.bool true) g := by
  refine call_go (F := f_is_kind) (ρ' := [some (.frz fracD)]) rfl rfl ?_
  simp [f_is_kind]
theorem c_kind_tow {k p : Nat} (h : p ∈ [2, 3, 5, 7]) (g : G) : callK tabK WW (k + 3) 2 [towD p] g = .ok (.bool true) g := by
  refine call_go (F := f_is_kind) (ρ' := [some (.frz (towD p))]) rfl rfl ?_
  have e1 := c_prime (k := k) h g
  simp [f_is_kind, e1]
@[simp] theorem g_add (a b : List D) (h : a.length + b.length ≤ sizeLine) : binD .add (.list a) (.list b) = some (.list (a ++ b)) := by simp [binD, h]
theorem gix_go {call : Nat → List D → G → R D} {ρ : Env1} {g : G} {tab : List (Str × Int)} {e : ME} {s : Str} {i : Int} (h : evE call e ρ g = .ok (.str s) g) (hf : (tab.find? fun kv => decide (kv.1 = s)).map (fun kv => kv.2) = some i) : evE call (.gix tab e) ρ g = .ok (.int i) g := by
  have hf' : (tab.find? fun kv => decide (kv.1 = s)).map (fun kv => PyData.int kv.2) = some (.int i) := by
    have := congrArg (Option.map PyData.int) hf
    rw [Option.map_map] at this
    exact this
  rw [evE, h]
  simp only [q_bind, hf', q_of]
theorem c_order_gen {k : Nat} {kd : D} {s : Str} {i : Int} {rest : List D} (g : G) (h0 : ixD kd (.int 0) = some (.str s)) (h1 : slD kd (some 1) none = some (.tuple rest)) (hf : (tab_ORDER.find? fun kv => decide (kv.1 = s)).map (fun kv => kv.2) = some i) (hl : 1 + rest.length ≤ sizeLine) :
    callK tabK WW (k + 1) 4 [kd] g = .ok (.list (.int i :: rest)) g := by
  refine call_go (F := f_kind_order) (ρ' := [some (.frz kd)]) rfl rfl ?_
  have e : evE (callK tabK WW k) (.gix tab_ORDER (.ix (.var 0) (.cst (PyData.int 0)))) [some (.frz kd)] g = .ok (.int i) g := gix_go (s := s) (by simp [h0]) hf
  simp [f_kind_order, e, h1, g_add [.int i] rest hl]
theorem c_order_ring {k p n : Nat} (g : G) : callK tabK WW (k + 1) 4 [ringD p n] g = .ok (.list [.int 0, .int p, .int n]) g := c_order_gen (s := Str.ofString "ring") (i := 0) (rest := [.int p, .int n]) g (kr0 p n) (krs p n) (by decide +kernel) (by simp [sizeLine])
theorem c_order_tow {k p : Nat} (g : G) : callK tabK WW (k + 1) 4 [towD p] g = .ok (.list [.int 3, .int p]) g := c_order_gen (s := Str.ofString "tower") (i := 3) (rest := [.int p]) g (kt0 p) (kts p) (by decide +kernel) (by simp [sizeLine])
theorem c_order_whole {k : Nat} (g : G) : callK tabK WW (k + 1) 4 [wholeD] g = .ok (.list [.int 1]) g := c_order_gen (s := Str.ofString "whole") (i := 1) (rest := []) g kw0 kws (by decide +kernel) (by simp [sizeLine])
theorem c_order_frac {k : Nat} (g : G) : callK tabK WW (k + 1) 4 [fracD] g = .ok (.list [.int 2]) g := c_order_gen (s := Str.ofString "fraction") (i := 2) (rest := []) g kf0 kfs (by decide +kernel) (by simp [sizeLine])
theorem c_copies {k c : Nat} (h1 : 1 ≤ c) (h2 : c ≤ 1000) (g : G) : callK tabK WW (k + 2) 5 [.int c] g = .ok (.bool true) g := by
  refine call_go (F := f_are_copies) (ρ' := [some (.frz (.int c))]) rfl rfl ?_
  have q1 : (1 : Int) ≤ c := by omega
  have q2 : (c : Int) ≤ 1000 := by omega
  simp [f_are_copies, q1, q2]
theorem c_copies_many {k : Nat} (g : G) : callK tabK WW (k + 2) 5 [.str (Str.ofString "many")] g = .ok (.bool true) g := by
  refine call_go (F := f_are_copies) (ρ' := [some (.frz (.str (Str.ofString "many")))]) rfl rfl ?_
  simp [f_are_copies]
end Mini

set_option maxRecDepth 100000
set_option maxHeartbeats 2000000
namespace Mini
open PySem L2 Evl
theorem lc_enc {α : Type} {call : Nat → List D → G → R D} {ρ : Env1} {g : G} {own : List Nat} {t : MT} {it : MI} {test elt : ME} {ys : List α} (enc F : α → D) (hi : evI call it ρ g = .ok (ys.map enc) g) (hl : ys.length < 1000000)
    (h : ∀ y ∈ ys, lcE call ρ own t test elt (enc y) g = .ok (some (F y)) g) : evE call (.lc own t it test elt) ρ g = .ok (.list (ys.map F)) g := by
  rw [e_lc, hi, q_bind, if_pos (by rw [List.length_map]; exact hl)]
  have e : ∀ zs : List α, (∀ x ∈ zs, x ∈ ys) → loopC (lcE call ρ own t test elt) (zs.map enc) g = .ok (zs.map F) g := by
    intro zs
    induction zs with
    | nil => intro _; rfl
    | cons y zs ih =>
      intro hy
      rw [List.map_cons, List.map_cons]
      unfold loopC
      rw [h y (hy y (List.mem_cons_self ..)), q_bind, ih fun x hx => hy x (List.mem_cons_of_mem _ hx), q_bind]
  rw [e ys fun x hx => hx]
  rfl
theorem lc_filt {α : Type} {call : Nat → List D → G → R D} {ρ : Env1} {g : G} {own : List Nat} {t : MT} {it : MI} {test elt : ME} {ys : List α} (enc F : α → D) (P : α → Bool) (hi : evI call it ρ g = .ok (ys.map enc) g) (hl : ys.length < 1000000)
    (h : ∀ y ∈ ys, lcE call ρ own t test elt (enc y) g = .ok (if P y = true then some (F y) else none) g) : evE call (.lc own t it test elt) ρ g = .ok (.list ((ys.filter P).map F)) g := by
  rw [e_lc, hi, q_bind, if_pos (by rw [List.length_map]; exact hl)]
  have e : ∀ zs : List α, (∀ x ∈ zs, x ∈ ys) → loopC (lcE call ρ own t test elt) (zs.map enc) g = .ok ((zs.filter P).map F) g := by
    intro zs
    induction zs with
    | nil => intro _; rfl
    | cons y zs ih =>
      intro hy
      rw [List.map_cons]
      unfold loopC
      rw [h y (hy y (List.mem_cons_self ..)), q_bind, ih fun x hx => hy x (List.mem_cons_of_mem _ hx), q_bind, List.filter_cons]
      cases P y <;> rfl
  rw [e ys fun x hx => hx]
  rfl
theorem rngD_eq (n : Nat) : rngD 0 n = (List.range n).map fun (i : Nat) => PyData.int (i : Int) := by
  unfold rngD
  congr 1
  funext i
  rw [Int.zero_add]
theorem rngR_int {j : Int} (g : G) (h1 : -(2 ^ 62) ≤ j) (h2 : j < 2 ^ 62) : rngR 0 j g = .ok ((List.range j.toNat).map fun (i : Nat) => PyData.int (i : Int)) g := by
  unfold rngR
  rw [if_pos (by omega), Int.sub_zero, rngD_eq]
theorem rngR_n (n : Nat) (g : G) (h : n < 2 ^ 62) : rngR 0 (n : Int) g = .ok ((List.range n).map fun (i : Nat) => PyData.int (i : Int)) g := by
  rw [rngR_nat g n h, rngD_eq]
/-! ### groups -/
def sumD (x : D × D) : D := .tuple [x.1, x.2]
def encGG (xs : List (D × D)) : D := .tuple (xs.map sumD)
@[simp] theorem sd0 (x : D × D) : ixD (sumD x) (.int 0) = some x.1 := Eq.trans (ix_t0 _ _) rfl
@[simp] theorem sd1 (x : D × D) : ixD (sumD x) (.int 1) = some x.2 := Eq.trans (ix_t1 _ _ _) rfl
@[simp] theorem sdl (x : D × D) : bltD .len [sumD x] = some (.int 2) := Eq.trans rfl rfl
@[simp] theorem sdi (x : D × D) : isiD .tuple (sumD x) = true := Eq.trans rfl rfl
@[simp] theorem sda (x : D × D) (i j : Nat) (ρ : Env1) : setT (.tp [i, j]) (sumD x) ρ = some ((ρ.set i (some (.frz x.1))).set j (some (.frz x.2))) := Eq.trans rfl rfl
theorem sdn {x : D × D} (h1 : nod x.1 = true) (h2 : nod x.2 = true) : nod (sumD x) = true := by simp [sumD, nod, nodL, h1, h2]
theorem nodL_all {α : Type} (F : α → D) : ∀ xs : List α, (∀ x ∈ xs, nod (F x) = true) → nodL (xs.map F) = true
  | [], _ => rfl
  | x :: xs, h => by rw [List.map_cons, nodL, h x (List.mem_cons_self ..), nodL_all F xs fun y hy => h y (List.mem_cons_of_mem _ hy)]; rfl
structure OkK (d : D) (o : List Int) : Prop where
  n : nod d = true
  is : ∀ k g, callK tabK WW (k + 3) 2 [d] g = .ok (.bool true) g
  ord : ∀ k g, callK tabK WW (k + 1) 4 [d] g = .ok (.list (o.map .int)) g
structure OkC (d : D) : Prop where
  n : nod d = true
  is : ∀ k g, callK tabK WW (k + 2) 5 [d] g = .ok (.bool true) g
theorem OkK.ring {p n : Nat} (h : PN p n) : OkK (ringD p n) [0, p, n] := ⟨krn p n, fun k g => c_kind_ring h g, fun k g => c_order_ring g⟩
theorem OkK.whole : OkK wholeD [1] := ⟨kwn, fun k g => c_kind_whole g, fun k g => c_order_whole g⟩
theorem OkK.frac : OkK fracD [2] := ⟨kfn, fun k g => c_kind_frac g, fun k g => c_order_frac g⟩
theorem OkK.tow {p : Nat} (h : p ∈ [2, 3, 5, 7]) : OkK (towD p) [3, p] := ⟨ktn p, fun k g => c_kind_tow h g, fun k g => c_order_tow g⟩
theorem OkC.num {c : Nat} (h1 : 1 ≤ c) (h2 : c ≤ 1000) : OkC (.int c) := ⟨rfl, fun k g => c_copies h1 h2 g⟩
theorem OkC.many : OkC (.str (Str.ofString "many")) := ⟨rfl, fun k g => c_copies_many g⟩
def ltL (a b : List Int) : Bool := PySem.W.dataLt (.list (a.map .int)) (.list (b.map .int))
theorem k_ltL (a b : List Int) : cmpD .lt (.list (a.map .int)) (.list (b.map .int)) = some (ltL a b) := by
  show ((intsD _).bind fun is => (intsD _).map fun js => _) = _
  rw [intsD_map', intsD_map']
  rfl
structure OkGG (xs : List (D × D)) (ord : D × D → List Int) : Prop where
  len : xs.length ≤ 12
  el : ∀ x ∈ xs, OkK x.1 (ord x) ∧ OkC x.2
  asc : ∀ i (h : i + 1 < xs.length), ltL (ord xs[i]) (ord xs[i + 1]) = true
theorem OkGG.nod {xs : List (D × D)} {ord : D × D → List Int} (h : OkGG xs ord) : nod (encGG xs) = true := nodL_all _ _ fun x hx => sdn (h.el x hx).1.n (h.el x hx).2.n
theorem c_is_group {k : Nat} {xs : List (D × D)} {ord : D × D → List Int} (h : OkGG xs ord) (g : G) : callK tabK WW (k + 4) 6 [encGG xs] g = .ok (.bool true) g := by
  have hn := h.nod
  have hl : ¬ ((12 : Int) < (xs.length : Int)) := by have := h.len; omega
  have e0 : bltD .len [encGG xs] = some (.int xs.length) := by
    unfold encGG
    rw [x_len_t, List.length_map]
  have ei : isiD .tuple (encGG xs) = true := rfl
  obtain ⟨ρ1, ⟨x1, rfl⟩, e1⟩ := for_all (call := callK tabK WW (k + 3)) (W := WW) (t := .nm 1) (it := .seqT (.var 0)) (b := .ife (.or (.not (.isi .tuple (.var 1))) (.or (.cmp .ne (.blt .len (.cons (.var 1) .nil)) (.cst (PyData.int 2))) (.or (.not (.call 2 (.cons (.ix (.var 1) (.cst (PyData.int 0))) .nil))) (.not (.call 5 (.cons (.ix (.var 1) (.cst (PyData.int 1))) .nil)))))) (.ret (.cst (PyData.bool false))) .skip) (ρ := [some (.frz (encGG xs)), none, none, none, none, none]) (g := g) sumD (fun ρ => ∃ x, ρ = [some (.frz (encGG xs)), x, none, none, none, none]) (fun _ => true) (.bool false) xs (by
      simp [encGG]) ⟨none, rfl⟩ (by
      rintro x hx ρ ⟨y, rfl⟩
      refine ⟨_, ⟨some (.frz (sumD x)), rfl⟩, ?_⟩
      have q := h.el x hx
      have q5 : callK tabK WW (k + 3) 5 [x.2] g = _ := q.2.is (k + 1) g
      simp [forF, sdn q.1.n q.2.n, q.1.is, q5])
  have e2 : evE (callK tabK WW (k + 3)) (.lc [3, 4] (.tp [3, 4]) (.seqT (.var 0)) (.cst (.bool true)) (.call 4 (.cons (.var 3) .nil))) [some (.frz (encGG xs)), x1, none, none, none, none] g = .ok (.list (xs.map fun x => .list ((ord x).map .int))) g := by
    refine lc_enc sumD _ (by simp [encGG]) (by have := h.len; omega) fun x hx => ?_
    have q := (h.el x hx).1.ord (k + 2) g
    simp [lcE, q]
  have e3 : evE (callK tabK WW (k + 3)) (.lc [5] (.nm 5) (.rng1 (.bin .sub (.blt .len (.cons (.var 2) .nil)) (.cst (PyData.int 1)))) (.cst (.bool true)) (.cmp .lt (.ix (.var 2) (.var 5)) (.ix (.var 2) (.bin .add (.var 5) (.cst (PyData.int 1)))))) [some (.frz (encGG xs)), x1, some (.frz (.list (xs.map fun x => .list ((ord x).map .int)))), none, none, none] g = .ok (.list ((List.range ((xs.length : Int) - 1).toNat).map fun i => .bool true)) g := by
    refine lc_enc (fun i => PyData.int ((i : Nat) : Int)) _ ?_ (by have := h.len; simp; omega) fun i hi => ?_
    · have := h.len
      simp
      have e : xs.length - 1 = ((xs.length : Int) - 1).toNat := by omega
      rw [e]
      exact rngR_int (j := (xs.length : Int) - 1) g (by omega) (by omega)
    · have hi' : i < ((xs.length : Int) - 1).toNat := List.mem_range.mp hi
      have h1 : i + 1 < xs.length := by omega
      have q1 := ix_ln (xs.map fun x => PyData.list ((ord x).map .int)) i (by rw [List.length_map]; omega)
      have q2 := ix_ln (xs.map fun x => PyData.list ((ord x).map .int)) (i + 1) (by rw [List.length_map]; omega)
      rw [List.getElem_map] at q1 q2
      rw [Int.natCast_add] at q2
      have q2' : ixD (PyData.list (xs.map fun x => PyData.list ((ord x).map .int))) (PyData.int ((i : Int) + 1)) = _ := q2
      simp [lcE, q1, q2', k_ltL, h.asc i h1]
  refine call_go (F := f_is_group) (ρ' := [some (.frz (encGG xs)), x1, some (.frz (.list (xs.map fun x => .list ((ord x).map .int)))), none, none, none]) rfl rfl ?_
  have hall : xs.all (fun _ => true) = true := by simp
  rw [if_pos hall] at e1
  have e4 : bltD .all [PyData.list ((List.range ((xs.length : Int) - 1).toNat).map fun i => .bool true)] = some (.bool true) := by
    rw [x_all]
    simp
  simp only [f_is_group, x_seq, x_ife, e_or, e_not, e_isi, e_var, List.map_cons, List.map_nil, List.replicate, List.nil_append, List.cons_append, List.getElem?_cons_zero, List.getElem?_cons_succ, varD_frz, q_bind, hn, if_true, ei, q_asB, Bool.not_true, if_false, Bool.false_eq_true, e_cmp, e_blt, e_cons, e_nil, e0, q_of, e_cst, k_gt, hl, decide_false, x_skip, seqR_nx, Nat.reduceSub, e1, x_asg, e2, t_nm, List.set_cons_zero, List.set_cons_succ, x_ret, e3, e4]
theorem c_need_group {k : Nat} {xs : List (D × D)} {ord : D × D → List Int} (h : OkGG xs ord) (g : G) : callK tabK WW (k + 5) 7 [encGG xs] g = .ok .none g := by
  refine call_nx (F := f_need_group) (ρ' := [some (.frz (encGG xs))]) rfl rfl ?_
  have e : callK tabK WW (k + 4) 6 [encGG xs] g = _ := c_is_group h g
  simp [f_need_group, e]
end Mini

set_option maxRecDepth 100000
set_option maxHeartbeats 2000000
namespace Mini
open PySem L2 Evl
/-! ### powers -/
theorem pow_lt {b e : Nat} (hb : b < 2 ^ 64) (he : e ≤ 1000) : b ^ e < 2 ^ 64001 := by
  have h1 : b ^ e ≤ (2 ^ 64) ^ e := Nat.pow_le_pow_left (Nat.le_of_lt hb) e
  have h2 : (2 ^ 64) ^ e = 2 ^ (64 * e) := (Nat.pow_mul 2 64 e).symm
  have h3 : 2 ^ (64 * e) < 2 ^ 64001 := Nat.pow_lt_pow_right (by omega) (by omega)
  rw [h2] at h1
  exact Nat.lt_of_le_of_lt h1 h3
theorem mul_pows {b e f : Nat} (hb : b < 2 ^ 64) (he : e ≤ 1000) (hf : f ≤ 1000) : binD .mul (.int ((b ^ e : Nat) : Int)) (.int ((b ^ f : Nat) : Int)) = some (.int ((b ^ (e + f) : Nat) : Int)) := by
  rw [b_mul _ _ (okMul_n (pow_lt hb he) (pow_lt hb hf) (by omega)), Nat.pow_add, Int.natCast_mul]
structure RS where
  j : Nat
  i : Nat
  t : Nat
def rsCond (a : RS) : Bool := decide (0 < a.t)
def rsStep (a : RS) : RS := ⟨if a.t % 2 = 1 then a.j + 2 ^ a.i else a.j, if 0 < a.t / 2 then a.i + 1 else a.i, a.t / 2⟩
def rsEnv (b : Nat) (a : RS) : Env1 := [some (.frz (.int b)), some (.frz (.int a.t)), some (.frz (.int ((b ^ a.j : Nat) : Int))), some (.frz (.int ((b ^ 2 ^ a.i : Nat) : Int)))]
theorem c_raised {k b t : Nat} (hb : b < 2 ^ 64) (ht : t ≤ 1000) (g : G) : callK tabK WW (k + 1) 8 [.int b, .int t] g = .ok (.int ((b ^ t : Nat) : Int)) g := by
  obtain ⟨a', p, c, e⟩ := whl_go (call := callK tabK WW k) (W := WW) (c := .cmp .gt (.var 1) (.cst (PyData.int 0))) (b := (.seq (.ife (.cmp .eq (.bin .mod (.var 1) (.cst (PyData.int 2))) (.cst (PyData.int 1))) (.asg (.nm 2) (.bin .mul (.var 2) (.var 3))) .skip) (.seq (.asg (.nm 1) (.bin .fdiv (.var 1) (.cst (PyData.int 2)))) (.ife (.cmp .gt (.var 1) (.cst (PyData.int 0))) (.asg (.nm 3) (.bin .mul (.var 3) (.var 3))) .skip)))) (g := g)
    (rsEnv b) rsCond rsStep (fun a => a.j + 2 ^ a.i * a.t = t ∧ (0 < a.t → 2 ^ a.i ≤ 1000)) (fun a => a.t) (fun a _ => by simp [rsEnv, rsCond]) (fun a h hc => by
      obtain ⟨h1, h2⟩ := h
      have h3 : 0 < a.t := of_decide_eq_true hc
      have h2' := h2 h3
      have h4 : a.j ≤ 1000 := by have := Nat.le_add_right a.j (2 ^ a.i * a.t); omega
      have h5 := mul_pows hb h4 h2'
      have h6 := mul_pows hb h2' h2'
      have e1 : ((a.t : Int) % 2 = 1) = (a.t % 2 = 1) := by simp only [eq_iff_iff]; omega
      have e2 : ((a.t : Int) / 2) = ((a.t / 2 : Nat) : Int) := by omega
      have e3 : (0 < ((a.t / 2 : Nat) : Int)) = (0 < a.t / 2) := by simp only [eq_iff_iff]; omega
      have e4 : 2 ^ a.i + 2 ^ a.i = 2 ^ (a.i + 1) := by rw [Nat.pow_succ]; omega
      rw [e4] at h6
      have m2 := b_mod (a.t : Int) 2 (by omega)
      have d2 := b_fdiv (a.t : Int) 2 (by omega) (by decide)
      rw [e2] at d2
      by_cases c1 : a.t % 2 = 1 <;> by_cases c2 : 0 < a.t / 2 <;>
      simp only [rsEnv, rsStep, x_seq, x_ife, x_asg, e_cmp, e_bin, e_var, e_cst, List.getElem?_cons_zero, List.getElem?_cons_succ, varD_frz, q_bind, q_of, m2, k_eq, e1, c1, decide_true, decide_false, q_asB, if_true, if_false, Bool.false_eq_true, h5, t_nm, List.set_cons_zero, List.set_cons_succ, seqR_nx, d2, k_gt, e3, c2, h6, x_skip]) (fun a h hc => by
      obtain ⟨h1, h2⟩ := h
      have h3 : 0 < a.t := of_decide_eq_true hc
      refine ⟨⟨?_, fun h => ?_⟩, ?_⟩
      · show (if a.t % 2 = 1 then a.j + 2 ^ a.i else a.j) + 2 ^ (if 0 < a.t / 2 then a.i + 1 else a.i) * (a.t / 2) = t
        have e4 : 2 ^ (a.i + 1) = 2 ^ a.i * 2 := Nat.pow_succ ..
        have e5 : a.t = 2 * (a.t / 2) + a.t % 2 := by omega
        have e6 : 2 ^ a.i * a.t = 2 ^ a.i * 2 * (a.t / 2) + 2 ^ a.i * (a.t % 2) := by
          conv => lhs; rw [e5]
          rw [Nat.mul_add, Nat.mul_assoc]
        split <;> split <;> rename_i u v
        · rw [e4, ← h1, e6, u]; omega
        · have : a.t / 2 = 0 := by omega
          rw [this, ← h1, e6, u, this]; omega
        · have u' : a.t % 2 = 0 := by omega
          rw [e4, ← h1, e6, u']; omega
        · omega
      · have h : 0 < a.t / 2 := h
        show 2 ^ (if 0 < a.t / 2 then a.i + 1 else a.i) ≤ 1000
        rw [if_pos h, Nat.pow_succ]
        have : 2 ^ a.i * 2 ≤ 2 ^ a.i * a.t := Nat.mul_le_mul_left _ (by omega)
        omega
      · show a.t / 2 < a.t
        omega)
    ⟨0, 0, t⟩ ⟨by simp, fun _ => by simp⟩ (by show t < 2000; omega)
  have h0 : a'.t = 0 := by
    have := of_decide_eq_false c
    omega
  have h1 : a'.j = t := by have := p.1; rw [h0] at this; simpa using this
  refine call_go (F := f_raised) (ρ' := rsEnv b a') rfl rfl ?_
  have r0 : rsEnv b ⟨0, 0, t⟩ = [some (.frz (.int b)), some (.frz (.int t)), some (.frz (.int 1)), some (.frz (.int b))] := by simp [rsEnv]
  rw [r0] at e
  have e2 : evE (callK tabK WW k) (.var 2) (rsEnv b a') g = .ok (.int ((b ^ t : Nat) : Int)) g := by simp [rsEnv, h1]
  simp only [f_raised, x_seq, x_asg, e_cst, e_var, q_bind, q_of, t_nm, List.map_cons, List.map_nil, List.replicate, List.nil_append, List.cons_append, List.set_cons_zero, List.set_cons_succ, List.getElem?_cons_zero, List.getElem?_cons_succ, varD_frz, seqR_nx, Nat.reduceSub, e, x_ret]
  rw [← e_var (callK tabK WW k), e2]
  rfl
end Mini

set_option maxRecDepth 100000
set_option maxHeartbeats 2000000
namespace Mini
open PySem L2 Evl
/-! ### goal by goal -/
def Rts (call : Nat → List D → G → R D) (W : Nat) (s : MS) (ρ : Env1) (g : G) (d : D) (g' : G) : Prop := ∃ ρ', exS call W s ρ g = .ok (.rt d, ρ') g'
theorem call_rts {np nN : Nat} {s : MS} {ρ0 : Env1} {k f : Nat} {ds : List D} {g g' : G} {d : D} (hF : tabK[f]? = some ⟨np, nN, s⟩) (hn : ds.length = np) (h0 : ds.map (fun d => some (Ent.frz d)) ++ List.replicate (nN - np) none = ρ0) (h : Rts (callK tabK WW k) WW s ρ0 g d g') : callK tabK WW (k + 1) f ds g = .ok d g' := by
  obtain ⟨ρ', e⟩ := h
  subst h0
  exact call_go hF hn e
section
variable {call : Nat → List D → G → R D} {W : Nat} {a b rest : MS} {ρ ρ1 : Env1} {g g1 g' : G} {d : D} {t : MT} {it : MI}
theorem rts_step (h : exS call W a ρ g = .ok (.nx, ρ1) g1) (k : Rts call W b ρ1 g1 d g') : Rts call W (.seq a b) ρ g d g' := by
  obtain ⟨ρ', e⟩ := k
  exact ⟨ρ', by rw [x_seq, h, q_bind, seqR_nx, e]⟩
theorem rts_p (h : exS call W a ρ g = .ok (.nx, ρ1) g) (k : Rts call W b ρ1 g d g') : Rts call W (.seq a b) ρ g d g' := rts_step h k
theorem rts_rt (h : exS call W a ρ g = .ok (.rt d, ρ1) g') : Rts call W (.seq a b) ρ g d g' := ⟨ρ1, by rw [x_seq, h, q_bind, seqR_rt]⟩
theorem rts_end (h : exS call W a ρ g = .ok (.rt d, ρ1) g') : Rts call W a ρ g d g' := ⟨ρ1, h⟩
theorem rts_ret {e : ME} (h : evE call e ρ g = .ok d g') : Rts call W (.ret e) ρ g d g' := ⟨ρ, by rw [x_ret, h, q_bind]⟩
theorem rts_fold {α β : Type} (enc : β → D) (J : α → Env1 → Prop) (step : α → β → α) (xs : List β) (a : α) (hi : evI call it ρ g = .ok (xs.map enc) g) (h0 : J a ρ)
    (h : ∀ a, ∀ x ∈ xs, ∀ ρ, J a ρ → ∃ ρ', forF call W t b (enc x) ρ g = .ok (.nx, ρ') g ∧ J (step a x) ρ') (k : ∀ ρ', J (xs.foldl step a) ρ' → Rts call W rest ρ' g d g') : Rts call W (.seq (.forr t it b) rest) ρ g d g' := by
  obtain ⟨ρ', e, j⟩ := for_fold enc J step xs a hi h0 h
  exact rts_step e (k ρ' j)
theorem rts_all {β : Type} (enc : β → D) (J : Env1 → Prop) (P : β → Bool) (dd : D) (xs : List β) (hi : evI call it ρ g = .ok (xs.map enc) g) (h0 : J ρ)
    (h : ∀ x ∈ xs, ∀ ρ, J ρ → ∃ ρ', J ρ' ∧ forF call W t b (enc x) ρ g = .ok (if P x = true then .nx else .rt dd, ρ') g) (k1 : xs.all P = true → ∀ ρ', J ρ' → Rts call W rest ρ' g d g') (k2 : xs.all P = false → dd = d ∧ g' = g) : Rts call W (.seq (.forr t it b) rest) ρ g d g' := by
  obtain ⟨ρ', j, e⟩ := for_all enc J P dd xs hi h0 h
  cases hp : xs.all P with
  | true =>
    rw [hp] at e
    exact rts_step e (k1 hp ρ' j)
  | false =>
    rw [hp] at e
    obtain ⟨rfl, rfl⟩ := k2 hp
    exact rts_rt e
theorem rts_whl {α : Type} {c : ME} (env : α → Env1) (cond : α → Bool) (step : α → α) (P : α → Prop) (μ : α → Nat)
    (hc : ∀ a, P a → evE call c (env a) g = .ok (.bool (cond a)) g) (hb : ∀ a, P a → cond a = true → exS call W b (env a) g = .ok (.nx, env (step a)) g) (hP : ∀ a, P a → cond a = true → P (step a) ∧ μ (step a) < μ a)
    (a : α) (hr : ρ = env a) (ha : P a) (hW : μ a < W) (k : ∀ a', P a' → cond a' = false → Rts call W rest (env a') g d g') : Rts call W (.seq (.whl c b) rest) ρ g d g' := by
  obtain ⟨a', p, c', e⟩ := whl_go env cond step P μ hc hb hP a ha hW
  rw [hr]
  exact rts_step e (k a' p c')
end
/-! ### shapes -/
def encP (x : Int × Int) : D := .tuple [.int x.1, .int x.2]
def encS (s : List (Int × Int)) : D := .tuple (s.map encP)
@[simp] theorem pd0 (x : Int × Int) : ixD (encP x) (.int 0) = some (.int x.1) := Eq.trans (ix_t0 _ _) rfl
@[simp] theorem pd1 (x : Int × Int) : ixD (encP x) (.int 1) = some (.int x.2) := Eq.trans (ix_t1 _ _ _) rfl
@[simp] theorem pdl (x : Int × Int) : bltD .len [encP x] = some (.int 2) := Eq.trans rfl rfl
@[simp] theorem pdi (x : Int × Int) : isiD .tuple (encP x) = true := Eq.trans rfl rfl
@[simp] theorem pdn (x : Int × Int) : nod (encP x) = true := Eq.trans rfl rfl
@[simp] theorem pda (x : Int × Int) (i j : Nat) (ρ : Env1) : setT (.tp [i, j]) (encP x) ρ = some ((ρ.set i (some (.frz (.int x.1)))).set j (some (.frz (.int x.2)))) := Eq.trans rfl rfl
@[simp] theorem sdn' (s : List (Int × Int)) : nod (encS s) = true := nodL_all _ _ fun x _ => pdn x
@[simp] theorem sdi' (s : List (Int × Int)) : isiD .tuple (encS s) = true := Eq.trans rfl rfl
@[simp] theorem seqS (s : List (Int × Int)) (g : G) : seqTD (encS s) g = .ok (s.map encP) g := Eq.trans rfl rfl
theorem addS {s t : List (Int × Int)} (h : s.length + t.length ≤ 1000) : binD .add (encS s) (encS t) = some (encS (s ++ t)) := by
  unfold encS
  simp only [binD, List.length_map]
  rw [if_pos (Nat.le_trans h (by simp [sizeLine])), List.map_append]
theorem okP.b {x : Int × Int} (h : okP x) : 0 ≤ x.1 ∧ x.1 ≤ 9 ∧ -1 ≤ x.2 ∧ x.2 ≤ 9 := by
  obtain ⟨h1, h2⟩ := h
  have e1 : ∀ b ∈ Bs, 0 ≤ b ∧ b ≤ 9 := by decide
  have e2 : ∀ b ∈ Fs, -1 ≤ b ∧ b ≤ 9 := by decide
  exact ⟨(e1 _ h1).1, (e1 _ h1).2, (e2 _ h2).1, (e2 _ h2).2⟩
theorem c_is_shape {k : Nat} {s : List (Int × Int)} (o : okS s) (g : G) : callK tabK WW (k + 2) 29 [encS s] g = .ok (.bool true) g := by
  refine call_rts rfl rfl rfl ?_
  refine rts_p (ρ1 := [some (.frz (encS s)), none]) (by simp) ?_
  refine rts_all encP (fun ρ => ∃ x, ρ = [some (.frz (encS s)), x]) (fun _ => true) (.bool false) s (by simp) ⟨_, rfl⟩ (fun x hx ρ h => ?_) (fun _ ρ' h => ?_) (fun h => ?_)
  · obtain ⟨y, rfl⟩ := h
    refine ⟨_, ⟨some (.frz (encP x)), rfl⟩, ?_⟩
    have b := (o x hx).b
    have h1 : (0 : Int) ≤ x.1 := b.1
    have h2 : x.1 ≤ 1000000000000 := by omega
    have h3 : -1000000000000 ≤ x.2 := by omega
    have h4 : x.2 ≤ 1000000000000 := by omega
    simp [forF, h1, h2, h3, h4]
  · obtain ⟨y, rfl⟩ := h
    exact rts_ret (by simp)
  · simp at h
theorem c_need_shape {k : Nat} {s : List (Int × Int)} (o : okS s) (g : G) : callK tabK WW (k + 3) 30 [encS s] g = .ok .none g := by
  refine call_nx (F := f_need_shape) (ρ' := [some (.frz (encS s))]) rfl rfl ?_
  have e : callK tabK WW (k + 2) 29 [encS s] g = _ := c_is_shape o g
  simp [f_need_shape, e]
theorem pin_zero (p : Nat) : ∀ n, pin p n 0 = n
  | 0 => rfl
  | n + 1 => by unfold pin; simp [pin_zero p n]
theorem c_power_in {k p n : Nat} (h : PN p n) (v : Int) (g : G) : callK tabK WW (k + 1) 22 [.int v, .int p, .int n] g = .ok (.int (pin p n v)) g := by
  have hs := h.small
  by_cases hv : v = 0
  · refine call_rts rfl rfl rfl ?_
    rw [hv, pin_zero]
    exact rts_rt (ρ1 := [some (.frz (.int 0)), some (.frz (.int p)), some (.frz (.int n)), none]) (by simp)
  · refine call_rts rfl rfl rfl ?_
    refine rts_p (ρ1 := [some (.frz (.int v)), some (.frz (.int p)), some (.frz (.int n)), none]) (by simp [hv]) ?_
    refine rts_p (ρ1 := [some (.frz (.int v)), some (.frz (.int p)), some (.frz (.int n)), some (.frz (.int 0))]) (by simp) ?_
    have m0 : ∀ u : Int, binD .mod (.int u) (.int (p : Int)) = some (.int (u % p)) := fun u => b_mod u p (by omega)
    have d0 : ∀ u : Int, binD .fdiv (.int u) (.int (p : Int)) = some (.int (u / p)) := fun u => b_fdiv u p (by omega) (by
      rw [Int.natAbs_natCast]
      have : p.log2 ≤ p := Nat.log2_le_self p
      omega)
    refine rts_whl (α := Int × Nat) (fun a => [some (.frz (.int a.1)), some (.frz (.int p)), some (.frz (.int n)), some (.frz (.int a.2))]) (fun a => decide (a.2 < n) && decide (a.1 % (p : Int) = 0)) (fun a => (a.1 / (p : Int), a.2 + 1)) (fun a => a.2 ≤ n ∧ a.2 + pin p (n - a.2) a.1 = pin p n v) (fun a => n - a.2)
      (fun a ha => ?_) (fun a ha hc => ?_) (fun a ha hc => ?_) (v, 0) rfl ⟨Nat.zero_le _, by simp⟩ (by show n - 0 < 2000; omega) (fun a ha hc => ?_)
    · by_cases c1 : a.2 < n <;> simp [c1, m0]
    · simp [d0]
    · simp only [Bool.and_eq_true, decide_eq_true_eq] at hc
      obtain ⟨h1, h2⟩ := ha
      refine ⟨⟨hc.1, ?_⟩, by show n - (a.2 + 1) < n - a.2; omega⟩
      rw [← h2]
      have e : n - a.2 = (n - (a.2 + 1)) + 1 := by omega
      rw [e]
      show a.2 + 1 + pin p (n - (a.2 + 1)) (a.1 / (p : Int)) = a.2 + pin p ((n - (a.2 + 1)) + 1) a.1
      conv => rhs; unfold pin
      rw [if_pos hc.2]
      omega
    · obtain ⟨h1, h2⟩ := ha
      have e : a.2 = pin p n v := by
        rw [← h2]
        rcases Nat.lt_or_ge a.2 n with q | q
        · have nd : ¬ a.1 % (p : Int) = 0 := by
            intro z
            simp [q, z] at hc
          have e : n - a.2 = (n - (a.2 + 1)) + 1 := by omega
          rw [e]
          unfold pin
          rw [if_neg nd]
          rfl
        · have e : n - a.2 = 0 := by omega
          rw [e]
          rfl
      exact rts_ret (by simp [e])
theorem c_ring_step {k p n : Nat} (h : PN p n) (s : List (Int × Int)) (g : G) : callK tabK WW (k + 2) 31 [ringD p n, encS s] g = .ok (.int (st p n s)) g := by
  refine call_rts rfl rfl rfl ?_
  refine rts_p (ρ1 := [some (.frz (ringD p n)), some (.frz (encS s)), some (.frz (.int 0)), none, none]) (by simp) ?_
  refine rts_fold encP (fun a ρ => ∃ x y, ρ = [some (.frz (ringD p n)), some (.frz (encS s)), some (.frz (.int (a : Nat))), x, y]) (fun a x => max a (st1 p n x)) s 0 (by simp) ⟨none, none, rfl⟩ (fun a x hx ρ hj => ?_) (fun ρ' hj => ?_)
  · obtain ⟨y, z, rfl⟩ := hj
    refine ⟨_, ?_, some (.frz (.int x.1)), some (.frz (.int x.2)), rfl⟩
    have e1 := c_power_in (k := k) h x.1 g
    have e2 := c_power_in (k := k) h x.2 g
    by_cases hf : x.2 = 0
    · simp [forF, hf, st1]
    · have e : (if ((pin p n x.1 : Nat) : Int) - ((pin p n x.2 : Nat) : Int) > (a : Int) then ((pin p n x.1 : Nat) : Int) - ((pin p n x.2 : Nat) : Int) else (a : Int)) = ((max a (pin p n x.1 - pin p n x.2) : Nat) : Int) := by
        split <;> omega
      simp [forF, hf, st1, e1, e2]
      rw [← e]
  · obtain ⟨y, z, rfl⟩ := hj
    exact rts_ret (by simp [st])
end Mini

set_option maxRecDepth 100000
set_option maxHeartbeats 2000000
namespace Mini
open PySem L2 Evl
theorem rts_go {call : Nat → List D → G → R D} {W : Nat} {b rest : MS} {ρ : Env1} {g g' : G} {d : D} {t : MT} {it : MI} {xs : List D} (I : Nat → Env1 → Prop) (hi : evI call it ρ g = .ok xs g) (h0 : I 0 ρ)
    (h : ∀ (j : Nat) (hj : j < xs.length) ρ, I j ρ → ∃ ρ', forF call W t b xs[j] ρ g = .ok (.nx, ρ') g ∧ I (j + 1) ρ') (k : ∀ ρ', I xs.length ρ' → Rts call W rest ρ' g d g') : Rts call W (.seq (.forr t it b) rest) ρ g d g' := by
  obtain ⟨ρ', e, i⟩ := for_go I hi h0 h
  exact rts_p e (k ρ' i)
theorem d72_b {a : Int} (h : a ∈ D72) : 0 ≤ a ∧ a ≤ 72 := by
  have e : ∀ a ∈ D72, 0 ≤ a ∧ a ≤ 72 := by decide
  exact e a h
theorem bs_b {a : Int} (h : a ∈ Bs) : 0 ≤ a ∧ a ≤ 9 := by
  have e : ∀ a ∈ Bs, 0 ≤ a ∧ a ≤ 9 := by decide
  exact e a h
theorem log2_small {a : Nat} (h : a ≤ 5000) : a.log2 < 9000 := Nat.lt_of_le_of_lt (Nat.log2_le_self a) (by omega)
theorem c_whole_step {k : Nat} {s : List (Int × Int)} (o : okS s) (g : G) : callK tabK WW (k + 1) 32 [encS s] g = .ok (.int (wst s)) g := by
  refine call_rts rfl rfl rfl ?_
  refine rts_p (ρ1 := [some (.frz (encS s)), some (.frz (.int 1)), none, none, none]) (by simp) ?_
  refine rts_fold encP (fun a ρ => a ∈ D72 ∧ ∃ x y z, ρ = [some (.frz (encS s)), some (.frz (.int a)), x, y, z]) wstF s 1 (by simp) ⟨by decide, none, none, none, rfl⟩ (fun a x hx ρ hj => ?_) (fun ρ' hj => ?_)
  · obtain ⟨ha, y, z, u, rfl⟩ := hj
    have f72 := fin72 a ha x.1 (o x hx).1 x.2 (o x hx).2
    have ob := (o x hx).b
    have ab := d72_b ha
    by_cases hf : x.2 = 0
    · refine ⟨_, ?_, f72.1, some (.frz (.int x.1)), some (.frz (.int x.2)), u, rfl⟩
      simp [forF, hf, wstF]
    · refine ⟨_, ?_, f72.1, some (.frz (.int x.1)), some (.frz (.int x.2)), some (.frz (.int (ownI x))), rfl⟩
      have gp : 0 < Nat.gcd x.1.natAbs x.2.natAbs := Nat.gcd_pos_of_pos_right _ (by omega)
      have gl : Nat.gcd x.1.natAbs x.2.natAbs ≤ x.2.natAbs := Nat.gcd_le_right _ (by omega)
      have d1 : binD .fdiv (.int x.1) (.int ((Nat.gcd x.1.natAbs x.2.natAbs : Nat) : Int)) = some (.int (ownI x)) := b_fdiv _ _ (by omega) (by rw [Int.natAbs_natCast]; exact log2_small (by omega))
      have ow := bs_b f72.2
      have ow' : 0 ≤ ownI x ∧ ownI x ≤ 9 := ow
      by_cases c1 : ownI x = 0
      · simp [forF, hf, wstF, d1, lcI, c1]
      · by_cases c2 : a = 0
        · simp [forF, hf, wstF, d1, lcI, c1, c2]
        · have gp2 : 0 < Nat.gcd a.natAbs (ownI x).natAbs := Nat.gcd_pos_of_pos_right _ (by omega)
          have gl2 : Nat.gcd a.natAbs (ownI x).natAbs ≤ (ownI x).natAbs := Nat.gcd_le_right _ (by omega)
          have m1 : binD .mul (.int a) (.int (ownI x)) = some (.int (a * ownI x)) := b_mul _ _ (okMul_l (by omega) (by omega))
          have d2 : binD .fdiv (.int (a * ownI x)) (.int ((Nat.gcd a.natAbs (ownI x).natAbs : Nat) : Int)) = some (.int (a * ownI x / ((Nat.gcd a.natAbs (ownI x).natAbs : Nat) : Int))) := b_fdiv _ _ (by omega) (by rw [Int.natAbs_natCast]; exact log2_small (by omega))
          have e1 : lcI a (ownI x) = a * ownI x / ((Nat.gcd a.natAbs (ownI x).natAbs : Nat) : Int) := by
            unfold lcI
            rw [if_neg (by simp [c1, c2])]
            rfl
          simp [forF, hf, wstF, d1, e1, c1, c2, m1, d2]
  · obtain ⟨ha, y, z, u, rfl⟩ := hj
    exact rts_ret (by simp [wst])
theorem c_is_cut {k : Nat} {s : List (Int × Int)} (hl : s.length ≤ 1000) (g : G) : callK tabK WW (k + 1) 33 [encS s] g = .ok (.bool (s.any isC)) g := by
  refine call_rts (ρ0 := [some (.frz (encS s)), none, none]) rfl rfl rfl ?_
  have e : evE (callK tabK WW k) (.lc [1, 2] (.tp [1, 2]) (.seqT (.var 0)) (.cst (.bool true)) (.and (.cmp .eq (.var 1) (.cst (PyData.int 0))) (.cmp .ne (.var 2) (.cst (PyData.int 0))))) [some (.frz (encS s)), none, none] g = .ok (.list (s.map fun x => .bool (isC x))) g := by
    refine lc_enc encP _ (by simp) (by omega) fun x hx => ?_
    by_cases c : x.1 = 0 <;> simp [lcE, isC, c]
  exact rts_ret (by simp only [e_blt, e_cons, e, e_nil, q_bind, x_any, q_of])
def optD : Option Nat → D
  | none => .none
  | some a => .int a
@[simp] theorem is_none : cmpD .is .none .none = some true := Eq.trans rfl rfl
@[simp] theorem is_noneI (i : Int) : cmpD .is (.int i) .none = some false := Eq.trans rfl rfl
theorem c_tower_step {k p : Nat} (hp : p = 2 ∨ p = 3) {s : List (Int × Int)} (o : okS s) (g : G) : callK tabK WW (k + 1) 34 [.int p, encS s] g = .ok (optD (tst p s)) g := by
  refine call_rts rfl rfl rfl ?_
  refine rts_p (ρ1 := [some (.frz (.int p)), some (.frz (encS s)), some (.frz .none), none, none, none]) (by simp) ?_
  refine rts_fold encP (fun a ρ => ∃ x y z, ρ = [some (.frz (.int p)), some (.frz (encS s)), some (.frz (optD a)), x, y, z]) (tstF p) s none (by simp) ⟨none, none, none, rfl⟩ (fun a x hx ρ hj => ?_) (fun ρ' hj => ?_)
  · obtain ⟨y, z, u, rfl⟩ := hj
    have ob := (o x hx).b
    by_cases c1 : x.1 = 0
    · by_cases c2 : x.2 = 0
      · refine ⟨_, ?_, some (.frz (.int x.1)), some (.frz (.int x.2)), u, rfl⟩
        simp [forF, tstF, isC, c1, c2]
      · have m0 : ∀ v : Int, binD .mod (.int v) (.int (p : Int)) = some (.int (v % p)) := fun v => b_mod v p (by omega)
        have d0 : ∀ v : Int, binD .fdiv (.int v) (.int (p : Int)) = some (.int (v / p)) := fun v => b_fdiv v p (by omega) (by rw [Int.natAbs_natCast]; exact log2_small (by omega))
        obtain ⟨a', ⟨p1, p2, p3⟩, hc', e⟩ := whl_go (call := callK tabK WW k) (W := WW) (c := .cmp .eq (.bin .mod (.var 4) (.var 0)) (.cst (PyData.int 0))) (b := .seq (.asg (.nm 4) (.bin .fdiv (.var 4) (.var 0))) (.asg (.nm 5) (.bin .add (.var 5) (.cst (PyData.int 1))))) (g := g)
          (fun q : Int × Nat => [some (.frz (.int p)), some (.frz (encS s)), some (.frz (optD a)), some (.frz (.int x.1)), some (.frz (.int q.1)), some (.frz (.int q.2))]) (fun q => decide (q.1 % (p : Int) = 0)) (fun q => (q.1 / (p : Int), q.2 + 1))
          (fun q => q.1 ≠ 0 ∧ q.1.natAbs * 2 ^ q.2 ≤ 9 ∧ q.2 + pin p (8 - q.2) q.1 = pin p 8 x.2) (fun q => q.1.natAbs) (fun q hq => by simp [m0]) (fun q hq hc => by simp [d0]) (fun q hq hc => by
            obtain ⟨q1, q2, q3⟩ := hq
            have hc := of_decide_eq_true hc
            have hn : (q.1 / (p : Int)) ≠ 0 ∧ (q.1 / (p : Int)).natAbs * 2 ≤ q.1.natAbs ∧ (q.1 / (p : Int)).natAbs < q.1.natAbs := by
              rcases hp with rfl | rfl <;> omega
            have hq2 : q.2 < 8 := by
              rcases Nat.lt_or_ge q.2 8 with z | z
              · exact z
              · have z1 : 2 ^ 8 ≤ 2 ^ q.2 := Nat.pow_le_pow_right (by omega) z
                have z2 : 1 * 2 ^ q.2 ≤ q.1.natAbs * 2 ^ q.2 := Nat.mul_le_mul_right _ (by omega)
                omega
            refine ⟨⟨hn.1, ?_, ?_⟩, hn.2.2⟩
            · show (q.1 / (p : Int)).natAbs * 2 ^ (q.2 + 1) ≤ 9
              have z1 : (q.1 / (p : Int)).natAbs * 2 * 2 ^ q.2 ≤ q.1.natAbs * 2 ^ q.2 := Nat.mul_le_mul_right _ hn.2.1
              have z2 : (q.1 / (p : Int)).natAbs * 2 ^ (q.2 + 1) = (q.1 / (p : Int)).natAbs * 2 * 2 ^ q.2 := by rw [Nat.pow_succ]; ac_rfl
              omega
            · rw [← q3]
              have e : 8 - q.2 = (8 - (q.2 + 1)) + 1 := by omega
              rw [e]
              show q.2 + 1 + pin p (8 - (q.2 + 1)) (q.1 / (p : Int)) = q.2 + pin p ((8 - (q.2 + 1)) + 1) q.1
              conv => rhs; unfold pin
              rw [if_pos hc]
              omega) (x.2, 0) ⟨c2, by show x.2.natAbs * 2 ^ 0 ≤ 9; omega, by simp⟩ (by show x.2.natAbs < 2000; omega)
        have hc' := of_decide_eq_false hc'
        have hq2 : a'.2 < 8 := by
          rcases Nat.lt_or_ge a'.2 8 with z | z
          · exact z
          · have z1 : 2 ^ 8 ≤ 2 ^ a'.2 := Nat.pow_le_pow_right (by omega) z
            have z2 : 1 * 2 ^ a'.2 ≤ a'.1.natAbs * 2 ^ a'.2 := Nat.mul_le_mul_right _ (by omega)
            omega
        have hv : a'.2 = vl p x := by
          have e : 8 - a'.2 = (8 - (a'.2 + 1)) + 1 := by omega
          rw [e] at p3
          unfold pin at p3
          rw [if_neg hc'] at p3
          exact p3
        refine ⟨_, ?_, some (.frz (.int x.1)), some (.frz (.int a'.1)), some (.frz (.int a'.2)), rfl⟩
        have hic : isC x = true := by simp [isC, c1, c2]
        have e' : exS (callK tabK WW k) WW (.whl (.cmp .eq (.bin .mod (.var 4) (.var 0)) (.cst (PyData.int 0))) (.seq (.asg (.nm 4) (.bin .fdiv (.var 4) (.var 0))) (.asg (.nm 5) (.bin .add (.var 5) (.cst (PyData.int 1)))))) [some (.frz (.int p)), some (.frz (encS s)), some (.frz (optD a)), some (.frz (.int x.1)), some (.frz (.int x.2)), some (.frz (.int 0))] g = _ := e
        rw [c1] at e'
        cases a with
        | none =>
          simp only [optD] at e'
          simp [forF, c1, c2, e', tstF, hic, optD, hv]
        | some a =>
          have em : (if (a'.2 : Int) < (a : Int) then (a'.2 : Int) else (a : Int)) = ((min a (vl p x) : Nat) : Int) := by
            rw [hv]
            split <;> omega
          simp only [optD] at e'
          simp [forF, c1, c2, e', tstF, hic, optD]
          rw [← em]
          split <;> split <;> omega
    · refine ⟨_, ?_, some (.frz (.int x.1)), some (.frz (.int x.2)), u, rfl⟩
      simp [forF, tstF, isC, c1]
  · obtain ⟨y, z, u, rfl⟩ := hj
    exact rts_ret (by simp [tst])
end Mini

set_option maxRecDepth 100000
set_option maxHeartbeats 2000000
namespace Mini
open PySem L2 Evl
/-! ### indices -/
abbrev manyD : D := .str (Str.ofString "many")
theorem c_in_ring {k p n : Nat} (h : PN p n) {s t : List (Int × Int)} (o : okS s) (o' : okS t) (hl : s.length + t.length ≤ 1000) (g : G) : callK tabK WW (k + 3) 35 [ringD p n, encS s, encS t] g = .ok (.int ((p ^ (st p n (s ++ t) - st p n s) : Nat) : Int)) g := by
  refine call_rts rfl rfl rfl ?_
  refine rts_p (ρ1 := [some (.frz (ringD p n)), some (.frz (encS s)), some (.frz (encS t)), some (.frz (encS (s ++ t))), none, none]) (by simp [addS hl]) ?_
  have e1 := c_ring_step (k := k) h s g
  have e2 := c_ring_step (k := k) h (s ++ t) g
  have hle : st p n s ≤ st p n (s ++ t) := by rw [st_append]; exact Nat.le_max_left ..
  have hs := h.small
  have e3 : callK tabK WW (k + 2) 8 [.int (p : Int), .int (((st p n (s ++ t) : Nat) : Int) - ((st p n s : Nat) : Int))] g = .ok (.int ((p ^ (st p n (s ++ t) - st p n s) : Nat) : Int)) g := by
    rw [← Int.natCast_sub hle]
    exact c_raised (k := k + 1) (b := p) (t := st p n (s ++ t) - st p n s) (by omega) (by have := st_le h (o.append o'); omega) g
  refine rts_rt (ρ1 := [some (.frz (ringD p n)), some (.frz (encS s)), some (.frz (encS t)), some (.frz (encS (s ++ t))), none, none]) ?_
  simp [e1, e2, e3]
def wIdx (s t : List (Int × Int)) : D := if wst s = 0 then .int 1 else if wst (s ++ t) = 0 then manyD else .int (wst (s ++ t) / wst s)
theorem c_in_whole {k : Nat} {s t : List (Int × Int)} (o : okS s) (o' : okS t) (hl : s.length + t.length ≤ 1000) (g : G) : callK tabK WW (k + 3) 35 [wholeD, encS s, encS t] g = .ok (wIdx s t) g := by
  refine call_rts rfl rfl rfl ?_
  refine rts_p (ρ1 := [some (.frz wholeD), some (.frz (encS s)), some (.frz (encS t)), some (.frz (encS (s ++ t))), none, none]) (by simp [addS hl]) ?_
  refine rts_p (ρ1 := [some (.frz wholeD), some (.frz (encS s)), some (.frz (encS t)), some (.frz (encS (s ++ t))), none, none]) (by simp) ?_
  have e1 : callK tabK WW (k + 2) 32 [encS s] g = _ := c_whole_step (k := k + 1) o g
  have e2 : callK tabK WW (k + 2) 32 [encS (s ++ t)] g = _ := c_whole_step (k := k + 1) (o.append o') g
  have b1 := d72_b (wst_mem o)
  by_cases c1 : wst s = 0
  · refine rts_rt (ρ1 := [some (.frz wholeD), some (.frz (encS s)), some (.frz (encS t)), some (.frz (encS (s ++ t))), some (.frz (.int (wst s))), some (.frz (.int (wst (s ++ t))))]) ?_
    simp [e1, e2, c1, wIdx]
  · refine rts_rt (ρ1 := [some (.frz wholeD), some (.frz (encS s)), some (.frz (encS t)), some (.frz (encS (s ++ t))), some (.frz (.int (wst s))), some (.frz (.int (wst (s ++ t))))]) ?_
    have d1 := b_fdiv (wst (s ++ t)) (wst s) (by omega) (log2_small (by omega))
    by_cases c2 : wst (s ++ t) = 0 <;> simp [e1, e2, c1, c2, wIdx, d1]
def fIdx (s t : List (Int × Int)) : D := if (s ++ t).any isC = true ∧ s.any isC = false then manyD else .int 1
theorem c_in_frac {k : Nat} {s t : List (Int × Int)} (hl : s.length + t.length ≤ 1000) (g : G) : callK tabK WW (k + 3) 35 [fracD, encS s, encS t] g = .ok (fIdx s t) g := by
  refine call_rts rfl rfl rfl ?_
  refine rts_p (ρ1 := [some (.frz fracD), some (.frz (encS s)), some (.frz (encS t)), some (.frz (encS (s ++ t))), none, none]) (by simp [addS hl]) ?_
  refine rts_p (ρ1 := [some (.frz fracD), some (.frz (encS s)), some (.frz (encS t)), some (.frz (encS (s ++ t))), none, none]) (by simp) ?_
  refine rts_p (ρ1 := [some (.frz fracD), some (.frz (encS s)), some (.frz (encS t)), some (.frz (encS (s ++ t))), none, none]) (by simp) ?_
  have e1 : callK tabK WW (k + 2) 33 [encS s] g = _ := c_is_cut (k := k + 1) (by omega) g
  have e2 : callK tabK WW (k + 2) 33 [encS (s ++ t)] g = _ := c_is_cut (k := k + 1) (by rw [List.length_append]; omega) g
  refine rts_rt (ρ1 := [some (.frz fracD), some (.frz (encS s)), some (.frz (encS t)), some (.frz (encS (s ++ t))), none, none]) ?_
  unfold fIdx
  cases c1 : (s ++ t).any isC <;> cases c2 : s.any isC <;> simp only [c1, c2] at e1 e2 <;> simp [e1, e2]
def tIdx (p : Nat) (s t : List (Int × Int)) : D := match tst p s, tst p (s ++ t) with
  | none, none => .int 1
  | none, some _ => manyD
  | some a, some b => .int ((p ^ (a - b) : Nat) : Int)
  | some _, none => .none
theorem c_in_tow {k p : Nat} (hp : p = 2 ∨ p = 3) {s t : List (Int × Int)} (o : okS s) (o' : okS t) (hl : s.length + t.length ≤ 1000) (g : G) : callK tabK WW (k + 3) 35 [towD p, encS s, encS t] g = .ok (tIdx p s t) g := by
  refine call_rts rfl rfl rfl ?_
  refine rts_p (ρ1 := [some (.frz (towD p)), some (.frz (encS s)), some (.frz (encS t)), some (.frz (encS (s ++ t))), none, none]) (by simp [addS hl]) ?_
  refine rts_p (ρ1 := [some (.frz (towD p)), some (.frz (encS s)), some (.frz (encS t)), some (.frz (encS (s ++ t))), none, none]) (by simp) ?_
  refine rts_p (ρ1 := [some (.frz (towD p)), some (.frz (encS s)), some (.frz (encS t)), some (.frz (encS (s ++ t))), none, none]) (by simp) ?_
  refine rts_p (ρ1 := [some (.frz (towD p)), some (.frz (encS s)), some (.frz (encS t)), some (.frz (encS (s ++ t))), none, none]) (by simp) ?_
  have e1 : callK tabK WW (k + 2) 34 [.int p, encS s] g = _ := c_tower_step (k := k + 1) hp o g
  have e2 : callK tabK WW (k + 2) 34 [.int p, encS (s ++ t)] g = _ := c_tower_step (k := k + 1) hp (o.append o') g
  refine rts_p (ρ1 := [some (.frz (towD p)), some (.frz (encS s)), some (.frz (encS t)), some (.frz (encS (s ++ t))), some (.frz (optD (tst p s))), some (.frz (optD (tst p (s ++ t))))]) (by simp [e1, e2]) ?_
  cases c1 : tst p s with
  | none =>
    refine rts_rt (ρ1 := [some (.frz (towD p)), some (.frz (encS s)), some (.frz (encS t)), some (.frz (encS (s ++ t))), some (.frz (optD none)), some (.frz (optD (tst p (s ++ t))))]) ?_
    unfold tIdx
    rw [c1]
    cases c2 : tst p (s ++ t) <;> simp [optD]
  | some a =>
    obtain ⟨b, c2, hb⟩ := tst_append (t := t) c1
    have ha := tst_le (a := none) (fun c hc => by cases hc) c1
    refine rts_p (ρ1 := [some (.frz (towD p)), some (.frz (encS s)), some (.frz (encS t)), some (.frz (encS (s ++ t))), some (.frz (optD (some a))), some (.frz (optD (tst p (s ++ t))))]) (by simp [optD]) ?_
    have e3 : callK tabK WW (k + 2) 8 [.int (p : Int), .int ((a : Int) - (b : Int))] g = .ok (.int ((p ^ (a - b) : Nat) : Int)) g := by
      rw [← Int.natCast_sub hb]
      exact c_raised (k := k + 1) (b := p) (t := a - b) (by omega) (by omega) g
    refine rts_ret ?_
    unfold tIdx
    rw [c1, c2]
    simp [optD, e3]
end Mini

set_option maxRecDepth 100000
set_option maxHeartbeats 2000000
namespace Mini
open PySem L2 Evl
/-! ### index_here, index_of -/
def sg (p n c : Nat) : D × D := (ringD p n, .int (c : Int))
def grD (g : Gr) : List (D × D) := g.map fun x => sg x.1 x.2.1 x.2.2
def encG (g : Gr) : D := encGG (grD g)
theorem encG_eq (g : Gr) : encG g = .tuple (g.map fun x => sumD (sg x.1 x.2.1 x.2.2)) := by
  unfold encG encGG grD
  rw [List.map_map]
  rfl
theorem ltL_ring {p n p' n' : Nat} (h : p < p' ∨ (p = p' ∧ n < n')) : ltL [0, (p : Int), n] [0, (p' : Int), n'] = true := by
  unfold ltL
  rw [PySem.W.dataLt_list]
  simp only [List.map_cons, List.map_nil]
  rw [PySem.W.dataLt_cons rfl, if_pos (by simp [PyData.eqv]), PySem.W.dataLt_cons rfl]
  by_cases e : p = p'
  · subst e
    rw [if_pos (by simp [PyData.eqv]), PySem.W.dataLt_cons rfl, if_neg (by simp [PyData.eqv]; omega), PySem.W.dataLt_int]
    simp; omega
  · rw [if_neg (by simp [PyData.eqv]; omega), PySem.W.dataLt_int]
    simp; omega
def ordG : D × D → List Int
  | (.tuple [_, .int p, .int n], _) => [0, p, n]
  | _ => []
theorem NG.okGG {g : Gr} (h : NG g) : OkGG (grD g) ordG := by
  refine ⟨by rw [grD, List.length_map]; exact h.len, fun x hx => ?_, fun i hi => ?_⟩
  · obtain ⟨y, hy, rfl⟩ := List.mem_map.mp hx
    exact ⟨OkK.ring (h.ok y hy), OkC.num (h.cop y hy).1 (h.cop y hy).2⟩
  · have hl : i + 1 < g.length := by rw [grD, List.length_map] at hi; exact hi
    have e1 : (grD g)[i]'(by omega) = sg (g[i]).1 (g[i]).2.1 (g[i]).2.2 := by simp [grD]
    have e2 : (grD g)[i + 1] = sg (g[i + 1]).1 (g[i + 1]).2.1 (g[i + 1]).2.2 := by simp [grD]
    rw [e1, e2]
    exact ltL_ring (List.pairwise_iff_getElem.mp h.asc i (i + 1) (by omega) hl (Nat.lt_succ_self i))
theorem OkGG.one {kd c : D} {o : List Int} (hk : OkK kd o) (hc : OkC c) : OkGG [(kd, c)] (fun _ => o) := ⟨by simp, fun x hx => by
  obtain rfl := List.mem_singleton.mp hx
  exact ⟨hk, hc⟩, fun i hi => by simp at hi⟩
theorem wprod_lt {w : Nat → Nat → Nat} : ∀ {g : Gr}, (∀ x ∈ g, w x.1 x.2.1 < 2 ^ 64 ∧ x.2.2 ≤ 1000) → wprod w g < 2 ^ (64001 * g.length + 1)
  | [], _ => by simp [wprod]
  | (p, n, c) :: g, h => by
    have h1 := h (p, n, c) (List.mem_cons_self ..)
    have h2 := wprod_lt (w := w) (g := g) fun x hx => h x (List.mem_cons_of_mem _ hx)
    have h3 := pow_lt h1.1 h1.2
    rw [wprod, List.length_cons]
    have h4 : w p n ^ c * wprod w g < 2 ^ 64001 * 2 ^ (64001 * g.length + 1) := Nat.mul_lt_mul'' h3 h2
    have h5 : 2 ^ 64001 * 2 ^ (64001 * g.length + 1) = 2 ^ (64001 * (g.length + 1) + 1) := by
      rw [← Nat.pow_add]
      congr 1
      omega
    rw [← h5]
    exact h4
theorem c_here {k : Nat} {gr : Gr} (hg : NG gr) {s t : List (Int × Int)} (o : okS s) (o' : okS t) (hl : s.length + t.length ≤ 1000) (g : G) : callK tabK WW (k + 4) 36 [encG gr, encS s, encS t] g = .ok (.int ((idx gr s t : Nat) : Int)) g := by
  refine call_rts rfl rfl rfl ?_
  refine rts_p (ρ1 := [some (.frz (encG gr)), some (.frz (encS s)), some (.frz (encS t)), some (.frz (.int 1)), none, none, none]) (by simp) ?_
  refine rts_go (xs := gr.map fun x => sumD (sg x.1 x.2.1 x.2.2)) (fun i ρ => ∃ x y z, ρ = [some (.frz (encG gr)), some (.frz (encS s)), some (.frz (encS t)), some (.frz (.int ((idx (gr.take i) s t : Nat) : Int))), x, y, z]) (by simp [encG_eq]) ⟨none, none, none, rfl⟩ (fun j hj ρ hI => ?_) (fun ρ' hI => ?_)
  · obtain ⟨y, z, u, rfl⟩ := hI
    have hj' : j < gr.length := by rw [List.length_map] at hj; exact hj
    rw [List.getElem_map]
    have hm : gr[j] ∈ gr := List.getElem_mem hj'
    have hpn := hg.ok _ hm
    have hc := hg.cop _ hm
    have hs := hpn.small
    have e1 : callK tabK WW (k + 3) 35 [ringD (gr[j]).1 (gr[j]).2.1, encS s, encS t] g = _ := c_in_ring (k := k) hpn o o' hl g
    have hw : (gr[j]).1 ^ (st (gr[j]).1 (gr[j]).2.1 (s ++ t) - st (gr[j]).1 (gr[j]).2.1 s) ≤ 343 := by
      refine Nat.le_trans (Nat.pow_le_pow_right (by omega) ?_) hs.2.2.2.2
      have := st_le hpn (o.append o')
      omega
    have e3 : callK tabK WW (k + 3) 8 [.int (((gr[j]).1 ^ (st (gr[j]).1 (gr[j]).2.1 (s ++ t) - st (gr[j]).1 (gr[j]).2.1 s) : Nat) : Int), .int (((gr[j]).2.2 : Nat) : Int)] g = _ := c_raised (k := k + 2) (by omega) hc.2 g
    have hidx : idx (gr.take (j + 1)) s t = idx (gr.take j) s t * ((gr[j]).1 ^ (st (gr[j]).1 (gr[j]).2.1 (s ++ t) - st (gr[j]).1 (gr[j]).2.1 s)) ^ (gr[j]).2.2 := by
      rw [List.take_succ_eq_append_getElem hj']
      unfold idx
      rw [wprod_append]
      congr 1
      show _ ^ _ * 1 = _
      rw [Nat.mul_one]
      rfl
    have hb : idx (gr.take j) s t < 2 ^ (64001 * (gr.take j).length + 1) := wprod_lt fun x hx => by
      have hx' := List.mem_of_mem_take hx
      have q := (hg.ok x hx').small
      refine ⟨?_, (hg.cop x hx').2⟩
      have : x.1 ^ (st x.1 x.2.1 (s ++ t) - st x.1 x.2.1 s) ≤ x.1 ^ x.2.1 := Nat.pow_le_pow_right (by omega) (by have := st_le (hg.ok x hx') (o.append o'); omega)
      omega
    have hlen : (gr.take j).length ≤ 12 := by rw [List.length_take]; have := hg.len; omega
    have m1 : binD .mul (.int ((idx (gr.take j) s t : Nat) : Int)) (.int ((((gr[j]).1 ^ (st (gr[j]).1 (gr[j]).2.1 (s ++ t) - st (gr[j]).1 (gr[j]).2.1 s)) ^ (gr[j]).2.2 : Nat) : Int)) = some (.int ((idx (gr.take (j + 1)) s t : Nat) : Int)) := by
      rw [b_mul _ _ (okMul_n hb (pow_lt (by omega) hc.2) (by omega)), hidx, Int.natCast_mul]
    generalize (gr[j]).1 ^ (st (gr[j]).1 (gr[j]).2.1 (s ++ t) - st (gr[j]).1 (gr[j]).2.1 s) = w at *
    refine ⟨_, ?_, some (.frz (ringD (gr[j]).1 (gr[j]).2.1)), some (.frz (.int (((gr[j]).2.2 : Nat) : Int))), some (.frz (.int (w : Int))), rfl⟩
    by_cases c1 : w = 1
    · have e5 : idx (gr.take (j + 1)) s t = idx (gr.take j) s t := by rw [hidx, c1, Nat.one_pow, Nat.mul_one]
      subst c1
      simp [forF, sg, e1, e5]
    · have c1' : ¬ ((w : Int) = 1) := by omega
      have e3' : callK tabK WW (k + 3) 8 [.int (w : Int), .int (((gr[j]).2.2 : Nat) : Int)] g = _ := e3
      simp only [forF, sg, sda, q_of, q_bind, List.set_cons_zero, List.set_cons_succ, x_seq, x_asg, e_call, e_cons, e_var, e_nil, List.getElem?_cons_zero, List.getElem?_cons_succ, varD_frz, e1, t_nm, seqR_nx, x_ife, e_or, e_and, e_cmp, e_cst, k_eqIS okM, q_asB, Bool.false_eq_true, if_false, x_skip, k_ne, c1', decide_false, Bool.not_false, if_true, e_bin, e3', m1]
  · obtain ⟨y, z, u, rfl⟩ := hI
    rw [List.length_map, List.take_length]
    exact rts_ret (by simp)
theorem c_index_of {k : Nat} {gr : Gr} (hg : NG gr) {s t : List (Int × Int)} (o : okS s) (o' : okS t) (hl : s.length + t.length ≤ 1000) (g : G) : callK tabK WW (k + 6) 37 [encG gr, encS s, encS t] g = .ok (.int ((idx gr s t : Nat) : Int)) g := by
  have e1 : callK tabK WW (k + 5) 7 [encG gr] g = _ := c_need_group (k := k) hg.okGG g
  have e2 : callK tabK WW (k + 5) 30 [encS s] g = _ := c_need_shape (k := k + 2) o g
  have e3 : callK tabK WW (k + 5) 30 [encS t] g = _ := c_need_shape (k := k + 2) o' g
  have e4 : callK tabK WW (k + 5) 36 [encG gr, encS s, encS t] g = _ := c_here (k := k + 1) hg o o' hl g
  refine call_rts (ρ0 := [some (.frz (encG gr)), some (.frz (encS s)), some (.frz (encS t))]) rfl rfl rfl ?_
  refine rts_p (ρ1 := [some (.frz (encG gr)), some (.frz (encS s)), some (.frz (encS t))]) (by simp [e1]) ?_
  refine rts_p (ρ1 := [some (.frz (encG gr)), some (.frz (encS s)), some (.frz (encS t))]) (by simp [e2]) ?_
  refine rts_p (ρ1 := [some (.frz (encG gr)), some (.frz (encS s)), some (.frz (encS t))]) (by simp [e3]) ?_
  exact rts_ret (by simp [e4])
/-- the index in one summand -/
def oneIdx (own c : D) : D := match own with
  | .int o => match c with
    | .int c => .int (o ^ c.toNat)
    | _ => if o = 1 then .int 1 else manyD
  | _ => manyD
theorem c_one {k : Nat} {kd c : D} {ko : List Int} (hk : OkK kd ko) (hc : OkC c) (hc' : (∃ n : Nat, c = .int n ∧ n ≤ 1000) ∨ c = manyD) {s t : List (Int × Int)} (o : okS s) (o' : okS t) {own : D} (hw : (∃ w : Nat, own = .int w ∧ w < 2 ^ 64) ∨ own = manyD) (g : G) (hi : ∀ k, callK tabK WW (k + 3) 35 [kd, encS s, encS t] g = .ok own g) :
    callK tabK WW (k + 6) 37 [encGG [(kd, c)], encS s, encS t] g = .ok (oneIdx own c) g := by
  have e1 : callK tabK WW (k + 5) 7 [encGG [(kd, c)]] g = _ := c_need_group (k := k) (OkGG.one hk hc) g
  have e2 : callK tabK WW (k + 5) 30 [encS s] g = _ := c_need_shape (k := k + 2) o g
  have e3 : callK tabK WW (k + 5) 30 [encS t] g = _ := c_need_shape (k := k + 2) o' g
  have e4 : callK tabK WW (k + 5) 36 [encGG [(kd, c)], encS s, encS t] g = .ok (oneIdx own c) g := by
    refine call_rts rfl rfl rfl ?_
    refine rts_p (ρ1 := [some (.frz (encGG [(kd, c)])), some (.frz (encS s)), some (.frz (encS t)), some (.frz (.int 1)), none, none, none]) (by simp) ?_
    have e5 := hi (k + 1)
    have ei : evI (callK tabK WW (k + 4)) (.seqT (.var 0)) [some (.frz (encGG [(kd, c)])), some (.frz (encS s)), some (.frz (encS t)), some (.frz (.int 1)), none, none, none] g = .ok [sumD (kd, c)] g := by simp [encGG]
    have loop : ∀ (f : Fl) (ρ' : Env1), forF (callK tabK WW (k + 4)) WW (.tp [4, 5]) (.seq (.asg (.nm 6) (.call 35 (.cons (.var 4) (.cons (.var 1) (.cons (.var 2) .nil))))) (.seq (.ife (.or (.cmp .eq (.var 6) (.cst (PyData.str (Str.ofString "many")))) (.and (.cmp .eq (.var 5) (.cst (PyData.str (Str.ofString "many")))) (.cmp .ne (.var 6) (.cst (PyData.int 1))))) (.ret (.cst (PyData.str (Str.ofString "many")))) .skip) (.ife (.cmp .ne (.var 6) (.cst (PyData.int 1))) (.asg (.nm 3) (.bin .mul (.var 3) (.call 8 (.cons (.var 6) (.cons (.var 5) .nil))))) .skip))) (sumD (kd, c)) [some (.frz (encGG [(kd, c)])), some (.frz (encS s)), some (.frz (encS t)), some (.frz (.int 1)), none, none, none] g = .ok (f, ρ') g →
      (f = .rt (oneIdx own c) ∨ (f = .nx ∧ ρ'[3]? = some (some (.frz (oneIdx own c))))) → Rts (callK tabK WW (k + 4)) WW (.seq (.forr (.tp [4, 5]) (.seqT (.var 0)) (.seq (.asg (.nm 6) (.call 35 (.cons (.var 4) (.cons (.var 1) (.cons (.var 2) .nil))))) (.seq (.ife (.or (.cmp .eq (.var 6) (.cst (PyData.str (Str.ofString "many")))) (.and (.cmp .eq (.var 5) (.cst (PyData.str (Str.ofString "many")))) (.cmp .ne (.var 6) (.cst (PyData.int 1))))) (.ret (.cst (PyData.str (Str.ofString "many")))) .skip) (.ife (.cmp .ne (.var 6) (.cst (PyData.int 1))) (.asg (.nm 3) (.bin .mul (.var 3) (.call 8 (.cons (.var 6) (.cons (.var 5) .nil))))) .skip)))) (.ret (.var 3))) [some (.frz (encGG [(kd, c)])), some (.frz (encS s)), some (.frz (encS t)), some (.frz (.int 1)), none, none, none] g (oneIdx own c) g := by
      intro f ρ' e h
      rcases h with rfl | ⟨rfl, h⟩
      · refine rts_rt (ρ1 := ρ') ?_
        rw [x_forr, ei, q_bind]
        unfold forR
        rw [e]
        rfl
      · refine rts_p (ρ1 := ρ') ?_ (rts_ret (by rw [e_var, h, varD_frz]))
        rw [x_forr, ei, q_bind]
        unfold forR
        rw [e]
        rfl
    rcases hw with ⟨w, rfl, hwl⟩ | rfl
    · rcases hc' with ⟨n, rfl, hn⟩ | rfl
      · have e6 : callK tabK WW (k + 4) 8 [.int (w : Int), .int (n : Int)] g = _ := c_raised (k := k + 3) hwl hn g
        have e7 : oneIdx (.int w) (.int n) = .int ((w ^ n : Nat) : Int) := by simp [oneIdx]
        have m1 : binD .mul (.int 1) (.int ((w ^ n : Nat) : Int)) = some (.int ((w ^ n : Nat) : Int)) := by
          rw [b_mul _ _ (okMul_l (by omega) (by omega)), Int.one_mul]
        rw [e7] at loop ⊢
        by_cases c1 : w = 1
        · subst c1
          refine loop .nx [some (.frz (encGG [(kd, (.int (n : Int)))])), some (.frz (encS s)), some (.frz (encS t)), some (.frz (.int 1)), some (.frz kd), some (.frz (.int (n : Int))), some (.frz (.int 1))] (by simp [forF, e5]) (.inr ⟨rfl, by simp⟩)
        · have c1' : ¬ ((w : Int) = 1) := by omega
          exact loop .nx [some (.frz (encGG [(kd, .int (n : Int))])), some (.frz (encS s)), some (.frz (encS t)), some (.frz (.int ((w ^ n : Nat) : Int))), some (.frz kd), some (.frz (.int (n : Int))), some (.frz (.int (w : Int)))] (by
            simp only [forF, sda, q_of, q_bind, List.set_cons_zero, List.set_cons_succ, x_seq, x_asg, e_call, e_cons, e_var, e_nil, List.getElem?_cons_zero, List.getElem?_cons_succ, varD_frz, e5, t_nm, seqR_nx, x_ife, e_or, e_and, e_cmp, e_cst, k_eqIS okM, q_asB, Bool.false_eq_true, if_false, x_skip, k_ne, c1', decide_false, Bool.not_false, if_true, e_bin, e6, m1]) (.inr ⟨rfl, rfl⟩)
      · by_cases c1 : w = 1
        · subst c1
          refine loop .nx [some (.frz (encGG [(kd, manyD)])), some (.frz (encS s)), some (.frz (encS t)), some (.frz (.int 1)), some (.frz kd), some (.frz manyD), some (.frz (.int 1))] (by simp [forF, e5]) (.inr ⟨rfl, by simp [oneIdx]⟩)
        · have c1' : ¬ ((w : Int) = 1) := by omega
          have e7 : oneIdx (.int w) manyD = manyD := by simp [oneIdx, c1']
          refine loop (.rt manyD) [some (.frz (encGG [(kd, manyD)])), some (.frz (encS s)), some (.frz (encS t)), some (.frz (.int 1)), some (.frz kd), some (.frz manyD), some (.frz (.int (w : Int)))] (by simp [forF, e5, c1']) (.inl (by rw [e7]))
    · refine loop (.rt manyD) [some (.frz (encGG [(kd, c)])), some (.frz (encS s)), some (.frz (encS t)), some (.frz (.int 1)), some (.frz kd), some (.frz c), some (.frz manyD)] (by simp [forF, e5]) (.inl rfl)
  refine call_rts (ρ0 := [some (.frz (encGG [(kd, c)])), some (.frz (encS s)), some (.frz (encS t))]) rfl rfl rfl ?_
  refine rts_p (ρ1 := [some (.frz (encGG [(kd, c)])), some (.frz (encS s)), some (.frz (encS t))]) (by simp [e1]) ?_
  refine rts_p (ρ1 := [some (.frz (encGG [(kd, c)])), some (.frz (encS s)), some (.frz (encS t))]) (by simp [e2]) ?_
  refine rts_p (ρ1 := [some (.frz (encGG [(kd, c)])), some (.frz (encS s)), some (.frz (encS t))]) (by simp [e3]) ?_
  exact rts_ret (by simp [e4])
end Mini

set_option maxRecDepth 100000
set_option maxHeartbeats 2000000
namespace Mini
open PySem L2 Evl
/-! ### the law's own reckoning -/
@[simp] theorem k_eqB (a b : Bool) : cmpD .eq (.bool a) (.bool b) = some (decide (a = b)) := by
  have h : SeqAt.shaped (.bool a) = true ∧ SeqAt.shaped (.bool b) = true := ⟨rfl, rfl⟩
  have e : PyData.eqv (.bool a) (.bool b) = decide (a = b) := by cases a <;> cases b <;> rfl
  show (if SeqAt.shaped (.bool a) = true ∧ SeqAt.shaped (.bool b) = true then some (PyData.eqv (.bool a) (.bool b)) else none) = _
  rw [if_pos h, e]
@[simp] theorem is_noneS (s : Str) : cmpD .is (.str s) .none = some false := Eq.trans rfl rfl
theorem c_like_int {k : Nat} (i : Int) (g : G) : callK tabK WW (k + 1) 41 [.int i, .int i] g = .ok (.bool true) g := by
  refine call_rts (ρ0 := [some (.frz (.int i)), some (.frz (.int i)), none]) rfl rfl rfl ?_
  refine rts_p (ρ1 := [some (.frz (.int i)), some (.frz (.int i)), none]) (by simp) ?_
  refine rts_p (ρ1 := [some (.frz (.int i)), some (.frz (.int i)), none]) (by simp) ?_
  refine rts_p (ρ1 := [some (.frz (.int i)), some (.frz (.int i)), none]) (by simp) ?_
  exact rts_ret (by simp)
theorem c_like_many {k : Nat} (g : G) : callK tabK WW (k + 1) 41 [manyD, manyD] g = .ok (.bool true) g := by
  refine call_rts (ρ0 := [some (.frz manyD), some (.frz manyD), none]) rfl rfl rfl ?_
  refine rts_p (ρ1 := [some (.frz manyD), some (.frz manyD), none]) (by simp) ?_
  refine rts_p (ρ1 := [some (.frz manyD), some (.frz manyD), none]) (by simp) ?_
  refine rts_rt (ρ1 := [some (.frz manyD), some (.frz manyD), none]) (by simp)
theorem c_power {k b t : Nat} (hb : b < 2 ^ 64) (ht : t ≤ 1000) (g : G) : callK tabK WW (k + 1) 42 [.int b, .int t] g = .ok (.int ((b ^ t : Nat) : Int)) g := by
  refine call_rts rfl rfl rfl ?_
  refine rts_p (ρ1 := [some (.frz (.int b)), some (.frz (.int t)), some (.frz (.int 1)), none]) (by simp) ?_
  refine rts_go (xs := (List.range t).map fun (i : Nat) => PyData.int (i : Int)) (fun i ρ => ∃ x, ρ = [some (.frz (.int b)), some (.frz (.int t)), some (.frz (.int ((b ^ i : Nat) : Int))), x]) (by simp [rngR_n t g (by omega)]) ⟨none, rfl⟩ (fun j hj ρ hI => ?_) (fun ρ' hI => ?_)
  · obtain ⟨x, rfl⟩ := hI
    generalize ((List.range t).map fun (i : Nat) => PyData.int (i : Int))[j] = dv
    refine ⟨_, ?_, some (.frz dv), rfl⟩
    have m1 : binD .mul (.int ((b ^ j : Nat) : Int)) (.int (b : Int)) = some (.int ((b ^ (j + 1) : Nat) : Int)) := by
      rw [b_mul _ _ (okMul_r (by omega) (by omega)), Nat.pow_succ, Int.natCast_mul]
    simp only [forF, t_nm, q_of, q_bind, x_asg, e_bin, e_var, List.set_cons_zero, List.set_cons_succ, List.getElem?_cons_zero, List.getElem?_cons_succ, varD_frz, m1]
  · obtain ⟨x, rfl⟩ := hI
    rw [List.length_map, List.length_range]
    exact rts_ret (by simp)
/-! rows -/
abbrev iD (n : Nat) : D := .int (n : Int)
def encL (ms : List Nat) : D := .list (ms.map iD)
def encR (r : List Nat) : D := .tuple (r.map iD)
def encRs (R : List (List Nat)) : D := .list (R.map encR)
theorem modL_len : ∀ {gr : Gr}, (∀ x ∈ gr, x.2.2 ≤ 1000) → (modL gr).length ≤ 1000 * gr.length
  | [], _ => Nat.zero_le _
  | (p, n, c) :: gr, h => by
    have h1 : c ≤ 1000 := h (p, n, c) (List.mem_cons_self ..)
    have h2 := modL_len (gr := gr) fun x hx => h x (List.mem_cons_of_mem _ hx)
    rw [modL, List.length_append, List.length_replicate, List.length_cons]
    omega
theorem modL_append : ∀ (g h : Gr), modL (g ++ h) = modL g ++ modL h
  | [], h => rfl
  | (p, n, c) :: g, h => by
    show List.replicate c (p ^ n) ++ modL (g ++ h) = _
    rw [modL_append g h, modL, List.append_assoc]
theorem modL_one (x : Nat × Nat × Nat) : modL [x] = List.replicate x.2.2 (x.1 ^ x.2.1) := by
  obtain ⟨p, n, c⟩ := x
  simp [modL]
theorem rep_flat (c : Nat) (d : D) : (List.replicate c [d]).flatten = List.replicate c d := by
  induction c with
  | zero => rfl
  | succ c ih => rw [List.replicate_succ, List.flatten_cons, ih]; rfl
theorem mul_rep (m c : Nat) (h : c ≤ 1000) : binD .mul (.list [iD m]) (.int (c : Int)) = some (encL (List.replicate c m)) := by
  have h1 : (0 : Int) ≤ (c : Int) ∧ (c : Int) ≤ 1000 ∧ [iD m].length ≤ 1000 := ⟨by omega, by omega, by simp⟩
  show (if (0 : Int) ≤ (c : Int) ∧ (c : Int) ≤ 1000 ∧ [iD m].length ≤ 1000 then some (PyData.list (List.replicate (c : Int).toNat [iD m]).flatten) else none) = _
  rw [if_pos h1, Int.toNat_natCast, rep_flat, encL, List.map_replicate]
theorem add_L {a b : List Nat} (h : a.length + b.length ≤ 1000000) : binD .add (encL a) (encL b) = some (encL (a ++ b)) := by
  show (if (a.map iD).length + (b.map iD).length ≤ sizeLine then _ else none) = _
  rw [List.length_map, List.length_map, if_pos (Nat.le_trans h (by simp [sizeLine])), encL, List.map_append]
theorem c_moduli {k : Nat} {gr : Gr} (hg : NG gr) (g : G) : callK tabK WW (k + 2) 44 [encG gr] g = .ok (encL (modL gr)) g := by
  refine call_rts rfl rfl rfl ?_
  refine rts_p (ρ1 := [some (.frz (encG gr)), some (.frz (encL [])), none, none]) (by simp [encL]) ?_
  refine rts_go (xs := gr.map fun x => sumD (sg x.1 x.2.1 x.2.2)) (fun i ρ => ∃ x y, ρ = [some (.frz (encG gr)), some (.frz (encL (modL (gr.take i)))), x, y]) (by simp [encG_eq]) ⟨none, none, rfl⟩ (fun j hj ρ hI => ?_) (fun ρ' hI => ?_)
  · obtain ⟨y, z, rfl⟩ := hI
    have hj' : j < gr.length := by rw [List.length_map] at hj; exact hj
    rw [List.getElem_map]
    have hm : gr[j] ∈ gr := List.getElem_mem hj'
    have hs := (hg.ok _ hm).small
    have hc := hg.cop _ hm
    have e1 : callK tabK WW (k + 1) 42 [.int (((gr[j]).1 : Nat) : Int), .int (((gr[j]).2.1 : Nat) : Int)] g = _ := c_power (k := k) (by omega) (by omega) g
    have e2 := mul_rep ((gr[j]).1 ^ (gr[j]).2.1) (gr[j]).2.2 hc.2
    have hl : (modL (gr.take j)).length ≤ 1000 * 12 := by
      refine Nat.le_trans (modL_len fun x hx => (hg.cop x (List.mem_of_mem_take hx)).2) (Nat.mul_le_mul_left _ ?_)
      rw [List.length_take]
      have := hg.len
      omega
    have e3 : binD .add (encL (modL (gr.take j))) (encL (List.replicate (gr[j]).2.2 ((gr[j]).1 ^ (gr[j]).2.1))) = some (encL (modL (gr.take (j + 1)))) := by
      rw [add_L (by rw [List.length_replicate]; omega), List.take_succ_eq_append_getElem hj', modL_append]
      rw [modL_one]
    refine ⟨_, ?_, some (.frz (ringD (gr[j]).1 (gr[j]).2.1)), some (.frz (.int (((gr[j]).2.2 : Nat) : Int))), rfl⟩
    simp only [forF, sg, sda, q_of, q_bind, List.set_cons_zero, List.set_cons_succ, x_asg, e_bin, e_lst, e_call, e_cons, e_var, e_nil, e_ix, e_cst, kr1, kr2, List.getElem?_cons_zero, List.getElem?_cons_succ, varD_frz, e1, List.length_cons, List.length_nil, Nat.zero_add, sl1, if_true, e2, e3, t_nm]
  · obtain ⟨y, z, rfl⟩ := hI
    rw [List.length_map, List.take_length]
    exact rts_ret (by simp)
theorem sizeL_take {ms : List Nat} (h : ∀ m ∈ ms, 1 ≤ m) (i : Nat) : sizeL (ms.take i) ≤ sizeL ms := by
  have e : sizeL ms = sizeL (ms.take i) * sizeL (ms.drop i) := by rw [← sizeL_append, List.take_append_drop]
  have pos : ∀ ns : List Nat, (∀ m ∈ ns, 1 ≤ m) → 1 ≤ sizeL ns := by
    intro ns
    induction ns with
    | nil => intro _; exact Nat.le_refl _
    | cons n ns ih =>
      intro q
      have h1 := q n (List.mem_cons_self ..)
      have h2 := ih fun m hm => q m (List.mem_cons_of_mem _ hm)
      exact Nat.mul_le_mul h1 h2
  rw [e]
  exact Nat.le_mul_of_pos_right _ (pos _ fun m hm => h m (List.mem_of_mem_drop hm))
theorem rowStep_length (R : List (List Nat)) (m : Nat) : (rowStep R m).length = R.length * m := by
  induction R with
  | nil => simp [rowStep]
  | cons r R ih =>
    unfold rowStep at ih ⊢
    rw [List.flatMap_cons, List.length_append, ih, List.length_map, List.length_range, List.length_cons, Nat.succ_mul, Nat.add_comm]
theorem rowStep_append (R S : List (List Nat)) (m : Nat) : rowStep (R ++ S) m = rowStep R m ++ rowStep S m := List.flatMap_append ..
theorem rows_take (ms : List Nat) (i : Nat) (h : i < ms.length) : rowsL (ms.take (i + 1)) = rowStep (rowsL (ms.take i)) ms[i] := by
  rw [List.take_succ_eq_append_getElem h, rows_append]
  unfold rowStep
  refine flatMap_congrL fun r _ => ?_
  simp only [rowsL, List.map_cons, List.map_nil, List.map_flatMap]
  induction (List.range ms[i]) with
  | nil => rfl
  | cons x xs ih => rw [List.flatMap_cons, List.map_cons, ih]; rfl
theorem add_R {a b : List Nat} (h : a.length + b.length ≤ 1000000) : binD .add (encR a) (encR b) = some (encR (a ++ b)) := by
  show (if (a.map iD).length + (b.map iD).length ≤ sizeLine then _ else none) = _
  rw [List.length_map, List.length_map, if_pos (Nat.le_trans h (by simp [sizeLine])), encR, List.map_append]
theorem add_Rs {a b : List (List Nat)} (h : a.length + b.length ≤ 1000000) : binD .add (encRs a) (encRs b) = some (encRs (a ++ b)) := by
  show (if (a.map encR).length + (b.map encR).length ≤ sizeLine then _ else none) = _
  rw [List.length_map, List.length_map, if_pos (Nat.le_trans h (by simp [sizeLine])), encRs, List.map_append]
theorem c_rows {k : Nat} {ms : List Nat} (hp : ∀ m ∈ ms, 1 ≤ m) (hs : sizeL ms ≤ 1000) (hl : ms.length ≤ 100000) (g : G) : callK tabK WW (k + 1) 45 [encL ms] g = .ok (encRs (rowsL ms)) g := by
  have hsz : ∀ i, sizeL (ms.take i) ≤ 1000 := fun i => Nat.le_trans (sizeL_take hp i) hs
  refine call_rts rfl rfl rfl ?_
  refine rts_p (ρ1 := [some (.frz (encL ms)), some (.frz (encRs (rowsL (ms.take 0)))), none, none, none, none]) (by simp [encRs, encR, rowsL]) ?_
  refine rts_go (xs := ms.map iD) (fun i ρ => ∃ x y z, ρ = [some (.frz (encL ms)), some (.frz (encRs (rowsL (ms.take i)))), x, y, z, none]) (by simp [encL]) ⟨none, none, none, rfl⟩ (fun j hj ρ hI => ?_) (fun ρ' hI => ?_)
  · obtain ⟨x, y, z, rfl⟩ := hI
    have hj' : j < ms.length := by rw [List.length_map] at hj; exact hj
    rw [List.getElem_map]
    have hrl : (rowsL (ms.take j)).length = sizeL (ms.take j) := rows_length _
    have hst : sizeL (ms.take (j + 1)) = sizeL (ms.take j) * ms[j] := by
      rw [List.take_succ_eq_append_getElem hj', sizeL_append]
      show _ = _
      congr 1
      exact Nat.mul_one _
    have hsj := hsz (j + 1)
    have hmj : ms[j] ≤ 1000 := by
      have h1 : 1 ≤ sizeL (ms.take j) := by
        have := sizeL_take (ms := ms.take j) (fun m hm => hp m (List.mem_of_mem_take hm)) 0
        simpa [sizeL] using this
      have : 1 * ms[j] ≤ sizeL (ms.take j) * ms[j] := Nat.mul_le_mul_right _ h1
      omega
    obtain ⟨ρ2, e2, z2, rfl⟩ := for_go (call := callK tabK WW k) (W := WW) (t := .nm 4) (it := .seqL (.var 1)) (b := .asg (.nm 3) (.bin .add (.var 3) (.lc [5] (.nm 5) (.rng1 (.var 2)) (.cst (.bool true)) (.bin .add (.var 4) (.tup (.cons (.var 5) .nil)))))) (ρ := [some (.frz (encL ms)), some (.frz (encRs (rowsL (ms.take j)))), some (.frz (iD ms[j])), some (.frz (encRs [])), z, none]) (g := g) (xs := (rowsL (ms.take j)).map encR)
      (fun i ρ => ∃ z, ρ = [some (.frz (encL ms)), some (.frz (encRs (rowsL (ms.take j)))), some (.frz (iD ms[j])), some (.frz (encRs (rowStep ((rowsL (ms.take j)).take i) ms[j]))), z, none]) (by simp [encRs]) ⟨z, rfl⟩ (fun i hi ρ hI => by
        obtain ⟨z, rfl⟩ := hI
        have hi' : i < (rowsL (ms.take j)).length := by rw [List.length_map] at hi; exact hi
        rw [List.getElem_map]
        have hrow : ((rowsL (ms.take j))[i]).length = (ms.take j).length := rows_len (List.getElem_mem hi')
        have htl : (ms.take j).length ≤ 100000 := by rw [List.length_take]; omega
        have e1 : evE (callK tabK WW k) (.lc [5] (.nm 5) (.rng1 (.var 2)) (.cst (.bool true)) (.bin .add (.var 4) (.tup (.cons (.var 5) .nil)))) [some (.frz (encL ms)), some (.frz (encRs (rowsL (ms.take j)))), some (.frz (iD ms[j])), some (.frz (encRs (rowStep ((rowsL (ms.take j)).take i) ms[j]))), some (.frz (encR (rowsL (ms.take j))[i])), none] g = .ok (.list ((List.range ms[j]).map fun v => encR ((rowsL (ms.take j))[i] ++ [v]))) g := by
          refine lc_enc iD _ (by simp [iD, rngR_n ms[j] g (by omega)]) (by rw [List.length_range]; omega) fun v hv => ?_
          have a1 := add_R (a := (rowsL (ms.take j))[i]) (b := [v]) (by simp; omega)
          have a2 : binD .add (encR (rowsL (ms.take j))[i]) (.tuple [iD v]) = _ := a1
          simp [lcE, a2]
        have e3 : PyData.list ((List.range ms[j]).map fun v => encR ((rowsL (ms.take j))[i] ++ [v])) = encRs (rowStep [(rowsL (ms.take j))[i]] ms[j]) := by
          unfold encRs rowStep
          rw [List.flatMap_cons, List.flatMap_nil, List.append_nil, List.map_map]
          rfl
        have e4 : binD .add (encRs (rowStep ((rowsL (ms.take j)).take i) ms[j])) (encRs (rowStep [(rowsL (ms.take j))[i]] ms[j])) = some (encRs (rowStep ((rowsL (ms.take j)).take (i + 1)) ms[j])) := by
          rw [add_Rs, ← rowStep_append, ← List.take_succ_eq_append_getElem hi']
          rw [← List.length_append, ← rowStep_append, rowStep_length, ← List.take_succ_eq_append_getElem hi', List.length_take]
          have : min (i + 1) (rowsL (ms.take j)).length * ms[j] ≤ sizeL (ms.take j) * ms[j] := Nat.mul_le_mul_right _ (by omega)
          omega
        refine ⟨_, ?_, some (.frz (encR (rowsL (ms.take j))[i])), rfl⟩
        simp only [forF, t_nm, q_of, q_bind, x_asg, e_bin, e_var, List.set_cons_zero, List.set_cons_succ, List.getElem?_cons_zero, List.getElem?_cons_succ, varD_frz]
        rw [show (evE (callK tabK WW k) (.lc [5] (.nm 5) (.rng1 (.var 2)) (.cst (.bool true)) (.bin .add (.var 4) (.tup (.cons (.var 5) .nil)))) [some (.frz (encL ms)), some (.frz (encRs (rowsL (ms.take j)))), some (.frz (iD ms[j])), some (.frz (encRs (rowStep ((rowsL (ms.take j)).take i) ms[j]))), some (.frz (encR (rowsL (ms.take j))[i])), none] g) = _ from e1, q_bind, e3, e4, q_of, q_bind])
    rw [List.length_map, List.take_length, ← rows_take ms j hj'] at e2
    refine ⟨_, ?_, some (.frz (iD ms[j])), some (.frz (encRs (rowsL (ms.take (j + 1))))), z2, rfl⟩
    have e5 : evE (callK tabK WW k) (.lst .nil) [some (.frz (encL ms)), some (.frz (encRs (rowsL (ms.take j)))), some (.frz (iD ms[j])), y, z, none] g = .ok (encRs []) g := by simp [encRs]
    simp only [forF, t_nm, q_of, q_bind, x_seq, x_asg, e5, List.set_cons_zero, List.set_cons_succ, seqR_nx, e2, e_var, List.getElem?_cons_zero, List.getElem?_cons_succ, varD_frz]
  · obtain ⟨x, y, z, rfl⟩ := hI
    rw [List.length_map, List.take_length]
    exact rts_ret (by simp)
end Mini

set_option maxRecDepth 100000
set_option maxHeartbeats 2000000
namespace Mini
open PySem L2 Evl
theorem c_law_divides {k : Nat} {b : Int} {m : Nat} (hb : 0 ≤ b) (hm : 1 ≤ m) (hm' : m < 2000) (v : Int) (g : G) : callK tabK WW (k + 1) 46 [.int b, .int (m : Int), .int v] g = .ok (.bool (decide (v % ((Int.gcd b m : Nat) : Int) = 0))) g := by
  refine call_rts rfl rfl rfl ?_
  refine rts_p (ρ1 := [some (.frz (.int b)), some (.frz (.int m)), some (.frz (.int v)), some (.frz (.int b)), some (.frz (.int m))]) (by simp) ?_
  refine rts_whl (α := Nat × Nat) (fun a => [some (.frz (.int b)), some (.frz (.int m)), some (.frz (.int v)), some (.frz (.int a.1)), some (.frz (.int a.2))]) (fun a => !decide (a.2 = 0)) (fun a => (a.2, a.1 % a.2)) (fun a => Nat.gcd a.1 a.2 = Int.gcd b m ∧ 1 ≤ Nat.gcd a.1 a.2) (fun a => a.2)
    (fun a ha => by simp) (fun a ha hc => ?_) (fun a ha hc => ?_) (b.natAbs, m) (by simp only [Int.natAbs_of_nonneg hb]) ⟨rfl, Nat.gcd_pos_of_pos_right _ hm⟩ hm' (fun a ha hc => ?_)
  · have h0 : a.2 ≠ 0 := by simpa using hc
    have m1 : binD .mod (.int (a.1 : Int)) (.int (a.2 : Int)) = some (.int ((a.1 % a.2 : Nat) : Int)) := by
      rw [b_mod _ _ (by omega), Int.natCast_emod]
    simp only [x_asg, e_tup, e_cons, e_var, e_nil, e_bin, List.getElem?_cons_zero, List.getElem?_cons_succ, varD_frz, q_bind, m1, q_of, List.length_cons, List.length_nil, Nat.zero_add, Nat.reduceAdd, sl2, if_true, t_tp, t_cons, t_nil, List.set_cons_zero, List.set_cons_succ]
  · have h0 : a.2 ≠ 0 := by simpa using hc
    have e : Nat.gcd a.2 (a.1 % a.2) = Nat.gcd a.1 a.2 := by rw [Nat.gcd_comm a.2, ← Nat.gcd_rec, Nat.gcd_comm]
    exact ⟨⟨by rw [e]; exact ha.1, by rw [e]; exact ha.2⟩, Nat.mod_lt _ (by omega)⟩
  · have h0 : a.2 = 0 := by simpa using hc
    obtain ⟨h1, h2⟩ := ha
    rw [h0, Nat.gcd_zero_right] at h1 h2
    have m1 : binD .mod (.int v) (.int (a.1 : Int)) = some (.int (v % (a.1 : Int))) := b_mod _ _ (by omega)
    rw [h1] at m1
    exact rts_ret (by simp [h1, m1])
/-! what a shape cuts out -/
def inOne (ms : List Nat) (x : Int × Int) (r : List Nat) : Bool := (List.range ms.length).all fun k => good1 (ms.getD k 0) x (r.getD k 0)
theorem inOne_cons (m : Nat) (ms : List Nat) (x : Int × Int) (v : Nat) (r : List Nat) : inOne (m :: ms) x (v :: r) = (good1 m x v && inOne ms x r) := by
  unfold inOne
  rw [List.length_cons, List.range_succ_eq_map, List.all_cons, List.all_map]
  rfl
theorem inRow_one (x : Int × Int) : ∀ (ms r : List Nat), r.length = ms.length → inRow ms [x] r = inOne ms x r
  | [], [], _ => rfl
  | m :: ms, v :: r, h => by
    rw [inOne_cons, ← inRow_one x ms r (Nat.succ.inj h)]
    show (good m [x] v && inRow ms [x] r) = _
    have e : good m [x] v = good1 m x v := by simp [good]
    rw [e]
  | [], _ :: _, h => by simp at h
  | _ :: _, [], h => by simp at h
theorem inRow_nil : ∀ (ms r : List Nat), inRow ms [] r = true
  | [], _ => by unfold inRow; rfl
  | _ :: _, [] => by unfold inRow; rfl
  | m :: ms, v :: r => by
    unfold inRow
    rw [inRow_nil ms r]
    rfl
theorem inRow_all {ms r : List Nat} (h : r.length = ms.length) : ∀ s : List (Int × Int), inRow ms s r = s.all fun x => inOne ms x r
  | [] => inRow_nil ms r
  | x :: s => by
    have e : inRow ms (x :: s) r = inRow ms ([x] ++ s) r := rfl
    rw [e, inRow_append, inRow_one x ms r h, inRow_all h s, List.all_cons]
theorem canLay_ints : ∀ xs : List Nat, PyData.canLayAll0 (xs.map iD) = true
  | [] => rfl
  | x :: xs => by rw [List.map_cons, PyData.canLayAll0, canLay_ints xs]; rfl
theorem depthN_ints : ∀ xs : List Nat, PyData.depthAll (xs.map iD) ≤ 1
  | [] => by simp [PyData.depthAll]
  | x :: xs => by
    have := depthN_ints xs
    simp [PyData.depthAll, PyData.depth]
    try omega
theorem shaped_L (xs : List Nat) : SeqAt.shaped (encL xs) = true := by
  unfold SeqAt.shaped encL
  have h := depthN_ints xs
  simp [PyData.canLay0, canLay_ints, PyData.depth]
  omega
theorem ne_nilL (xs : List Nat) : cmpD .ne (encL xs) (.list []) = some (!decide (xs = [])) := by
  have h : SeqAt.shaped (encL xs) = true ∧ SeqAt.shaped (.list []) = true := ⟨shaped_L xs, shaped_L []⟩
  have e : PyData.eqv (encL xs) (.list []) = decide (xs = []) := by
    cases xs with
    | nil => rfl
    | cons x xs => simp [encL, PyData.eqv, PyData.eqvAll]
  show (if SeqAt.shaped (encL xs) = true ∧ SeqAt.shaped (.list []) = true then some (!PyData.eqv (encL xs) (.list [])) else none) = _
  rw [if_pos h, e]
theorem filter_not_nil {α : Type} (P : α → Bool) (xs : List α) : decide (xs.filter (fun x => !P x) = []) = xs.all P := by
  rw [Bool.eq_iff_iff, decide_eq_true_eq, List.filter_eq_nil_iff, List.all_eq_true]
  constructor
  · intro h x hx
    have := h x hx
    cases hp : P x with
    | true => rfl
    | false => rw [hp] at this; exact absurd rfl this
  · intro h x hx
    rw [h x hx]
    simp
theorem c_law_in {k : Nat} {ms r : List Nat} (hms : ∀ m ∈ ms, 1 ≤ m ∧ m < 2000) (hml : ms.length ≤ 100000) (hr : r.length = ms.length) {s : List (Int × Int)} (o : okS s) (g : G) : callK tabK WW (k + 2) 48 [encL ms, encS s, encR r] g = .ok (.bool (inRow ms s r)) g := by
  rw [inRow_all hr]
  refine call_rts rfl rfl rfl ?_
  refine rts_all encP (fun ρ => ∃ x y, ρ = [some (.frz (encL ms)), some (.frz (encS s)), some (.frz (encR r)), x, y, none]) (fun x => inOne ms x r) (.bool false) s (by simp) ⟨none, none, rfl⟩ (fun x hx ρ hj => ?_) (fun hall ρ' hj => ?_) (fun hall => ?_)
  · obtain ⟨y, z, rfl⟩ := hj
    refine ⟨_, ⟨some (.frz (.int x.1)), some (.frz (.int x.2)), rfl⟩, ?_⟩
    have ob := (o x hx).b
    have e : evE (callK tabK WW (k + 1)) (.lc [5] (.nm 5) (.rng1 (.blt .len (.cons (.var 0) .nil))) (.not (.call 46 (.cons (.var 3) (.cons (.ix (.var 0) (.var 5)) (.cons (.bin .mod (.bin .mul (.var 4) (.ix (.var 2) (.var 5))) (.ix (.var 0) (.var 5))) .nil))))) (.var 5)) [some (.frz (encL ms)), some (.frz (encS s)), some (.frz (encR r)), some (.frz (.int x.1)), some (.frz (.int x.2)), none] g
        = .ok (encL ((List.range ms.length).filter fun k => !good1 (ms.getD k 0) x (r.getD k 0))) g := by
      refine lc_filt iD iD _ ?_ (by rw [List.length_range]; omega) fun i hi => ?_
      · have : bltD .len [encL ms] = some (.int ms.length) := by unfold encL; rw [x_len_l, List.length_map]
        simp only [e_rng1, e_blt, e_cons, e_var, e_nil, List.getElem?_cons_zero, varD_frz, q_bind, this, q_of, q_asI]
        exact rngR_n ms.length g (by omega)
      · have hi' : i < ms.length := List.mem_range.mp hi
        have hir : i < r.length := by omega
        have hm := hms ms[i] (List.getElem_mem hi')
        have i1 : ixD (encL ms) (.int (i : Int)) = some (iD ms[i]) := by
          unfold encL
          rw [ix_ln _ i (by rw [List.length_map]; exact hi'), List.getElem_map]
        have i2 : ixD (encR r) (.int (i : Int)) = some (iD r[i]) := by
          unfold encR
          rw [ix_tn _ i (by rw [List.length_map]; exact hir), List.getElem_map]
        have m1 : binD .mul (.int x.2) (iD r[i]) = some (.int (x.2 * (r[i] : Int))) := b_mul _ _ (okMul_l (by omega) (by omega))
        have m2 : binD .mod (.int (x.2 * (r[i] : Int))) (iD ms[i]) = some (.int (x.2 * (r[i] : Int) % (ms[i] : Int))) := b_mod _ _ (by omega)
        have d1 := c_law_divides (k := k) ob.1 hm.1 hm.2 (x.2 * (r[i] : Int) % (ms[i] : Int)) g
        have e1 : ms.getD i 0 = ms[i] := by rw [List.getD_eq_getElem?_getD, List.getElem?_eq_getElem hi']; rfl
        have e2 : r.getD i 0 = r[i] := by rw [List.getD_eq_getElem?_getD, List.getElem?_eq_getElem hir]; rfl
        have e3 : decide (x.2 * (r[i] : Int) % (ms[i] : Int) % ((Int.gcd x.1 ms[i] : Nat) : Int) = 0) = good1 (ms.getD i 0) x (r.getD i 0) := by rw [e1, e2]; rfl
        rw [e3] at d1
        cases hg : good1 (ms.getD i 0) x (r.getD i 0) <;> rw [hg] at d1 <;> simp only [lcE, t_nm, w_cons, w_nil, List.set_cons_zero, List.set_cons_succ, q_of, q_bind, e_not, e_call, e_cons, e_var, e_nil, e_ix, e_bin, List.getElem?_cons_zero, List.getElem?_cons_succ, varD_frz, i1, i2, m1, m2, d1, q_asB, Bool.not_true, Bool.not_false, Bool.false_eq_true, if_true, if_false]
    have e2 := ne_nilL ((List.range ms.length).filter fun k => !good1 (ms.getD k 0) x (r.getD k 0))
    rw [filter_not_nil (fun k => good1 (ms.getD k 0) x (r.getD k 0))] at e2
    have e2 : cmpD .ne (encL ((List.range ms.length).filter fun k => !good1 (ms.getD k 0) x (r.getD k 0))) (.list []) = some (!inOne ms x r) := e2
    cases hg : inOne ms x r <;> rw [hg] at e2 <;> simp only [forF, pda, List.set_cons_zero, List.set_cons_succ, q_of, q_bind, x_ife, e_cmp, e, e_lst, e_nil, List.length_nil, sl0, if_true, e2, q_asB, Bool.not_true, Bool.not_false, Bool.false_eq_true, if_false, x_skip, x_ret, e_cst]
  · obtain ⟨y, z, rfl⟩ := hj
    exact rts_ret (by rw [hall, e_cst])
  · rw [hall]
    exact ⟨rfl, rfl⟩
theorem modL_mem : ∀ {gr : Gr} {m : Nat}, m ∈ modL gr → ∃ x ∈ gr, m = x.1 ^ x.2.1
  | (p, n, c) :: gr, m, h => by
    rw [modL, List.mem_append] at h
    rcases h with h | h
    · exact ⟨(p, n, c), List.mem_cons_self .., (List.mem_replicate.mp h).2⟩
    · obtain ⟨x, hx, e⟩ := modL_mem h
      exact ⟨x, List.mem_cons_of_mem _ hx, e⟩
theorem modL_b {gr : Gr} (hg : NG gr) : ∀ m ∈ modL gr, 1 ≤ m ∧ m < 2000 := fun m hm => by
  obtain ⟨x, hx, rfl⟩ := modL_mem hm
  have := (hg.ok x hx).small
  exact ⟨Nat.pow_pos (by omega), by omega⟩
theorem modL_le {gr : Gr} (hg : NG gr) : (modL gr).length ≤ 12000 := Nat.le_trans (modL_len fun x hx => (hg.cop x hx).2) (by have := hg.len; omega)
def szG (gr : Gr) : Nat := sizeL (modL gr)
theorem c_law_count {k : Nat} {gr : Gr} (hg : NG gr) (hsz : szG gr ≤ 1000) {s t : List (Int × Int)} (o : okS s) (o' : okS t) (g : G) : callK tabK WW (k + 3) 49 [encG gr, encS s, encS t] g = .ok (.int ((idx gr s t : Nat) : Int)) g := by
  have e1 : callK tabK WW (k + 2) 44 [encG gr] g = _ := c_moduli (k := k) hg g
  have e2 : callK tabK WW (k + 2) 45 [encL (modL gr)] g = _ := c_rows (k := k + 1) (fun m hm => (modL_b hg m hm).1) hsz (by have := modL_le hg; omega) g
  have hin : ∀ u, okS u → ∀ r ∈ rowsL (modL gr), callK tabK WW (k + 2) 48 [encL (modL gr), encS u, encR r] g = .ok (.bool (inRow (modL gr) u r)) g := fun u ou r hr => c_law_in (k := k) (modL_b hg) (by have := modL_le hg; omega) (rows_len hr) ou g
  have hrl : (rowsL (modL gr)).length ≤ 1000 := by rw [rows_length]; exact hsz
  refine call_rts rfl rfl rfl ?_
  refine rts_p (ρ1 := [some (.frz (encG gr)), some (.frz (encS s)), some (.frz (encS t)), some (.frz (encL (modL gr))), none, none]) (by simp [e1]) ?_
  have l1 : evE (callK tabK WW (k + 2)) (.lc [5] (.nm 5) (.seqL (.call 45 (.cons (.var 3) .nil))) (.call 48 (.cons (.var 3) (.cons (.var 1) (.cons (.var 5) .nil)))) (.var 5)) [some (.frz (encG gr)), some (.frz (encS s)), some (.frz (encS t)), some (.frz (encL (modL gr))), none, none] g = .ok (encRs ((rowsL (modL gr)).filter (inRow (modL gr) s))) g := by
    refine lc_filt encR encR _ (by simp [e2, encRs]) (by omega) fun r hr => ?_
    have q := hin s o r hr
    cases hg : inRow (modL gr) s r <;> rw [hg] at q <;> simp [lcE, q]
  refine rts_p (ρ1 := [some (.frz (encG gr)), some (.frz (encS s)), some (.frz (encS t)), some (.frz (encL (modL gr))), some (.frz (encRs ((rowsL (modL gr)).filter (inRow (modL gr) s)))), none]) (by simp only [x_asg, l1, q_bind, t_nm, q_of, List.set_cons_zero, List.set_cons_succ]) ?_
  have l2 : evE (callK tabK WW (k + 2)) (.lc [5] (.nm 5) (.seqL (.var 4)) (.call 48 (.cons (.var 3) (.cons (.var 2) (.cons (.var 5) .nil)))) (.var 5)) [some (.frz (encG gr)), some (.frz (encS s)), some (.frz (encS t)), some (.frz (encL (modL gr))), some (.frz (encRs ((rowsL (modL gr)).filter (inRow (modL gr) s)))), none] g = .ok (encRs (((rowsL (modL gr)).filter (inRow (modL gr) s)).filter (inRow (modL gr) t))) g := by
    refine lc_filt encR encR _ (by simp [encRs]) (Nat.lt_of_le_of_lt (List.length_filter_le ..) (by omega)) fun r hr => ?_
    have q := hin t o' r (List.mem_filter.mp hr).1
    cases hg : inRow (modL gr) t r <;> rw [hg] at q <;> simp [lcE, q]
  have f2 : ((rowsL (modL gr)).filter (inRow (modL gr) s)).filter (inRow (modL gr) t) = (rowsL (modL gr)).filter (inRow (modL gr) (s ++ t)) := by
    rw [List.filter_filter]
    refine List.filter_congr fun r _ => ?_
    rw [inRow_append, Bool.and_comm]
  rw [f2] at l2
  have n1 : bltD .len [encRs ((rowsL (modL gr)).filter (inRow (modL gr) s))] = some (.int ((cnt gr s : Nat) : Int)) := by
    unfold encRs
    rw [x_len_l, List.length_map]
    rfl
  have n2 : bltD .len [encRs ((rowsL (modL gr)).filter (inRow (modL gr) (s ++ t)))] = some (.int ((cnt gr (s ++ t) : Nat) : Int)) := by
    unfold encRs
    rw [x_len_l, List.length_map]
    rfl
  have cp := cnt_pos hg.ok (o.append o')
  have cl : cnt gr (s ++ t) ≤ szG gr := cnt_le
  have d1 : binD .fdiv (.int ((cnt gr s : Nat) : Int)) (.int ((cnt gr (s ++ t) : Nat) : Int)) = some (.int ((idx gr s t : Nat) : Int)) := by
    rw [b_fdiv _ _ (by omega) (by rw [Int.natAbs_natCast]; exact log2_small (by omega)), ← cnt_idx hg.ok o o', Int.natCast_ediv]
  refine rts_ret ?_
  simp only [e_bin, e_blt, e_cons, e_var, e_nil, List.getElem?_cons_zero, List.getElem?_cons_succ, varD_frz, q_bind, n1, q_of, l2, n2, d1]
end Mini

set_option maxRecDepth 100000
set_option maxHeartbeats 2000000
namespace Mini
open PySem L2 Evl
theorem c_common_nn {k : Nat} {a b : Int} (ha : 0 ≤ a) (hb : 0 ≤ b) (hb' : b < 2000) (g : G) : callK tabK WW (k + 1) 50 [.int a, .int b] g = .ok (.int ((Int.gcd a b : Nat) : Int)) g := by
  refine call_rts rfl rfl rfl ?_
  refine rts_whl (α := Nat × Nat) (fun a => [some (.frz (.int a.1)), some (.frz (.int a.2))]) (fun a => !decide (a.2 = 0)) (fun a => (a.2, a.1 % a.2)) (fun q => Nat.gcd q.1 q.2 = Int.gcd a b) (fun a => a.2)
    (fun a ha => by simp) (fun a ha hc => ?_) (fun a ha hc => ?_) (a.natAbs, b.natAbs) (by simp [Int.natAbs_of_nonneg ha, Int.natAbs_of_nonneg hb]) rfl (by show b.natAbs < 2000; omega) (fun a ha hc => ?_)
  · have h0 : a.2 ≠ 0 := by simpa using hc
    have m1 : binD .mod (.int (a.1 : Int)) (.int (a.2 : Int)) = some (.int ((a.1 % a.2 : Nat) : Int)) := by
      rw [b_mod _ _ (by omega), Int.natCast_emod]
    simp only [x_asg, e_tup, e_cons, e_var, e_nil, e_bin, List.getElem?_cons_zero, List.getElem?_cons_succ, varD_frz, q_bind, m1, q_of, List.length_cons, List.length_nil, Nat.zero_add, Nat.reduceAdd, sl2, if_true, t_tp, t_cons, t_nil, List.set_cons_zero, List.set_cons_succ]
  · have h0 : a.2 ≠ 0 := by simpa using hc
    have e : Nat.gcd a.2 (a.1 % a.2) = Nat.gcd a.1 a.2 := by rw [Nat.gcd_comm a.2, ← Nat.gcd_rec, Nat.gcd_comm]
    exact ⟨by rw [e]; exact ha, Nat.mod_lt _ (by omega)⟩
  · have h0 : a.2 = 0 := by simpa using hc
    rw [h0, Nat.gcd_zero_right] at ha
    have hn : ¬ ((a.1 : Int) < 0) := by omega
    exact rts_ret (by simp [ha]; omega)
theorem b_modN (i j : Int) (h : j < 0) : binD .mod (.int i) (.int j) = some (.int (i.fmod j)) := by
  show (if 0 < j then some (PyData.int (i % j)) else if j = 0 then none else some (.int (i.fmod j))) = _
  rw [if_neg (by omega), if_neg (by omega)]
theorem c_common_m1 {k : Nat} {a : Int} (ha : 0 ≤ a) (g : G) : callK tabK WW (k + 1) 50 [.int a, .int (-1)] g = .ok (.int ((Int.gcd a (-1) : Nat) : Int)) g := by
  have m1 : binD .mod (.int a) (.int (-1)) = some (.int 0) := by
    rw [b_modN a (-1) (by omega)]
    congr 2
    exact Int.fmod_eq_zero_of_dvd ⟨-a, by omega⟩
  refine call_rts rfl rfl rfl ?_
  refine rts_whl (α := Bool) (fun q => if q = true then [some (.frz (.int (-1))), some (.frz (.int 0))] else [some (.frz (.int a)), some (.frz (.int (-1)))]) (fun q => !q) (fun _ => true) (fun _ => True) (fun q => if q = true then 0 else 1)
    (fun q _ => by cases q <;> simp) (fun q _ hc => ?_) (fun q _ hc => ⟨trivial, ?_⟩) false (by simp) trivial (by decide) (fun q _ hc => ?_)
  · cases q with
    | true => cases hc
    | false => simp [m1]
  · cases q with
    | true => cases hc
    | false => decide
  · cases q with
    | true => exact rts_ret (by simp)
    | false => cases hc
theorem c_common {k : Nat} {x : Int × Int} (o : okP x) (g : G) : callK tabK WW (k + 1) 50 [.int x.1, .int x.2] g = .ok (.int ((Int.gcd x.1 x.2 : Nat) : Int)) g := by
  have ob := o.b
  by_cases h : x.2 = -1
  · rw [h]
    exact c_common_m1 ob.1 g
  · exact c_common_nn ob.1 (by omega) (by omega) g
theorem c_law_whole {k : Nat} {s : List (Int × Int)} (o : okS s) (hl : s.length ≤ 1000) (g : G) : callK tabK WW (k + 2) 51 [encS s] g = .ok (.int (wst s)) g := by
  refine call_rts rfl rfl rfl ?_
  have e1 : evE (callK tabK WW (k + 1)) (.lc [4, 5] (.tp [4, 5]) (.seqT (.var 0)) (.cmp .ne (.var 5) (.cst (PyData.int 0))) (.bin .fdiv (.var 4) (.call 50 (.cons (.var 4) (.cons (.var 5) .nil))))) [some (.frz (encS s)), none, none, none, none, none] g = .ok (.list ((s.filter fun x => !decide (x.2 = 0)).map fun x => .int (ownI x))) g := by
    refine lc_filt encP _ _ (by simp) (by omega) fun x hx => ?_
    have ob := (o x hx).b
    have c := c_common (k := k) (o x hx) g
    by_cases hf : x.2 = 0
    · simp [lcE, hf]
    · have gp : 0 < Int.gcd x.1 x.2 := Nat.gcd_pos_of_pos_right _ (by omega)
      have gl : Int.gcd x.1 x.2 ≤ x.2.natAbs := Nat.gcd_le_right _ (by omega)
      have d1 : binD .fdiv (.int x.1) (.int ((Int.gcd x.1 x.2 : Nat) : Int)) = some (.int (ownI x)) := b_fdiv _ _ (by omega) (by rw [Int.natAbs_natCast]; exact log2_small (by omega))
      simp [lcE, hf, c, d1]
  refine rts_p (ρ1 := [some (.frz (encS s)), some (.frz (.list ((s.filter fun x => !decide (x.2 = 0)).map fun x => .int (ownI x)))), none, none, none, none]) (by
    show exS _ _ _ [some (Ent.frz (encS s)), none, none, none, none, none] _ = _
    simp only [x_asg, e1, q_bind, t_nm, q_of, List.set_cons_zero, List.set_cons_succ]) ?_
  refine rts_p (ρ1 := [some (.frz (encS s)), some (.frz (.list ((s.filter fun x => !decide (x.2 = 0)).map fun x => .int (ownI x)))), some (.frz (.int 1)), none, none, none]) (by simp) ?_
  have hf : (s.filter fun x => !decide (x.2 = 0)).foldl wstF 1 = wst s := by
    unfold wst
    generalize (1 : Int) = a
    clear e1 hl
    induction s generalizing a with
    | nil => rfl
    | cons x s ih =>
      have ih' := ih fun y hy => o y (List.mem_cons_of_mem _ hy)
      rw [List.filter_cons]
      by_cases c : x.2 = 0
      · have : wstF a x = a := by simp [wstF, c]
        rw [if_neg (by simp [c]), ih' a, List.foldl_cons, this]
      · rw [if_pos (by simp [c]), List.foldl_cons, List.foldl_cons, ih' (wstF a x)]
  refine rts_fold (fun x => PyData.int (ownI x)) (fun a ρ => a ∈ D72 ∧ ∃ y, ρ = [some (.frz (encS s)), some (.frz (.list ((s.filter fun x => !decide (x.2 = 0)).map fun x => .int (ownI x)))), some (.frz (.int a)), y, none, none]) wstF (s.filter fun x => !decide (x.2 = 0)) 1 (by simp) ⟨by decide, none, rfl⟩ (fun a x hx ρ hj => ?_) (fun ρ' hj => ?_)
  · obtain ⟨ha, y, rfl⟩ := hj
    obtain ⟨hx1, hx2⟩ := List.mem_filter.mp hx
    have hfx : ¬ x.2 = 0 := by simpa using hx2
    have f72 := fin72 a ha x.1 (o x hx1).1 x.2 (o x hx1).2
    have ab := d72_b ha
    have ow : 0 ≤ ownI x ∧ ownI x ≤ 9 := bs_b f72.2
    refine ⟨_, ?_, f72.1, some (.frz (.int (ownI x))), rfl⟩
    have ew : wstF a x = lcI a (ownI x) := by unfold wstF; rw [if_neg hfx]
    show _ = R.ok (Fl.nx, [some (Ent.frz (encS s)), some (Ent.frz (.list ((s.filter fun x => !decide (x.2 = 0)).map fun x => .int (ownI x)))), some (Ent.frz (.int (wstF a x))), some (Ent.frz (.int (ownI x))), none, none]) g
    rw [ew]
    by_cases c1 : ownI x = 0
    · simp [forF, lcI, c1]
    · by_cases c2 : a = 0
      · simp [forF, lcI, c1, c2]
      · have gp2 : 0 < Int.gcd a (ownI x) := Nat.gcd_pos_of_pos_right _ (by omega)
        have gl2 : Int.gcd a (ownI x) ≤ (ownI x).natAbs := Nat.gcd_le_right _ (by omega)
        have m1 : binD .mul (.int a) (.int (ownI x)) = some (.int (a * ownI x)) := b_mul _ _ (okMul_l (by omega) (by omega))
        have d2 : binD .fdiv (.int (a * ownI x)) (.int ((Int.gcd a (ownI x) : Nat) : Int)) = some (.int (a * ownI x / ((Int.gcd a (ownI x) : Nat) : Int))) := b_fdiv _ _ (by omega) (by rw [Int.natAbs_natCast]; exact log2_small (by omega))
        have c := c_common_nn (k := k) (a := a) (b := ownI x) ab.1 ow.1 (by omega) g
        simp [forF, lcI, c1, c2, m1, d2, c]
  · obtain ⟨ha, y, rfl⟩ := hj
    exact rts_ret (by simp [hf])
/-! towers -/
def tszs (p : Nat) (s : List (Int × Int)) : List Nat := (s.filter isC).map fun x => p ^ vl p x
theorem fin_vl : ∀ p ∈ [2, 3], ∀ f ∈ Fs, f ≠ 0 → pin p 8 f ≤ 3 ∧ ∀ q ∈ List.range 5, decide (f % ((p ^ (q + 1) : Nat) : Int) = 0) = decide (q < pin p 8 f) := by decide +kernel
theorem tst_szs (p : Nat) (s : List (Int × Int)) : tst p s = match s.filter isC with | [] => none | x :: r => some (r.foldl (fun a y => min a (vl p y)) (vl p x)) := by
  have h : ∀ (s : List (Int × Int)) (a : Option Nat), s.foldl (tstF p) a = (s.filter isC).foldl (tstF p) a := by
    intro s
    induction s with
    | nil => intro a; rfl
    | cons x s ih =>
      intro a
      rw [List.foldl_cons, ih, List.filter_cons]
      by_cases c : isC x = true
      · rw [if_pos c, List.foldl_cons]
      · rw [if_neg c]
        have : tstF p a x = a := by unfold tstF; rw [if_neg c]
        rw [this]
  have h2 : ∀ (r : List (Int × Int)) (a : Nat), (∀ x ∈ r, isC x = true) → r.foldl (tstF p) (some a) = some (r.foldl (fun a y => min a (vl p y)) a) := by
    intro r
    induction r with
    | nil => intro a _; rfl
    | cons x r ih =>
      intro a hr
      rw [List.foldl_cons, List.foldl_cons, ← ih _ fun y hy => hr y (List.mem_cons_of_mem _ hy)]
      congr 1
      unfold tstF
      rw [if_pos (hr x (List.mem_cons_self ..))]
  unfold tst
  rw [h]
  have hall : ∀ x ∈ s.filter isC, isC x = true := fun x hx => (List.mem_filter.mp hx).2
  cases hf : s.filter isC with
  | nil => rfl
  | cons x r =>
    rw [hf] at hall
    rw [List.foldl_cons]
    have : tstF p none x = some (vl p x) := by
      unfold tstF
      rw [if_pos (hall x (List.mem_cons_self ..))]
    rw [this]
    exact h2 r _ fun y hy => hall y (List.mem_cons_of_mem _ hy)
theorem min_pow {p : Nat} (hp : 1 ≤ p) : ∀ (ws : List (Int × Int)) (a : Nat), ((ws.map fun x => p ^ vl p x).map fun (n : Nat) => (n : Int)).foldl min ((p ^ a : Nat) : Int) = ((p ^ ws.foldl (fun a y => min a (vl p y)) a : Nat) : Int)
  | [], a => rfl
  | w :: ws, a => by
    rw [List.map_cons, List.map_cons, List.foldl_cons, List.foldl_cons, ← min_pow hp ws]
    congr 1
    rcases Nat.le_total a (vl p w) with h | h
    · rw [Nat.min_eq_left h]
      have := Nat.pow_le_pow_right hp h
      omega
    · rw [Nat.min_eq_right h]
      have := Nat.pow_le_pow_right hp h
      omega
theorem x_app {call : Nat → List D → G → R D} {W i : Nat} {e : ME} {ρ : Env1} {g g1 : G} {xs : List D} {d : D} (h : ρ[i]? = some (some (.ownL xs))) (he : evE call e ρ g = .ok d g1) (hl : xs.length < 1000000) : exS call W (.app i e) ρ g = .ok (.nx, ρ.set i (some (.ownL (xs ++ [d])))) g1 := by
  rw [exS, h]
  show (evE call e ρ g).bind _ = _
  rw [he, q_bind, if_pos hl]
theorem x_frz {call : Nat → List D → G → R D} {W i : Nat} {ρ : Env1} {g : G} {xs : List D} (h : ρ[i]? = some (some (.ownL xs))) : exS call W (.frz i) ρ g = .ok (.nx, ρ.set i (some (.frz (.list xs)))) g := by
  rw [exS, h]
theorem c_law_torsion {k p : Nat} (hp : p = 2 ∨ p = 3) {s : List (Int × Int)} (o : okS s) (hl : s.length ≤ 1000) (g : G) : callK tabK WW (k + 1) 52 [.int p, encS s] g = .ok (match tst p s with | none => .none | some a => .int ((p ^ a : Nat) : Int)) g := by
  refine call_rts rfl rfl rfl ?_
  refine rts_p (ρ1 := [some (.frz (.int p)), some (.frz (encS s)), some (.ownL []), none, none, none]) (by simp) ?_
  refine rts_go (xs := s.map encP) (fun i ρ => ∃ x y z, ρ = [some (.frz (.int p)), some (.frz (encS s)), some (.ownL ((tszs p (s.take i)).map iD)), x, y, z]) (by simp) ⟨none, none, none, rfl⟩ (fun j hj ρ hI => ?_) (fun ρ' hI => ?_)
  · obtain ⟨y, z, u, rfl⟩ := hI
    have hj' : j < s.length := by rw [List.length_map] at hj; exact hj
    rw [List.getElem_map]
    have hx := List.getElem_mem hj'
    have ht : tszs p (s.take (j + 1)) = tszs p (s.take j) ++ tszs p [s[j]] := by
      rw [List.take_succ_eq_append_getElem hj']
      unfold tszs
      rw [List.filter_append, List.map_append]
    have htl : (tszs p (s.take j)).length ≤ 1000 := by
      unfold tszs
      rw [List.length_map]
      refine Nat.le_trans (List.length_filter_le ..) ?_
      rw [List.length_take]
      omega
    generalize s[j] = x at *
    have ob := (o x hx).b
    by_cases c1 : x.1 = 0
    · by_cases c2 : x.2 = 0
      · refine ⟨_, ?_, some (.frz (.int x.1)), some (.frz (.int x.2)), u, rfl⟩
        have : tszs p [x] = [] := by simp [tszs, isC, c2]
        rw [ht, this, List.append_nil]
        simp [forF, c1, c2]
      · obtain ⟨v3, vq⟩ := fin_vl p (by rcases hp with rfl | rfl <;> decide) x.2 (o x hx).2 c2
        have pq : ∀ q, q ≤ 4 → p ^ q ≤ 100 := fun q hq => by
          rcases hp with rfl | rfl
          · exact Nat.le_trans (Nat.pow_le_pow_right (by omega) hq) (by decide)
          · exact Nat.le_trans (Nat.pow_le_pow_right (by omega) hq) (by decide)
        have m0 : ∀ q, q ≤ 4 → binD .mul (.int ((p ^ q : Nat) : Int)) (.int (p : Int)) = some (.int ((p ^ (q + 1) : Nat) : Int)) := fun q hq => by
          rw [b_mul _ _ (okMul_r (by omega) (by omega)), Nat.pow_succ, Int.natCast_mul]
        have m2 : ∀ q, q ≤ 4 → binD .mod (.int x.2) (.int ((p ^ q : Nat) : Int)) = some (.int (x.2 % ((p ^ q : Nat) : Int))) := fun q hq => b_mod _ _ (by
          have : 0 < p ^ q := Nat.pow_pos (by omega)
          omega)
        obtain ⟨a', p1, hc', e⟩ := whl_go (call := callK tabK WW k) (W := WW) (c := .cmp .eq (.bin .mod (.var 4) (.bin .mul (.var 5) (.var 0))) (.cst (PyData.int 0))) (b := .asg (.nm 5) (.bin .mul (.var 5) (.var 0))) (g := g)
          (fun q : Nat => [some (.frz (.int p)), some (.frz (encS s)), some (.ownL ((tszs p (s.take j)).map iD)), some (.frz (.int x.1)), some (.frz (.int x.2)), some (.frz (.int ((p ^ q : Nat) : Int)))]) (fun q => decide (q < pin p 8 x.2)) (fun q => q + 1)
          (fun q => q ≤ pin p 8 x.2) (fun q => pin p 8 x.2 - q) (fun q hq => by
            have r := vq q (List.mem_range.mpr (by omega))
            simp only [e_cmp, e_bin, e_var, e_cst, List.getElem?_cons_zero, List.getElem?_cons_succ, varD_frz, q_bind, m0 q (by omega), q_of, m2 (q + 1) (by omega), k_eq, r]) (fun q hq hc => by
            have hc := of_decide_eq_true hc
            simp only [x_asg, e_bin, e_var, List.getElem?_cons_zero, List.getElem?_cons_succ, varD_frz, q_bind, m0 q (by omega), q_of, t_nm, List.set_cons_zero, List.set_cons_succ]) (fun q hq hc => by
            have hc := of_decide_eq_true hc
            exact ⟨hc, by omega⟩) 0 (Nat.zero_le _) (by show pin p 8 x.2 - 0 < 2000; omega)
        have hc' := of_decide_eq_false hc'
        have hv : a' = vl p x := by
          have : a' = pin p 8 x.2 := by omega
          exact this
        have hic : isC x = true := by simp [isC, c1, c2]
        have tx : tszs p [x] = [p ^ vl p x] := by simp [tszs, hic]
        rw [hv] at e
        refine ⟨_, ?_, some (.frz (.int x.1)), some (.frz (.int x.2)), some (.frz (.int ((p ^ vl p x : Nat) : Int))), rfl⟩
        rw [ht, tx]
        have e' : exS (callK tabK WW k) WW (.whl (.cmp .eq (.bin .mod (.var 4) (.bin .mul (.var 5) (.var 0))) (.cst (PyData.int 0))) (.asg (.nm 5) (.bin .mul (.var 5) (.var 0)))) [some (.frz (.int p)), some (.frz (encS s)), some (.ownL ((tszs p (s.take j)).map iD)), some (.frz (.int x.1)), some (.frz (.int x.2)), some (.frz (.int 1))] g = _ := e
        have ap := x_app (call := callK tabK WW k) (W := WW) (i := 2) (e := .var 5) (ρ := [some (.frz (.int p)), some (.frz (encS s)), some (.ownL ((tszs p (s.take j)).map iD)), some (.frz (.int x.1)), some (.frz (.int x.2)), some (.frz (.int ((p ^ vl p x : Nat) : Int)))]) (g := g) (g1 := g) (xs := (tszs p (s.take j)).map iD) (d := iD (p ^ vl p x)) rfl (by simp) (by rw [List.length_map]; omega)
        simp only [List.set_cons_zero, List.set_cons_succ] at ap
        simp only [forF, pda, q_of, q_bind, List.set_cons_zero, List.set_cons_succ, x_ife, e_and, e_cmp, e_var, e_cst, List.getElem?_cons_zero, List.getElem?_cons_succ, varD_frz, k_eq, k_ne, q_asB, if_true, x_seq, x_asg, t_nm, seqR_nx, e', ap, List.map_append, List.map_cons, List.map_nil, decide_eq_true c1, decide_eq_false c2, Bool.not_false]
    · refine ⟨_, ?_, some (.frz (.int x.1)), some (.frz (.int x.2)), u, rfl⟩
      have : tszs p [x] = [] := by simp [tszs, isC, c1]
      rw [ht, this, List.append_nil]
      simp [forF, c1]
  · obtain ⟨y, z, u, rfl⟩ := hI
    rw [List.length_map, List.take_length]
    refine rts_p (ρ1 := [some (.frz (.int p)), some (.frz (encS s)), some (.frz (encL (tszs p s))), y, z, u]) (x_frz rfl) ?_
    have e1 := ne_nilL (tszs p s)
    refine rts_ret ?_
    rw [tst_szs p s]
    cases h : tszs p s with
    | nil =>
      rw [h] at e1
      simp only [e_ifx, e_cmp, e_var, List.getElem?_cons_zero, List.getElem?_cons_succ, varD_frz, q_bind, e_lst, e_nil, List.length_nil, sl0, if_true, e1, q_of, q_asB, decide_true, Bool.not_true, Bool.false_eq_true, if_false, e_cst]
      unfold tszs at h
      rw [List.map_eq_nil_iff] at h
      rw [h]
    | cons q qs =>
      rw [h] at e1
      have e2 : bltD .min1 [encL (q :: qs)] = some (.int ((qs.map fun (n : Nat) => (n : Int)).foldl min (q : Int))) := by
        show (intsD ((q :: qs).map iD)).bind _ = _
        have : (q :: qs).map iD = (((q :: qs).map fun (n : Nat) => (n : Int)).map PyData.int) := by rw [List.map_map]; rfl
        rw [this, intsD_map']
        rfl
      simp only [e_ifx, e_cmp, e_var, List.getElem?_cons_zero, List.getElem?_cons_succ, varD_frz, q_bind, e_lst, e_nil, List.length_nil, sl0, if_true, e1, q_of, q_asB, decide_eq_false (List.cons_ne_nil q qs), Bool.not_false, e_blt, e_cons, e2]
      unfold tszs at h
      cases hf : s.filter isC with
      | nil => rw [hf] at h; cases h
      | cons w ws =>
        rw [hf, List.map_cons] at h
        obtain ⟨rfl, rfl⟩ := List.cons.inj h
        rw [min_pow (by omega)]
end Mini

set_option maxRecDepth 100000
set_option maxHeartbeats 2000000
namespace Mini
open PySem L2 Evl
/-! ### dicts, and the sum of groups -/
section
variable {κ : Type} [DecidableEq κ] (f : Nat × Nat → κ)
def encDc (d : Dc) : List (κ × D) := d.map fun x => (f x.1, PyData.int (x.2 : Int))
variable (hf : ∀ a b, f a = f b → a = b)
include hf
theorem look_enc : ∀ (d : Dc) (q : Nat × Nat), (lookD (encDc f d) (f q)).getD (.int 0) = .int (dgetP d q : Int)
  | [], q => rfl
  | (k, v) :: r, q => by
    unfold lookD encDc dgetP
    rw [List.map_cons, List.find?_cons]
    by_cases e : k = q
    · rw [decide_eq_true (congrArg f e), if_pos e]
      rfl
    · rw [decide_eq_false fun h => e (hf _ _ h), if_neg e]
      exact look_enc r q
theorem look_mem : ∀ {d : Dc} {x : (Nat × Nat) × Nat}, (keysP d).Nodup → x ∈ d → lookD (encDc f d) (f x.1) = some (.int (x.2 : Int))
  | (k, v) :: r, x, nd, h => by
    have nd' : k ∉ keysP r ∧ (keysP r).Nodup := List.nodup_cons.mp nd
    unfold lookD encDc
    rw [List.map_cons, List.find?_cons]
    rcases List.mem_cons.mp h with h | h
    · rw [h, decide_eq_true rfl]
      rfl
    · have ne : ¬ k = x.1 := fun e => nd'.1 (e ▸ List.mem_map_of_mem (f := fun x : (Nat × Nat) × Nat => x.1) h)
      rw [decide_eq_false fun h => ne (hf _ _ h)]
      exact look_mem nd'.2 h
theorem any_enc (d : Dc) (q : Nat × Nat) : ((encDc f d).any fun kv => decide (kv.1 = f q)) = decide (q ∈ keysP d) := by
  rw [Bool.eq_iff_iff, List.any_eq_true, decide_eq_true_eq]
  constructor
  · rintro ⟨x, hx, e⟩
    obtain ⟨y, hy, rfl⟩ := List.mem_map.mp hx
    have := hf _ _ (of_decide_eq_true e)
    rw [← this]
    exact List.mem_map_of_mem (f := fun x : (Nat × Nat) × Nat => x.1) hy
  · intro h
    obtain ⟨y, hy, rfl⟩ := List.mem_map.mp h
    exact ⟨_, List.mem_map_of_mem hy, decide_eq_true rfl⟩
theorem put_enc : ∀ {d : Dc} (q : Nat × Nat) (c : Nat), (keysP d).Nodup → putD (encDc f d) (f q) (.int ((dgetP d q + c : Nat) : Int)) = encDc f (daddP d q c)
  | [], q, c, _ => by simp [putD, encDc, daddP, dgetP]
  | (k, v) :: r, q, c, nd => by
    have nd' : k ∉ keysP r ∧ (keysP r).Nodup := List.nodup_cons.mp nd
    by_cases e : k = q
    · subst e
      unfold putD
      have hm : k ∈ keysP ((k, v) :: r) := List.mem_cons_self ..
      rw [any_enc f hf, decide_eq_true hm, if_pos rfl]
      unfold encDc daddP dgetP
      rw [if_pos rfl, if_pos rfl, List.map_cons, List.map_cons, List.map_cons, if_pos rfl]
      congr 1
      rw [List.map_map]
      refine List.map_congr_left fun x hx => ?_
      have ne : ¬ f x.1 = f k := fun h => nd'.1 (hf _ _ h ▸ List.mem_map_of_mem (f := fun x : (Nat × Nat) × Nat => x.1) hx)
      show (if f x.1 = f k then _ else _) = _
      rw [if_neg ne]
    · have ih := put_enc q c nd'.2
      have e1 : dgetP ((k, v) :: r) q = dgetP r q := by unfold dgetP; rw [if_neg e]; cases r <;> rfl
      have e2 : daddP ((k, v) :: r) q c = (k, v) :: daddP r q c := by
        conv => lhs; unfold daddP
        rw [if_neg e]
      rw [e1, e2]
      unfold putD at ih ⊢
      rw [any_enc f hf] at ih ⊢
      have e3 : (q ∈ keysP ((k, v) :: r)) = (q ∈ keysP r) := by
        show (q ∈ k :: keysP r) = _
        rw [List.mem_cons]
        simp [show ¬ q = k from fun h => e h.symm]
      rw [decide_eq_decide.mpr (iff_of_eq e3)]
      have e4 : ¬ f k = f q := fun h => e (hf _ _ h)
      by_cases hm : q ∈ keysP r
      · rw [decide_eq_true hm, if_pos rfl] at ih ⊢
        show (if f k = f q then _ else _) :: _ = _ :: encDc f (daddP r q c)
        rw [if_neg e4, ← ih]
        rfl
      · rw [decide_eq_false hm, if_neg Bool.false_ne_true] at ih ⊢
        show _ :: (encDc f r ++ _) = _ :: encDc f (daddP r q c)
        rw [ih]
end
def kkey (q : Nat × Nat) : List Key := [.inr (Str.ofString "ring"), .inl (q.1 : Int), .inl (q.2 : Int)]
theorem kkey_inj (a b : Nat × Nat) (h : kkey a = kkey b) : a = b := by
  unfold kkey at h
  simp only [List.cons.injEq, Sum.inl.injEq, Int.natCast_inj, and_true, true_and] at h
  exact Prod.ext h.1 h.2
theorem key_ring (q : Nat × Nat) : asKey (ringD q.1 q.2) = some (kkey q) := rfl
theorem keyD_ring (q : Nat × Nat) : keyD (kkey q) = ringD q.1 q.2 := rfl
theorem ltL_eq (p n p' n' : Nat) : ltL [0, (p : Int), n] [0, (p' : Int), n'] = decide (p < p' ∨ (p = p' ∧ n < n')) := by
  unfold ltL
  rw [PySem.W.dataLt_list]
  simp only [List.map_cons, List.map_nil]
  rw [PySem.W.dataLt_cons rfl, if_pos (by simp [PyData.eqv]), PySem.W.dataLt_cons rfl]
  by_cases e : p = p'
  · subst e
    rw [if_pos (by simp [PyData.eqv]), PySem.W.dataLt_cons rfl]
    by_cases e2 : n = n'
    · subst e2
      rw [if_pos (by simp [PyData.eqv])]
      simp
      exact PyProof.Rows.lex_irrefl _
    · rw [if_neg (by simp [PyData.eqv]; omega), PySem.W.dataLt_int]
      rw [Bool.eq_iff_iff]; simp
  · rw [if_neg (by simp [PyData.eqv]; omega), PySem.W.dataLt_int]
    rw [Bool.eq_iff_iff]; simp; omega
def ordE (x : (Nat × Nat) × Nat) : List Int := [0, (x.1.1 : Int), x.1.2]
def encE (x : (Nat × Nat) × Nat) : D := sumD (sg x.1.1 x.1.2 x.2)
theorem sort_enc (d : Dc) : sortByK (d.map ordE) (d.map encE) = (d.mergeSort leK).map encE := by
  unfold sortByK
  have z : (d.map ordE).zip (d.map encE) = d.map fun x => (ordE x, encE x) := by
    induction d with
    | nil => rfl
    | cons x d ih => rw [List.map_cons, List.map_cons, List.zip_cons_cons, ih]; rfl
  rw [z, ← List.map_mergeSort (r := leK) (f := fun x => (ordE x, encE x)), List.map_map]
  · rfl
  · intro a _ b _
    show _ = !ltL (ordE b) (ordE a)
    unfold ordE
    rw [ltL_eq, Bool.eq_iff_iff]
    simp [leK]
    omega
theorem keys_go {call : Nat → List D → G → R D} {g : G} : ∀ (d : Dc), (∀ x ∈ d, call 4 [ringD x.1.1 x.1.2] g = .ok (.list ((ordE x).map .int)) g) → keysC call 4 (d.map encE) g = .ok (d.map ordE) g
  | [], _ => rfl
  | x :: d, h => by
    rw [List.map_cons, List.map_cons]
    show keysC call 4 (.tuple [ringD x.1.1 x.1.2, .int (x.2 : Int)] :: d.map encE) g = _
    unfold keysC
    rw [h x (List.mem_cons_self ..), q_bind]
    show (R.of (intsD ((ordE x).map .int)) g).bind _ = _
    rw [intsD_map', q_of, q_bind, keys_go d fun y hy => h y (List.mem_cons_of_mem _ hy), q_bind]
section
variable {call : Nat → List D → G → R D} {W i : Nat} {ρ : Env1} {g : G}
theorem e_dget {k x : ME} {kvs : List (List Key × D)} {y z : D} {q : List Key} (h : ρ[i]? = some (some (.ownD kvs))) (hk : evE call k ρ g = .ok y g) (hx : evE call x ρ g = .ok z g) (hq : asKey y = some q) : evE call (.dget i k x) ρ g = .ok ((lookD kvs q).getD z) g := by
  rw [evE, h]
  show (evE call k ρ g).bind _ = _
  rw [hk, q_bind, hx, q_bind, hq, q_of, q_bind]
theorem e_dix {k : ME} {kvs : List (List Key × D)} {y z : D} {q : List Key} (h : ρ[i]? = some (some (.lckD kvs)) ∨ ρ[i]? = some (some (.ownD kvs))) (hk : evE call k ρ g = .ok y g) (hq : asKey y = some q) (hl : lookD kvs q = some z) : evE call (.dix i k) ρ g = .ok z g := by
  rcases h with h | h
  · rw [evE, h]
    show (evE call k ρ g).bind _ = _
    rw [hk, q_bind, hq, q_of, q_bind, hl, q_of]
  · rw [evE, h]
    show (evE call k ρ g).bind _ = _
    rw [hk, q_bind, hq, q_of, q_bind, hl, q_of]
theorem x_dset {k e : ME} {kvs : List (List Key × D)} {y z : D} {q : List Key} (h : ρ[i]? = some (some (.ownD kvs))) (he : evE call e ρ g = .ok z g) (hk : evE call k ρ g = .ok y g) (hq : asKey y = some q) (hl : kvs.length < 1000) : exS call W (.dset i k e) ρ g = .ok (.nx, ρ.set i (some (.ownD (putD kvs q z)))) g := by
  rw [exS, h]
  show (evE call e ρ g).bind _ = _
  rw [he, q_bind, hk, q_bind, hq, q_of, q_bind, if_pos hl]
theorem e_lockd {e : ME} {kvs : List (List Key × D)} {z : D} (h : ρ[i]? = some (some (.ownD kvs))) (he : evE call e (ρ.set i (some (.lckD kvs))) g = .ok z g) : evE call (.lockd i e) ρ g = .ok z g := by
  rw [evE, h]
  show R.noX _ = _
  rw [he, q_nox]
theorem e_dkeys {kvs : List (List Key × D)} (h : ρ[i]? = some (some (.lckD kvs))) : evI call (.dkeys i) ρ g = .ok (kvs.map fun x => keyD x.1) g := by
  rw [evI, h]
end
theorem inn_many (i j : Int) : cmpD .inn (.str (Str.ofString "many")) (.tuple [.int i, .int j]) = some false := by
  show (if flatD (.str (Str.ofString "many")) = true ∧ [PyData.int i, PyData.int j].all flatD = true then some (inD (.str (Str.ofString "many")) [.int i, .int j]) else none) = _
  rw [if_pos ⟨rfl, rfl⟩]
  simp [inD, PyData.eqv]
theorem c_sum {k : Nat} {a b : Gr} (ha : NG a) (hb : NG b) (hd : DI 1000 12 (addAll [] (a ++ b))) (g : G) : callK tabK WW (k + 6) 10 [encG a, encG b] g = .ok (encG (sumG a b)) g := by
  have e1 : callK tabK WW (k + 5) 7 [encG a] g = _ := c_need_group (k := k) ha.okGG g
  have e2 : callK tabK WW (k + 5) 7 [encG b] g = _ := c_need_group (k := k) hb.okGG g
  have e3 : callK tabK WW (k + 5) 7 [encG (sumG a b)] g = _ := c_need_group (k := k) (NG_sort hd).okGG g
  refine call_rts rfl rfl rfl ?_
  refine rts_p (ρ1 := [some (.frz (encG a)), some (.frz (encG b)), none, none, none, none, none]) (by simp [e1]) ?_
  refine rts_p (ρ1 := [some (.frz (encG a)), some (.frz (encG b)), none, none, none, none, none]) (by simp [e2]) ?_
  refine rts_p (ρ1 := [some (.frz (encG a)), some (.frz (encG b)), some (.ownD (encDc kkey [])), none, none, none, none]) (by simp [encDc]) ?_
  have okab : okG (a ++ b) := fun x hx => (List.mem_append.mp hx).elim (ha.ok x) (hb.ok x)
  have hlen : (a ++ b).length ≤ 24 := by have := ha.len; have := hb.len; rw [List.length_append]; omega
  have ad : binD .add (encG a) (encG b) = some (.tuple ((a ++ b).map fun x => sumD (sg x.1 x.2.1 x.2.2))) := by
    rw [encG_eq, encG_eq]
    show (if (a.map _).length + (b.map _).length ≤ sizeLine then _ else none) = _
    rw [List.length_map, List.length_map, if_pos (by have := ha.len; have := hb.len; exact Nat.le_trans (show a.length + b.length ≤ 24 by omega) (by simp [sizeLine])), List.map_append]
  have nda : ∀ i, (keysP (addAll [] ((a ++ b).take i))).Nodup ∧ (addAll [] ((a ++ b).take i)).length ≤ 24 := fun i => by
    have := addAll_DI (g := (a ++ b).take i) (d := []) (B := 0) (L := 0) (C := 1000) DI.nil (fun x hx => okab x (List.mem_of_mem_take hx)) (fun x hx => (List.mem_append.mp (List.mem_of_mem_take hx)).elim (ha.cop x) (hb.cop x))
    refine ⟨this.nd, Nat.le_trans this.len ?_⟩
    rw [List.length_take]
    omega
  refine rts_go (xs := (a ++ b).map fun x => sumD (sg x.1 x.2.1 x.2.2)) (fun i ρ => ∃ x y z, ρ = [some (.frz (encG a)), some (.frz (encG b)), some (.ownD (encDc kkey (addAll [] ((a ++ b).take i)))), x, y, none, z]) (by simp [ad]) ⟨none, none, none, rfl⟩ (fun j hj ρ hI => ?_) (fun ρ' hI => ?_)
  · obtain ⟨y, z, u, rfl⟩ := hI
    have hj' : j < (a ++ b).length := by rw [List.length_map] at hj; exact hj
    rw [List.getElem_map]
    have ht : addAll [] ((a ++ b).take (j + 1)) = daddP (addAll [] ((a ++ b).take j)) ((a ++ b)[j].1, (a ++ b)[j].2.1) (a ++ b)[j].2.2 := by
      rw [List.take_succ_eq_append_getElem hj']
      unfold addAll
      rw [List.foldl_append]
      rfl
    obtain ⟨nd, dl⟩ := nda j
    rw [ht]
    generalize addAll [] ((a ++ b).take j) = d at *
    generalize (a ++ b)[j] = x
    obtain ⟨p, n, c⟩ := x
    have q1 := e_dget (call := callK tabK WW (k + 5)) (i := 2) (ρ := [some (.frz (encG a)), some (.frz (encG b)), some (.ownD (encDc kkey d)), some (.frz (ringD p n)), some (.frz (.int (c : Int))), none, u]) (g := g) (k := .var 3) (x := .cst (.int 0)) (z := .int 0) (y := ringD p n) rfl (by simp) (by simp) (key_ring (p, n))
    rw [look_enc kkey kkey_inj] at q1
    have q2 := x_dset (call := callK tabK WW (k + 5)) (W := WW) (i := 2) (ρ := [some (.frz (encG a)), some (.frz (encG b)), some (.ownD (encDc kkey d)), some (.frz (ringD p n)), some (.frz (.int (c : Int))), none, some (.frz (.int (dgetP d (p, n) : Int)))]) (g := g) (k := .var 3) (e := .ifx (.cmp .inn (.cst (PyData.str (Str.ofString "many"))) (.tup (.cons (.var 6) (.cons (.var 4) .nil)))) (.cst (PyData.str (Str.ofString "many"))) (.bin .add (.var 6) (.var 4))) (z := .int ((dgetP d (p, n) + c : Nat) : Int)) (y := ringD p n) rfl (by simp [inn_many]) (by simp) (key_ring (p, n)) (by
      unfold encDc
      rw [List.length_map]
      omega)
    rw [put_enc kkey kkey_inj (p, n) c nd] at q2
    refine ⟨_, ?_, some (.frz (ringD p n)), some (.frz (.int (c : Int))), some (.frz (.int (dgetP d (p, n) : Int))), rfl⟩
    simp only [forF, sg, sda, q_of, q_bind, List.set_cons_zero, List.set_cons_succ, x_seq, x_asg, q1, t_nm, seqR_nx, q2]
  · obtain ⟨y, z, u, rfl⟩ := hI
    rw [List.length_map, List.take_length]
    have nd := hd.nd
    have dl := hd.len
    have es : sumG a b = sortG (addAll [] (a ++ b)) := rfl
    rw [es] at e3 ⊢
    generalize addAll [] (a ++ b) = d at *
    have l1 : evE (callK tabK WW (k + 5)) (.lc [3] (.nm 3) (.dkeys 2) (.cst (.bool true)) (.tup (.cons (.var 3) (.cons (.dix 2 (.var 3)) .nil)))) [some (.frz (encG a)), some (.frz (encG b)), some (.lckD (encDc kkey d)), y, z, none, u] g = .ok (.list (d.map encE)) g := by
      refine lc_enc (fun x => ringD x.1.1 x.1.2) _ ?_ (by omega) fun x hx => ?_
      · rw [e_dkeys rfl]
        unfold encDc
        rw [List.map_map]
        rfl
      · have q := e_dix (call := callK tabK WW (k + 5)) (i := 2) (ρ := [some (.frz (encG a)), some (.frz (encG b)), some (.lckD (encDc kkey d)), some (.frz (ringD x.1.1 x.1.2)), z, none, u]) (g := g) (k := .var 3) (y := ringD x.1.1 x.1.2) (.inl rfl) (by simp) (key_ring x.1) (look_mem kkey kkey_inj nd hx)
        simp only [lcE, t_nm, w_cons, w_nil, List.set_cons_zero, List.set_cons_succ, q_of, q_bind, e_cst, q_asB, if_true, e_tup, e_cons, e_nil, q, e_var, List.getElem?_cons_zero, List.getElem?_cons_succ, varD_frz, List.length_cons, List.length_nil, Nat.zero_add, Nat.reduceAdd, sl2]
        rfl
    have l2 := e_lockd (call := callK tabK WW (k + 5)) (i := 2) (ρ := [some (.frz (encG a)), some (.frz (encG b)), some (.ownD (encDc kkey d)), y, z, none, u]) (g := g) (kvs := encDc kkey d) rfl l1
    have l3 : evE (callK tabK WW (k + 5)) (.sortL (.lockd 2 (.lc [3] (.nm 3) (.dkeys 2) (.cst (.bool true)) (.tup (.cons (.var 3) (.cons (.dix 2 (.var 3)) .nil))))) 4) [some (.frz (encG a)), some (.frz (encG b)), some (.ownD (encDc kkey d)), y, z, none, u] g = .ok (.list ((d.mergeSort leK).map encE)) g := by
      rw [evE, l2, q_bind]
      show (R.noX (keysC (callK tabK WW (k + 5)) 4 (d.map encE) g)).bind _ = _
      rw [keys_go d fun x _ => c_order_ring (k := k + 4) g, q_nox, q_bind, if_pos (by rw [List.length_map]; omega), sort_enc]
    have l4 : PyData.tuple ((d.mergeSort leK).map encE) = encG (sortG d) := by
      rw [encG_eq]
      unfold sortG
      rw [List.map_map]
      rfl
    refine rts_p (ρ1 := [some (.frz (encG a)), some (.frz (encG b)), some (.ownD (encDc kkey d)), y, z, some (.frz (encG (sortG d))), u]) (by
      simp only [x_asg, e_blt, e_cons, l3, e_nil, q_bind, x_tuple_l, q_of, l4, t_nm, List.set_cons_zero, List.set_cons_succ]) ?_
    refine rts_p (ρ1 := [some (.frz (encG a)), some (.frz (encG b)), some (.ownD (encDc kkey d)), y, z, some (.frz (encG (sortG d))), u]) (by simp [e3]) ?_
    exact rts_ret (by simp)
end Mini

set_option maxRecDepth 100000
set_option maxHeartbeats 2000000
namespace Mini
open PySem L2 Evl
/-! ### elements -/
theorem trimR_rev (s : List Nat) : trimR s.reverse = (s.dropWhile (· == 0)).reverse := by
  unfold trimR
  rw [List.reverse_reverse]
theorem trimR_append (r : List Nat) : ∃ c, r = trimR r ++ List.replicate c 0 := by
  have h : ∀ s : List Nat, ∃ c, s = List.replicate c 0 ++ s.dropWhile (· == 0) := by
    intro s
    induction s with
    | nil => exact ⟨0, rfl⟩
    | cons x s ih =>
      by_cases e : x = 0
      · obtain ⟨c, hc⟩ := ih
        refine ⟨c + 1, ?_⟩
        subst e
        rw [List.dropWhile_cons_of_pos (by simp), List.replicate_succ, List.cons_append, ← hc]
      · refine ⟨0, ?_⟩
        rw [List.dropWhile_cons_of_neg (by simp [e])]
        rfl
  obtain ⟨c, hc⟩ := h r.reverse
  refine ⟨c, ?_⟩
  have := congrArg List.reverse hc
  rw [List.reverse_reverse, List.reverse_append, List.reverse_replicate] at this
  exact this
theorem trimR_all (P : Nat → Bool) (h : P 0 = true) (r : List Nat) : (trimR r).all P = r.all P := by
  obtain ⟨c, hc⟩ := trimR_append r
  have e : (List.replicate c 0).all P = true := by
    rw [List.all_eq_true]
    intro x hx
    rw [(List.mem_replicate.mp hx).2]
    exact h
  conv => rhs; rw [hc, List.all_append, e, Bool.and_true]
theorem trimR_len (r : List Nat) : (trimR r).length ≤ r.length := by
  obtain ⟨c, hc⟩ := trimR_append r
  have := congrArg List.length hc
  rw [List.length_append] at this
  omega
theorem trimR_mem {r : List Nat} {x : Nat} (h : x ∈ trimR r) : x ∈ r := by
  obtain ⟨c, hc⟩ := trimR_append r
  rw [hc]
  exact List.mem_append_left _ h
theorem dropWhile_idem (s : List Nat) : (s.dropWhile (· == 0)).dropWhile (· == 0) = s.dropWhile (· == 0) := by
  induction s with
  | nil => rfl
  | cons x s ih =>
    by_cases e : x = 0
    · rw [List.dropWhile_cons_of_pos (by simp [e]), ih]
    · rw [List.dropWhile_cons_of_neg (by simp [e]), List.dropWhile_cons_of_neg (by simp [e])]
theorem trimR_trim (r : List Nat) : trimR (trimR r) = trimR r := by
  unfold trimR
  rw [List.reverse_reverse, dropWhile_idem]
theorem trim_last {r : List Nat} (h : trimR r = r) (hn : r ≠ []) : r.getLast hn ≠ 0 := by
  intro e
  have e1 : r = r.dropLast ++ [0] := by rw [← e]; exact (List.dropLast_concat_getLast hn).symm
  have e2 : trimR r = trimR r.dropLast := by
    conv => lhs; rw [e1]
    unfold trimR
    rw [List.reverse_append]
    show (List.dropWhile _ (0 :: r.dropLast.reverse)).reverse = _
    rw [List.dropWhile_cons_of_pos (by simp)]
  have e3 := trimR_len r.dropLast
  rw [← e2, h, List.length_dropLast] at e3
  have := List.length_pos_iff.mpr hn
  omega
theorem c_zero {k : Nat} (p n : Nat) (g : G) : callK tabK WW (k + 1) 14 [ringD p n] g = .ok (.int 0) g := by
  refine call_rts (ρ0 := [some (.frz (ringD p n))]) rfl rfl rfl ?_
  exact rts_ret (by simp)
theorem c_is_place {k p n v : Nat} (h : PN p n) (hv : v < p ^ n) (g : G) : callK tabK WW (k + 2) 13 [ringD p n, iD v] g = .ok (.bool true) g := by
  refine call_rts (ρ0 := [some (.frz (ringD p n)), some (.frz (iD v))]) rfl rfl rfl ?_
  have e := c_ring (k := k) h g
  have h1 : (0 : Int) ≤ (v : Int) := by omega
  have h2 : (v : Int) ≤ ((p ^ n : Nat) : Int) - 1 := by omega
  have e2 := c_num (k := k) (v : Int) 0 (((p ^ n : Nat) : Int) - 1) g
  rw [decide_eq_true h1, decide_eq_true h2] at e2
  have e2' : callK tabK WW (k + 1) 0 [iD v, .int 0, .int (((p ^ n : Nat) : Int) - 1)] g = .ok (.bool true) g := e2
  refine rts_rt (ρ1 := [some (.frz (ringD p n)), some (.frz (iD v))]) ?_
  simp only [x_ife, e_cmp, e_ix, e_var, List.getElem?_cons_zero, List.getElem?_cons_succ, varD_frz, q_bind, e_cst, kr0, q_of, k_eqS okR okR, decide_true, q_asB, if_true, x_ret, e_call, e_cons, e_bin, e_nil, e, b_sub, e2']
theorem ix_last (r : List Nat) (h : r ≠ []) : ixD (encR r) (.int (-1)) = some (iD (r.getLast h)) := by
  show atI (r.map iD) (-1) = _
  have hl : 0 < r.length := List.length_pos_iff.mpr h
  unfold atI
  have : ixN (r.map iD).length (-1) = some (r.length - 1) := by
    unfold ixN
    rw [List.length_map, if_neg (by omega), if_pos (by omega)]
    congr 1
    omega
  rw [this]
  show (r.map iD)[r.length - 1]? = _
  rw [List.getElem?_map, List.getElem?_eq_getElem (by omega), List.getLast_eq_getElem]
  rfl
theorem ix_lastL (r : List Nat) (h : r ≠ []) : ixD (encL r) (.int (-1)) = some (iD (r.getLast h)) := ix_last r h
@[simp] theorem lenR (r : List Nat) : bltD .len [encR r] = some (.int (r.length : Int)) := by unfold encR; rw [x_len_t, List.length_map]
@[simp] theorem lenL (r : List Nat) : bltD .len [encL r] = some (.int (r.length : Int)) := by unfold encL; rw [x_len_l, List.length_map]
@[simp] theorem nodR (r : List Nat) : nod (encR r) = true := nodL_all _ _ fun x _ => rfl
@[simp] theorem nodLL (r : List Nat) : nod (encL r) = true := nodL_all _ _ fun x _ => rfl
@[simp] theorem isiR (r : List Nat) : isiD .tuple (encR r) = true := Eq.trans rfl rfl
@[simp] theorem seqR_t (r : List Nat) (g : G) : seqTD (encR r) g = .ok (r.map iD) g := Eq.trans rfl rfl
abbrev Sq := (Nat × Nat × Nat) × List Nat
structure OkQ (q : Sq) : Prop where
  pn : PN q.1.1 q.1.2.1
  c : 1 ≤ q.1.2.2 ∧ q.1.2.2 ≤ 1000
  len : q.2.length ≤ q.1.2.2
  lt : ∀ v ∈ q.2, v < q.1.1 ^ q.1.2.1
  tr : trimR q.2 = q.2
def smD (x : Nat × Nat × Nat) : D := sumD (sg x.1 x.2.1 x.2.2)
theorem c_are_places {k : Nat} {q : Sq} (h : OkQ q) (g : G) : callK tabK WW (k + 3) 15 [smD q.1, encR q.2] g = .ok (.bool true) g := by
  obtain ⟨⟨p, n, c⟩, r⟩ := q
  have hc : 1 ≤ c ∧ c ≤ 1000 := h.c
  have hl : r.length ≤ c := h.len
  have htr : trimR r = r := h.tr
  refine call_rts (ρ0 := [some (.frz (smD (p, n, c))), some (.frz (encR r)), none, none, none, none]) rfl rfl rfl ?_
  refine rts_p (ρ1 := [some (.frz (smD (p, n, c))), some (.frz (encR r)), some (.frz (ringD p n)), some (.frz (.int (c : Int))), none, none]) (by simp [smD, sg]) ?_
  have l1 : evE (callK tabK WW (k + 2)) (.lc [5] (.nm 5) (.seqT (.var 1)) (.cst (.bool true)) (.call 13 (.cons (.var 2) (.cons (.var 5) .nil)))) [some (.frz (smD (p, n, c))), some (.frz (encR r)), some (.frz (ringD p n)), some (.frz (.int (c : Int))), none, none] g = .ok (.list (r.map fun v => .bool true)) g := by
    refine lc_enc iD _ (by simp) (by omega) fun v hv => ?_
    have e := c_is_place (k := k) h.pn (h.lt v hv) g
    simp [lcE, e]
  have a1 : bltD .all [PyData.list (r.map fun v => .bool true)] = some (.bool true) := by
    rw [x_all]
    simp
  refine rts_p (ρ1 := [some (.frz (smD (p, n, c))), some (.frz (encR r)), some (.frz (ringD p n)), some (.frz (.int (c : Int))), none, none]) (by
    simp only [x_ife, e_or, e_not, e_isi, e_var, List.getElem?_cons_zero, List.getElem?_cons_succ, varD_frz, q_bind, nodR, isiR, if_true, q_asB, Bool.not_true, Bool.false_eq_true, if_false, e_blt, e_cons, l1, e_nil, a1, q_of, x_skip]) ?_
  refine rts_p (ρ1 := [some (.frz (smD (p, n, c))), some (.frz (encR r)), some (.frz (ringD p n)), some (.frz (.int (c : Int))), some (.frz (.int (c : Int))), none]) (by simp) ?_
  have z := c_zero (k := k + 1) p n g
  refine rts_ret ?_
  have h1 : (r.length : Int) ≤ (c : Int) := by omega
  by_cases hn : r = []
  · subst hn
    have : (0 : Int) ≤ (c : Int) := by omega
    simp [this]
  · have hl0 : ¬ ((r.length : Int) = 0) := by have := List.length_pos_iff.mpr hn; omega
    have la : ¬ (((r.getLast hn : Nat) : Int) = 0) := by have t : r.getLast hn ≠ 0 := trim_last htr hn; omega
    have z' : callK tabK WW (k + 2) 14 [ringD p n] g = _ := z
    simp only [e_and, e_or, e_cmp, e_blt, e_cons, e_var, e_nil, List.getElem?_cons_zero, List.getElem?_cons_succ, varD_frz, q_bind, lenR, q_of, k_le, decide_eq_true h1, q_asB, if_true, e_cst, k_eq, decide_eq_false hl0, Bool.false_eq_true, if_false, e_ix, e_neg, q_asI, ix_last r hn, e_call, z', k_ne, decide_eq_false la, Bool.not_false]
def grZ (z : List Sq) : Gr := z.map (·.1)
def elZ (z : List Sq) : List (List Nat) := z.map (·.2)
def encEl (e : List (List Nat)) : D := .tuple (e.map encR)
@[simp] theorem nodEl (e : List (List Nat)) : nod (encEl e) = true := nodL_all _ _ fun x _ => nodR x
@[simp] theorem isiEl (e : List (List Nat)) : isiD .tuple (encEl e) = true := Eq.trans rfl rfl
@[simp] theorem lenEl (e : List (List Nat)) : bltD .len [encEl e] = some (.int (e.length : Int)) := by unfold encEl; rw [x_len_t, List.length_map]
@[simp] theorem lenG (gr : Gr) : bltD .len [encG gr] = some (.int (gr.length : Int)) := by rw [encG_eq, x_len_t, List.length_map]
def encZ (q : Sq) : D := .tuple [smD q.1, encR q.2]
theorem zip_Z (z : List Sq) (g : G) : zipTD (encG (grZ z)) (encEl (elZ z)) g = .ok (z.map encZ) g := by
  rw [encG_eq]
  unfold encEl
  rw [zipT_tt]
  congr 1
  unfold grZ elZ
  rw [List.map_map, List.map_map]
  induction z with
  | nil => rfl
  | cons q z ih => rw [List.map_cons, List.map_cons, List.map_cons, ← ih]; rfl
@[simp] theorem setZ (q : Sq) (i j : Nat) (ρ : Env1) : setT (.tp [i, j]) (encZ q) ρ = some ((ρ.set i (some (.frz (smD q.1)))).set j (some (.frz (encR q.2)))) := Eq.trans rfl rfl
theorem c_is_element {k : Nat} {z : List Sq} (h : ∀ q ∈ z, OkQ q) (hl : z.length ≤ 1000) (g : G) : callK tabK WW (k + 4) 16 [encG (grZ z), encEl (elZ z)] g = .ok (.bool true) g := by
  refine call_rts (ρ0 := [some (.frz (encG (grZ z))), some (.frz (encEl (elZ z))), none, none]) rfl rfl rfl ?_
  refine rts_p (ρ1 := [some (.frz (encG (grZ z))), some (.frz (encEl (elZ z))), none, none]) (by simp [grZ, elZ]) ?_
  have l1 : evE (callK tabK WW (k + 3)) (.lc [2, 3] (.tp [2, 3]) (.zipT (.var 0) (.var 1)) (.cst (.bool true)) (.call 15 (.cons (.var 2) (.cons (.var 3) .nil)))) [some (.frz (encG (grZ z))), some (.frz (encEl (elZ z))), none, none] g = .ok (.list (z.map fun v => .bool true)) g := by
    refine lc_enc encZ _ (by simp [zip_Z]) (by omega) fun q hq => ?_
    have e := c_are_places (k := k) (h q hq) g
    simp [lcE, e]
  have a1 : bltD .all [PyData.list (z.map fun v => .bool true)] = some (.bool true) := by
    rw [x_all]
    simp
  exact rts_ret (by simp only [e_blt, e_cons, l1, e_nil, q_bind, a1, q_of])
theorem c_need_element {k : Nat} {z : List Sq} (hg : NG (grZ z)) (h : ∀ q ∈ z, OkQ q) (g : G) : callK tabK WW (k + 6) 17 [encG (grZ z), encEl (elZ z)] g = .ok .none g := by
  have hl : z.length ≤ 12 := by have := hg.len; unfold grZ at this; rw [List.length_map] at this; exact this
  have e1 : callK tabK WW (k + 5) 7 [encG (grZ z)] g = _ := c_need_group (k := k) hg.okGG g
  have e2 : callK tabK WW (k + 5) 16 [encG (grZ z), encEl (elZ z)] g = _ := c_is_element (k := k + 1) h (by omega) g
  refine call_nx (F := f_need_element) (ρ' := [some (.frz (encG (grZ z))), some (.frz (encEl (elZ z)))]) rfl rfl ?_
  simp [f_need_element, e1, e2]
theorem x_pop {call : Nat → List D → G → R D} {W i : Nat} {ρ : Env1} {g : G} {xs : List D} (h : ρ[i]? = some (some (.ownL xs))) (hn : xs ≠ []) : exS call W (.pop i) ρ g = .ok (.nx, ρ.set i (some (.ownL xs.dropLast))) g := by
  cases xs with
  | nil => exact absurd rfl hn
  | cons x xs => rw [exS, h]
theorem lend3 (a b : D) (ds : List D) (ha : nod a = true) (hb : nod b = true) (hd : nodL ds = true) : lend [2] [some (.frz a), some (.frz b), some (.ownL ds)] = [some (.frz a), some (.frz b), some (.frz (.list ds))] := by
  unfold lend
  simp [List.mapIdx_cons, ha, hb, hd]
theorem smD_nod (x : Nat × Nat × Nat) : nod (smD x) = true := sdn (krn _ _) rfl
@[simp] theorem smD0 (x : Nat × Nat × Nat) : ixD (smD x) (.int 0) = some (ringD x.1 x.2.1) := Eq.trans (sd0 _) rfl
def lead0 : List Nat → Bool
  | 0 :: _ => true
  | _ => false
theorem c_trimmed {k : Nat} (x : Nat × Nat × Nat) {places : D} (r : List Nat) (hp : places = encR r ∨ places = encL r) (hl : r.length < 2000) (g : G) : callK tabK WW (k + 2) 18 [smD x, places] g = .ok (encR (trimR r)) g := by
  refine call_rts (ρ0 := [some (.frz (smD x)), some (.frz places), none]) rfl rfl rfl ?_
  have hnp : nod places = true := by rcases hp with rfl | rfl <;> simp
  refine rts_p (ρ1 := [some (.frz (smD x)), some (.frz places), some (.ownL (r.map iD))]) (by
    rw [exS]
    rcases hp with rfl | rfl <;> simp [encR, encL]) ?_
  have hz := c_zero (k := k) x.1 x.2.1 []
  refine rts_whl (α := List Nat) (fun s => [some (.frz (smD x)), some (.frz places), some (.ownL (s.reverse.map iD))]) lead0 (fun s => s.tail) (fun s => trimR s.reverse = trimR r) (fun s => s.length)
    (fun s hs => ?_) (fun s hs hc => ?_) (fun s hs hc => ?_) r.reverse (by simp only [List.reverse_reverse]) (by rw [List.reverse_reverse]) (by rw [List.length_reverse]; exact hl) (fun s hs hc => ?_)
  · rw [evE, lend3 _ _ _ (smD_nod x) hnp (nodL_all _ _ fun _ _ => rfl)]
    have hc : evE (callK tabK WW (k + 1)) (.and (.cmp .gt (.blt .len (.cons (.var 2) .nil)) (.cst (PyData.int 0))) (.cmp .eq (.ix (.var 2) (.neg (.cst (PyData.int 1)))) (.call 14 (.cons (.ix (.var 0) (.cst (PyData.int 0))) .nil)))) [some (.frz (smD x)), some (.frz places), some (.frz (.list (s.reverse.map iD)))] [] = .ok (.bool (lead0 s)) [] := by
      have hl' : bltD .len [PyData.list (s.reverse.map iD)] = some (.int (s.length : Int)) := by rw [x_len_l, List.length_map, List.length_reverse]
      cases s with
      | nil => simp [lead0]
      | cons a s =>
        have h1 : (0 : Int) < ((a :: s).length : Int) := by rw [List.length_cons]; omega
        have hne : (a :: s).reverse ≠ [] := by simp
        have h2 := ix_lastL (a :: s).reverse hne
        have h3 : (a :: s).reverse.getLast hne = a := by simp
        rw [h3] at h2
        have h2' : ixD (PyData.list ((a :: s).reverse.map iD)) (.int (-1)) = some (iD a) := h2
        have h4 : decide ((a : Int) = 0) = lead0 (a :: s) := by
          cases a with
          | zero => rfl
          | succ a => exact decide_eq_false (by omega)
        simp only [e_and, e_cmp, e_blt, e_cons, e_var, e_nil, List.getElem?_cons_zero, List.getElem?_cons_succ, varD_frz, q_bind, hl', q_of, e_cst, k_gt, decide_eq_true h1, q_asB, if_true, e_ix, e_neg, q_asI, h2', e_call, smD0, hz, k_eq, h4]
    rw [hc]
    rfl
  · cases s with
    | nil => cases hc
    | cons a s =>
      have := x_pop (call := callK tabK WW (k + 1)) (W := WW) (i := 2) (ρ := [some (.frz (smD x)), some (.frz places), some (.ownL ((a :: s).reverse.map iD))]) (g := g) rfl (by simp)
      rw [this]
      congr 1
      simp
  · cases s with
    | nil => cases hc
    | cons a s =>
      cases a with
      | succ a => cases hc
      | zero =>
        refine ⟨?_, Nat.lt_succ_self _⟩
        show trimR s.reverse = trimR r
        rw [← hs, trimR_rev, trimR_rev, List.dropWhile_cons_of_pos (by simp)]
  · have e : trimR r = s.reverse := by
      rw [← hs, trimR_rev]
      congr 1
      cases s with
      | nil => rfl
      | cons a s =>
        cases a with
        | zero => cases hc
        | succ a => rw [List.dropWhile_cons_of_neg (by simp)]
    refine rts_p (ρ1 := [some (.frz (smD x)), some (.frz places), some (.frz (encL s.reverse))]) (x_frz rfl) ?_
    rw [e]
    exact rts_ret (by simp [encL, encR])
end Mini

set_option maxRecDepth 100000
set_option maxHeartbeats 2000000
namespace Mini
open PySem L2 Evl
/-! ### multiples and parts of elements -/
def mulV (f : Int) (m v : Nat) : Nat := (f * (v : Int) % (m : Int)).toNat
def mulE (f : Int) (q : Sq) : Sq := (q.1, trimR (q.2.map (mulV f (q.1.1 ^ q.1.2.1))))
theorem mulV_eq {f : Int} {m v : Nat} (hm : 1 ≤ m) : ((mulV f m v : Nat) : Int) = f * (v : Int) % (m : Int) := Int.toNat_of_nonneg (Int.emod_nonneg _ (by omega))
theorem mulV_lt {f : Int} {m v : Nat} (hm : 1 ≤ m) : mulV f m v < m := by
  have h1 := mulV_eq (f := f) (v := v) hm
  have h2 := Int.emod_lt_of_pos (f * (v : Int)) (b := (m : Int)) (by omega)
  omega
theorem OkQ.pp {q : Sq} (h : OkQ q) : 1 ≤ q.1.1 ^ q.1.2.1 ∧ q.1.1 ^ q.1.2.1 ≤ 343 := ⟨Nat.pow_pos (by have := h.pn.small; omega), h.pn.small.2.2.2.2⟩
theorem OkQ.mul {q : Sq} (h : OkQ q) (f : Int) : OkQ (mulE f q) := by
  refine ⟨h.pn, h.c, Nat.le_trans (trimR_len _) (by rw [List.length_map]; exact h.len), fun v hv => ?_, trimR_trim _⟩
  obtain ⟨w, hw, rfl⟩ := List.mem_map.mp (trimR_mem hv)
  exact mulV_lt h.pp.1
theorem c_place_of {k p n v : Nat} (h : PN p n) {f : Int} (hv : v < p ^ n) (g : G) : callK tabK WW (k + 2) 20 [ringD p n, .int f, iD v] g = .ok (iD (mulV f (p ^ n) v)) g := by
  have hs := h.small
  have hp : 1 ≤ p ^ n := Nat.pow_pos (by omega)
  refine call_rts (ρ0 := [some (.frz (ringD p n)), some (.frz (.int f)), some (.frz (iD v)), none, none]) rfl rfl rfl ?_
  have e := c_ring (k := k) h g
  have m1 : binD .mul (.int f) (iD v) = some (.int (f * (v : Int))) := b_mul _ _ (okMul_r (by omega) (by omega))
  have m2 : binD .mod (.int (f * (v : Int))) (.int ((p ^ n : Nat) : Int)) = some (iD (mulV f (p ^ n) v)) := by
    rw [b_mod _ _ (by omega), ← mulV_eq hp]
  refine rts_rt (ρ1 := [some (.frz (ringD p n)), some (.frz (.int f)), some (.frz (iD v)), none, none]) ?_
  simp only [x_ife, e_cmp, e_ix, e_var, List.getElem?_cons_zero, List.getElem?_cons_succ, varD_frz, q_bind, e_cst, kr0, q_of, k_eqS okR okR, decide_true, q_asB, if_true, x_ret, e_bin, m1, e_call, e_cons, e_nil, e, m2]
theorem c_times_here {k : Nat} {z : List Sq} (h : ∀ q ∈ z, OkQ q) (hl : z.length ≤ 1000) (f : Int) (g : G) : callK tabK WW (k + 3) 21 [encG (grZ z), .int f, encEl (elZ z)] g = .ok (encEl (elZ (z.map (mulE f)))) g := by
  refine call_rts rfl rfl rfl ?_
  refine rts_p (ρ1 := [some (.frz (encG (grZ z))), some (.frz (.int f)), some (.frz (encEl (elZ z))), some (.ownL []), none, none, none]) (by simp) ?_
  refine rts_go (xs := z.map encZ) (fun i ρ => ∃ x y, ρ = [some (.frz (encG (grZ z))), some (.frz (.int f)), some (.frz (encEl (elZ z))), some (.ownL ((elZ ((z.take i).map (mulE f))).map encR)), x, y, none]) (by simp [zip_Z]) ⟨none, none, rfl⟩ (fun j hj ρ hI => ?_) (fun ρ' hI => ?_)
  · obtain ⟨y, u, rfl⟩ := hI
    have hj' : j < z.length := by rw [List.length_map] at hj; exact hj
    rw [List.getElem_map]
    have hq := h _ (List.getElem_mem hj')
    have ht : elZ ((z.take (j + 1)).map (mulE f)) = elZ ((z.take j).map (mulE f)) ++ [(mulE f z[j]).2] := by
      rw [List.take_succ_eq_append_getElem hj', List.map_append]
      unfold elZ
      rw [List.map_append]
      rfl
    have htl : (elZ ((z.take j).map (mulE f))).length ≤ 1000 := by
      unfold elZ
      rw [List.length_map, List.length_map, List.length_take]
      omega
    rw [ht]
    generalize z[j] = q at *
    generalize elZ ((z.take j).map (mulE f)) = es at *
    have l1 : evE (callK tabK WW (k + 2)) (.lc [6] (.nm 6) (.seqT (.var 5)) (.cst (.bool true)) (.call 20 (.cons (.ix (.var 4) (.cst (PyData.int 0))) (.cons (.var 1) (.cons (.var 6) .nil))))) [some (.frz (encG (grZ z))), some (.frz (.int f)), some (.frz (encEl (elZ z))), some (.ownL (es.map encR)), some (.frz (smD q.1)), some (.frz (encR q.2)), none] g = .ok (encL (q.2.map (mulV f (q.1.1 ^ q.1.2.1)))) g := by
      have r : encL (q.2.map (mulV f (q.1.1 ^ q.1.2.1))) = .list (q.2.map fun v => iD (mulV f (q.1.1 ^ q.1.2.1) v)) := by
        unfold encL
        rw [List.map_map]
        rfl
      rw [r]
      refine lc_enc iD _ (by simp) (by have := hq.len; have := hq.c.2; omega) fun v hv => ?_
      have e := c_place_of (k := k) hq.pn (f := f) (hq.lt v hv) g
      simp [lcE, e]
    have e2 := c_trimmed (k := k) q.1 (q.2.map (mulV f (q.1.1 ^ q.1.2.1))) (.inr rfl) (by rw [List.length_map]; have := hq.len; have := hq.c.2; omega) g
    have ap := x_app (call := callK tabK WW (k + 2)) (W := WW) (i := 3) (e := .call 18 (.cons (.var 4) (.cons (.lc [6] (.nm 6) (.seqT (.var 5)) (.cst (.bool true)) (.call 20 (.cons (.ix (.var 4) (.cst (PyData.int 0))) (.cons (.var 1) (.cons (.var 6) .nil))))) .nil))) (ρ := [some (.frz (encG (grZ z))), some (.frz (.int f)), some (.frz (encEl (elZ z))), some (.ownL (es.map encR)), some (.frz (smD q.1)), some (.frz (encR q.2)), none]) (g := g) (g1 := g) (xs := es.map encR) (d := encR (mulE f q).2) rfl (by
      simp only [e_call, e_cons, e_var, List.getElem?_cons_zero, List.getElem?_cons_succ, varD_frz, q_bind, l1, e_nil, e2]
      rfl) (by rw [List.length_map]; omega)
    refine ⟨_, ?_, some (.frz (smD q.1)), some (.frz (encR q.2)), rfl⟩
    simp only [forF, setZ, q_of, q_bind, List.set_cons_zero, List.set_cons_succ]
    rw [ap, List.map_append]
    rfl
  · obtain ⟨y, u, rfl⟩ := hI
    rw [List.length_map, List.take_length]
    refine rts_p (ρ1 := [some (.frz (encG (grZ z))), some (.frz (.int f)), some (.frz (encEl (elZ z))), some (.frz (.list ((elZ (z.map (mulE f))).map encR))), y, u, none]) (x_frz rfl) ?_
    exact rts_ret (by simp [encEl])
def part1 (p n : Nat) (b : Int) (v : Nat) : Bool := decide (v % p ^ pin p n b = 0)
theorem c_place_parts {k p n v : Nat} (h : PN p n) {b : Int} (hv : v < p ^ n) (g : G) : callK tabK WW (k + 2) 23 [ringD p n, .int b, iD v] g = .ok (.bool (part1 p n b v)) g := by
  have hs := h.small
  by_cases hb : b = 0
  · subst hb
    have z : callK tabK WW (k + 1) 14 [ringD p n] g = _ := c_zero (k := k) p n g
    refine call_rts (ρ0 := [some (.frz (ringD p n)), some (.frz (.int 0)), some (.frz (iD v))]) rfl rfl rfl ?_
    refine rts_rt (ρ1 := [some (.frz (ringD p n)), some (.frz (.int 0)), some (.frz (iD v))]) ?_
    have e : decide ((v : Int) = 0) = part1 p n 0 v := by
      unfold part1
      rw [pin_zero, Nat.mod_eq_of_lt hv]
      exact decide_eq_decide.mpr (by omega)
    simp only [x_ife, e_cmp, e_var, List.getElem?_cons_zero, List.getElem?_cons_succ, varD_frz, q_bind, e_cst, q_of, k_eq, decide_true, q_asB, if_true, x_ret, e_call, e_cons, e_nil, z, e]
  · refine call_rts (ρ0 := [some (.frz (ringD p n)), some (.frz (.int b)), some (.frz (iD v))]) rfl rfl rfl ?_
    refine rts_p (ρ1 := [some (.frz (ringD p n)), some (.frz (.int b)), some (.frz (iD v))]) (by simp [hb]) ?_
    have e1 := c_power_in (k := k) h b g
    have hp : pin p n b ≤ n := by
      have : ∀ n v, pin p n v ≤ n := by
        intro n
        induction n with
        | zero => intro v; exact Nat.le_refl _
        | succ n ih =>
          intro v
          unfold pin
          split
          · exact Nat.succ_le_succ (ih _)
          · exact Nat.zero_le _
      exact this n b
    have e2 := c_raised (k := k) (b := p) (t := pin p n b) (by omega) (by omega) g
    have hpp : 0 < p ^ pin p n b := Nat.pow_pos (by omega)
    have m1 : binD .mod (iD v) (.int ((p ^ pin p n b : Nat) : Int)) = some (.int ((v : Int) % ((p ^ pin p n b : Nat) : Int))) := b_mod _ _ (by omega)
    have e : decide ((v : Int) % ((p ^ pin p n b : Nat) : Int) = 0) = part1 p n b v := by
      unfold part1
      exact decide_eq_decide.mpr (by rw [← Int.natCast_emod]; omega)
    refine rts_rt (ρ1 := [some (.frz (ringD p n)), some (.frz (.int b)), some (.frz (iD v))]) ?_
    simp only [x_ife, e_cmp, e_ix, e_var, List.getElem?_cons_zero, List.getElem?_cons_succ, varD_frz, q_bind, e_cst, kr0, kr1, kr2, q_of, k_eqS okR okR, decide_true, q_asB, if_true, x_ret, e_bin, e_call, e_cons, e_nil, e1, e2, m1, k_eq, e]
def partZ (b : Int) (z : List Sq) : Bool := z.all fun q => q.2.all fun v => part1 q.1.1 q.1.2.1 b v
theorem c_parts_here {k : Nat} {z : List Sq} (h : ∀ q ∈ z, OkQ q) (hl : z.length ≤ 1000) (b : Int) (g : G) : callK tabK WW (k + 3) 24 [encG (grZ z), .int b, encEl (elZ z)] g = .ok (.bool (partZ b z)) g := by
  refine call_rts rfl rfl rfl ?_
  refine rts_all encZ (fun ρ => ∃ x y, ρ = [some (.frz (encG (grZ z))), some (.frz (.int b)), some (.frz (encEl (elZ z))), x, y, none]) (fun q => q.2.all fun v => part1 q.1.1 q.1.2.1 b v) (.bool false) z (by simp [zip_Z]) ⟨none, none, rfl⟩ (fun q hq ρ hj => ?_) (fun hall ρ' hj => ?_) (fun hall => ?_)
  · obtain ⟨y, u, rfl⟩ := hj
    have hq' := h q hq
    refine ⟨_, ⟨some (.frz (smD q.1)), some (.frz (encR q.2)), rfl⟩, ?_⟩
    have l1 : evE (callK tabK WW (k + 2)) (.lc [5] (.nm 5) (.seqT (.var 4)) (.cst (.bool true)) (.call 23 (.cons (.ix (.var 3) (.cst (PyData.int 0))) (.cons (.var 1) (.cons (.var 5) .nil))))) [some (.frz (encG (grZ z))), some (.frz (.int b)), some (.frz (encEl (elZ z))), some (.frz (smD q.1)), some (.frz (encR q.2)), none] g = .ok (.list (q.2.map fun v => .bool (part1 q.1.1 q.1.2.1 b v))) g := by
      refine lc_enc iD _ (by simp) (by have := hq'.len; have := hq'.c.2; omega) fun v hv => ?_
      have e := c_place_parts (k := k) hq'.pn (b := b) (hq'.lt v hv) g
      simp [lcE, e]
    have a1 : bltD .all [PyData.list (q.2.map fun v => .bool (part1 q.1.1 q.1.2.1 b v))] = some (.bool (q.2.all fun v => part1 q.1.1 q.1.2.1 b v)) := x_all _ _
    cases hg : (q.2.all fun v => part1 q.1.1 q.1.2.1 b v) <;> rw [hg] at a1 <;> simp only [forF, setZ, q_of, q_bind, List.set_cons_zero, List.set_cons_succ, x_ife, e_not, e_blt, e_cons, l1, e_nil, a1, q_asB, Bool.not_true, Bool.not_false, Bool.false_eq_true, if_true, if_false, x_skip, x_ret, e_cst]
  · obtain ⟨y, u, rfl⟩ := hj
    have : partZ b z = true := hall
    exact rts_ret (by rw [this, e_cst])
  · have : partZ b z = false := hall
    rw [this]
    exact ⟨rfl, rfl⟩
theorem c_many_times {k : Nat} {z : List Sq} (hg : NG (grZ z)) (h : ∀ q ∈ z, OkQ q) {f : Int} (hf : -1 ≤ f ∧ f ≤ 9) (g : G) : callK tabK WW (k + 7) 25 [encG (grZ z), .int f, encEl (elZ z)] g = .ok (encEl (elZ (z.map (mulE f)))) g := by
  have hl : z.length ≤ 12 := by have := hg.len; unfold grZ at this; rw [List.length_map] at this; exact this
  have e1 : callK tabK WW (k + 6) 7 [encG (grZ z)] g = _ := c_need_group (k := k + 1) hg.okGG g
  have e2 : callK tabK WW (k + 6) 17 [encG (grZ z), encEl (elZ z)] g = _ := c_need_element (k := k) hg h g
  have e3 : callK tabK WW (k + 6) 21 [encG (grZ z), .int f, encEl (elZ z)] g = _ := c_times_here (k := k + 3) h (by omega) f g
  have h1 : (-1000000000000000000 : Int) ≤ f := by omega
  have h2 : f ≤ 1000000000000000000 := by omega
  refine call_rts (ρ0 := [some (.frz (encG (grZ z))), some (.frz (.int f)), some (.frz (encEl (elZ z)))]) rfl rfl rfl ?_
  refine rts_p (ρ1 := [some (.frz (encG (grZ z))), some (.frz (.int f)), some (.frz (encEl (elZ z)))]) (by simp [e1]) ?_
  refine rts_p (ρ1 := [some (.frz (encG (grZ z))), some (.frz (.int f)), some (.frz (encEl (elZ z)))]) (by simp [h1, h2]) ?_
  refine rts_p (ρ1 := [some (.frz (encG (grZ z))), some (.frz (.int f)), some (.frz (encEl (elZ z)))]) (by simp [e2]) ?_
  exact rts_ret (by simp [e3])
theorem c_divides {k : Nat} {z : List Sq} (hg : NG (grZ z)) (h : ∀ q ∈ z, OkQ q) {b : Int} (hb : 0 ≤ b ∧ b ≤ 9) (g : G) : callK tabK WW (k + 7) 26 [encG (grZ z), .int b, encEl (elZ z)] g = .ok (.bool (partZ b z)) g := by
  have hl : z.length ≤ 12 := by have := hg.len; unfold grZ at this; rw [List.length_map] at this; exact this
  have e1 : callK tabK WW (k + 6) 7 [encG (grZ z)] g = _ := c_need_group (k := k + 1) hg.okGG g
  have e2 : callK tabK WW (k + 6) 17 [encG (grZ z), encEl (elZ z)] g = _ := c_need_element (k := k) hg h g
  have e3 : callK tabK WW (k + 6) 24 [encG (grZ z), .int b, encEl (elZ z)] g = _ := c_parts_here (k := k + 3) h (by omega) b g
  have h1 : (0 : Int) ≤ b := hb.1
  have h2 : b ≤ 1000000000000 := by omega
  refine call_rts (ρ0 := [some (.frz (encG (grZ z))), some (.frz (.int b)), some (.frz (encEl (elZ z)))]) rfl rfl rfl ?_
  refine rts_p (ρ1 := [some (.frz (encG (grZ z))), some (.frz (.int b)), some (.frz (encEl (elZ z)))]) (by simp [e1]) ?_
  refine rts_p (ρ1 := [some (.frz (encG (grZ z))), some (.frz (.int b)), some (.frz (encEl (elZ z)))]) (by simp [h1, h2]) ?_
  refine rts_p (ρ1 := [some (.frz (encG (grZ z))), some (.frz (.int b)), some (.frz (encEl (elZ z)))]) (by simp [e2]) ?_
  exact rts_ret (by simp [e3])
/-! ### all elements -/
theorem lc2_go {α β : Type} {call : Nat → List D → G → R D} {ρ : Env1} {g : G} {own own1 : List Nat} {t t1 : MT} {it it1 : MI} {test test1 elt : ME} {xs : List α} (enc1 : α → D) (enc2 : β → D) (ys : α → List β) (F : α → β → D) (hi : evI call it ρ g = .ok (xs.map enc1) g)
    (h : ∀ x ∈ xs, ∃ ρ1, setT t (enc1 x) (wipe1 own ρ) = some ρ1 ∧ evE call test ρ1 g = .ok (.bool true) g ∧ evI call it1 ρ1 g = .ok ((ys x).map enc2) g ∧ ∀ y ∈ ys x, lcE call ρ1 own1 t1 test1 elt (enc2 y) g = .ok (some (F x y)) g)
    (hl : (xs.flatMap fun x => (ys x).map (F x)).length < 1000000) : evE call (.lc2 own own1 t it test t1 it1 test1 elt) ρ g = .ok (.list (xs.flatMap fun x => (ys x).map (F x))) g := by
  rw [evE, hi, q_bind]
  have inner : ∀ (ρ1 : Env1) (x : α) (zs : List β), (∀ y ∈ zs, lcE call ρ1 own1 t1 test1 elt (enc2 y) g = .ok (some (F x y)) g) → loopC (lcE call ρ1 own1 t1 test1 elt) (zs.map enc2) g = .ok (zs.map (F x)) g := by
    intro ρ1 x zs
    induction zs with
    | nil => intro _; rfl
    | cons y zs ih =>
      intro hy
      rw [List.map_cons, List.map_cons]
      unfold loopC
      rw [hy y (List.mem_cons_self ..), q_bind, ih fun x hx => hy x (List.mem_cons_of_mem _ hx), q_bind]
  have e : ∀ zs : List α, (∀ x ∈ zs, x ∈ xs) → loopC2 (fun x g => (R.of (setT t x (wipe1 own ρ)) g).bind fun ρ1 g1 => (evE call test ρ1 g1).bind fun b g2 => (asB b g2).bind fun k g3 =>
        if k = true then (evI call it1 ρ1 g3).bind fun ys g4 => loopC (fun y g => (R.of (setT t1 y (wipe1 own1 ρ1)) g).bind fun ρ2 g1 => (evE call test1 ρ2 g1).bind fun b g2 => (asB b g2).bind fun k g3 =>
          if k = true then (evE call elt ρ2 g3).bind fun d g4 => .ok (some d) g4 else .ok none g3) ys g4 else .ok [] g3) (zs.map enc1) g = .ok (zs.flatMap fun x => (ys x).map (F x)) g := by
    intro zs
    induction zs with
    | nil => intro _; rfl
    | cons x zs ih =>
      intro hy
      obtain ⟨ρ1, h1, h2, h3, h4⟩ := h x (hy x (List.mem_cons_self ..))
      rw [List.map_cons, List.flatMap_cons]
      unfold loopC2
      rw [h1, q_of, q_bind, h2, q_bind, q_asB, q_bind, if_pos rfl, h3, q_bind]
      have := inner ρ1 x (ys x) h4
      unfold lcE at this
      rw [this, q_bind, ih fun x hx => hy x (List.mem_cons_of_mem _ hx), q_bind]
  rw [e xs fun x hx => hx, q_nox, q_bind, if_pos hl]
theorem c_size_here {k : Nat} {gr : Gr} (hg : NG gr) (hs : szG gr ≤ 1000) (g : G) : callK tabK WW (k + 2) 9 [encG gr] g = .ok (iD (szG gr)) g := by
  refine call_rts rfl rfl rfl ?_
  refine rts_p (ρ1 := [some (.frz (encG gr)), some (.frz (iD (szG (gr.take 0)))), none, none]) (by simp [szG, modL, sizeL]) ?_
  refine rts_go (xs := gr.map smD) (fun i ρ => ∃ x y, ρ = [some (.frz (encG gr)), some (.frz (iD (szG (gr.take i)))), x, y]) (by simp [encG_eq, smD]) ⟨none, none, rfl⟩ (fun j hj ρ hI => ?_) (fun ρ' hI => ?_)
  · obtain ⟨y, u, rfl⟩ := hI
    have hj' : j < gr.length := by rw [List.length_map] at hj; exact hj
    rw [List.getElem_map]
    have hm : gr[j] ∈ gr := List.getElem_mem hj'
    have hpn := hg.ok _ hm
    have hsm := hpn.small
    have hc := hg.cop _ hm
    have e1 : callK tabK WW (k + 1) 3 [ringD (gr[j]).1 (gr[j]).2.1] g = _ := c_ring (k := k) hpn g
    have e2 : callK tabK WW (k + 1) 8 [.int (((gr[j]).1 ^ (gr[j]).2.1 : Nat) : Int), .int (((gr[j]).2.2 : Nat) : Int)] g = _ := c_raised (k := k) (by omega) hc.2 g
    have ht : szG (gr.take (j + 1)) = szG (gr.take j) * ((gr[j]).1 ^ (gr[j]).2.1) ^ (gr[j]).2.2 := by
      unfold szG
      rw [List.take_succ_eq_append_getElem hj', modL_append, sizeL_append, modL_one, sizeL_rep]
    have hb : szG (gr.take j) ≤ 1000 := by
      have e : szG gr = szG (gr.take j) * szG (gr.drop j) := by
        unfold szG
        rw [← sizeL_append, ← modL_append, List.take_append_drop]
      have p1 : 1 ≤ szG (gr.drop j) := by
        have := cnt_pos (g := gr.drop j) (s := []) (fun x hx => hg.ok x (List.mem_of_mem_drop hx)) (fun x hx => (List.not_mem_nil hx).elim)
        exact Nat.le_trans this cnt_le
      have : szG (gr.take j) * 1 ≤ szG (gr.take j) * szG (gr.drop j) := Nat.mul_le_mul_left _ p1
      omega
    have m1 : binD .mul (iD (szG (gr.take j))) (.int ((((gr[j]).1 ^ (gr[j]).2.1) ^ (gr[j]).2.2 : Nat) : Int)) = some (iD (szG (gr.take (j + 1)))) := by
      rw [b_mul _ _ (okMul_l (by omega) (by omega)), ht, ← Int.natCast_mul]
    refine ⟨_, ?_, some (.frz (ringD (gr[j]).1 (gr[j]).2.1)), some (.frz (.int (((gr[j]).2.2 : Nat) : Int))), rfl⟩
    simp only [forF, smD, sg, sda, q_of, q_bind, List.set_cons_zero, List.set_cons_succ, x_seq, x_ife, e_or, e_cmp, e_ix, e_var, e_cst, kr0, List.getElem?_cons_zero, List.getElem?_cons_succ, varD_frz, k_neS okR okR, decide_true, Bool.not_true, q_asB, Bool.false_eq_true, if_false, k_eqIS okM, x_skip, seqR_nx, x_asg, e_bin, e_call, e_cons, e_nil, e1, e2, m1, t_nm]
  · obtain ⟨y, u, rfl⟩ := hI
    rw [List.length_map, List.take_length]
    exact rts_ret (by simp)
end Mini

set_option maxRecDepth 100000
set_option maxHeartbeats 2000000
namespace Mini
open PySem L2 Evl
def encEls (E : List (List (List Nat))) : D := .list (E.map encEl)
theorem rep_size (c m : Nat) : (rowsL (List.replicate c m)).length = m ^ c := by rw [rows_length, sizeL_rep]
theorem fold_rows (c m i : Nat) (h : i < c) : rowStep (rowsL (List.replicate i m)) m = rowsL (List.replicate (i + 1) m) := by
  have e := rows_take (List.replicate c m) i (by rw [List.length_replicate]; exact h)
  rw [List.take_replicate, List.take_replicate, List.getElem_replicate, Nat.min_eq_left (by omega), Nat.min_eq_left (by omega)] at e
  exact e.symm
theorem add_E {a : List (List Nat)} {r : List Nat} (h : a.length ≤ 1000) : binD .add (encEl a) (.tuple [encR r]) = some (encEl (a ++ [r])) := by
  show (if (a.map encR).length + [encR r].length ≤ sizeLine then _ else none) = _
  have h1 : a.length + [encR r].length ≤ sizeLine := Nat.le_trans (show a.length + 1 ≤ 1001 by omega) (by simp [sizeLine])
  rw [List.length_map, if_pos h1, encEl, List.map_append]
  rfl
theorem encRs_step (R : List (List Nat)) (m : Nat) : encRs (rowStep R m) = .list (R.flatMap fun r => (List.range m).map fun v => encR (r ++ [v])) := by
  unfold encRs rowStep
  rw [List.map_flatMap]
  refine congrArg PyData.list (flatMap_congrL fun r _ => ?_)
  rw [List.map_map]
  rfl
theorem encEls_step (E : List (List (List Nat))) (p n c : Nat) : encEls (elemStep E (p, n, c)) = .list (E.flatMap fun e => (rowsL (List.replicate c (p ^ n))).map fun r => encEl (e ++ [trimR r])) := by
  unfold encEls elemStep
  rw [List.map_flatMap]
  refine congrArg PyData.list (flatMap_congrL fun r _ => ?_)
  rw [List.map_map]
  rfl
theorem c_longer {k p n c : Nat} (h : PN p n) (hc : 1 ≤ c ∧ c ≤ 1000) {E : List (List (List Nat))} (hE : ∀ e ∈ E, e.length ≤ 1000) (hs : E.length * (p ^ n) ^ c ≤ 1000) (h0 : 1 ≤ E.length) (g : G) : callK tabK WW (k + 3) 27 [encEls E, smD (p, n, c)] g = .ok (encEls (elemStep E (p, n, c))) g := by
  have hsm := h.small
  have hp1 : 1 ≤ p ^ n := Nat.pow_pos (by omega)
  have hpc : (p ^ n) ^ c ≤ 1000 := by
    have : 1 * (p ^ n) ^ c ≤ E.length * (p ^ n) ^ c := Nat.mul_le_mul_right _ h0
    omega
  have hpi : ∀ i, i ≤ c → (p ^ n) ^ i ≤ 1000 := fun i hi => Nat.le_trans (Nat.pow_le_pow_right hp1 hi) hpc
  have hsz : callK tabK WW (k + 2) 3 [ringD p n] g = _ := c_ring (k := k + 1) h g
  refine call_rts rfl rfl rfl ?_
  refine rts_p (ρ1 := [some (.frz (encEls E)), some (.frz (smD (p, n, c))), some (.frz (ringD p n)), some (.frz (.int (c : Int))), none, none, none, none, none]) (by simp [smD, sg]) ?_
  refine rts_p (ρ1 := [some (.frz (encEls E)), some (.frz (smD (p, n, c))), some (.frz (ringD p n)), some (.frz (.int (c : Int))), some (.frz (encRs (rowsL (List.replicate 0 (p ^ n))))), none, none, none, none]) (by simp [encRs, encR, rowsL]) ?_
  refine rts_go (xs := (List.range c).map iD) (fun i ρ => ∃ x, ρ = [some (.frz (encEls E)), some (.frz (smD (p, n, c))), some (.frz (ringD p n)), some (.frz (.int (c : Int))), some (.frz (encRs (rowsL (List.replicate i (p ^ n))))), x, none, none, none]) (by simp [rngR_n c g (by omega)]) ⟨none, rfl⟩ (fun j hj ρ hI => ?_) (fun ρ' hI => ?_)
  · obtain ⟨x, rfl⟩ := hI
    have hj' : j < c := by rw [List.length_map, List.length_range] at hj; exact hj
    generalize ((List.range c).map iD)[j] = dv
    have l1 : evE (callK tabK WW (k + 2)) (.lc2 [7, 8] [8] (.nm 7) (.seqL (.var 4)) (.cst (.bool true)) (.nm 8) (.rng1 (.call 3 (.cons (.var 2) .nil))) (.cst (.bool true)) (.bin .add (.var 7) (.tup (.cons (.var 8) .nil)))) [some (.frz (encEls E)), some (.frz (smD (p, n, c))), some (.frz (ringD p n)), some (.frz (.int (c : Int))), some (.frz (encRs (rowsL (List.replicate j (p ^ n))))), some (.frz dv), none, none, none] g = .ok (encRs (rowsL (List.replicate (j + 1) (p ^ n)))) g := by
      have r : encRs (rowsL (List.replicate (j + 1) (p ^ n))) = .list ((rowsL (List.replicate j (p ^ n))).flatMap fun r => (List.range (p ^ n)).map fun v => encR (r ++ [v])) := by
        rw [← fold_rows c (p ^ n) j hj', encRs_step]
      have hlen : ((rowsL (List.replicate j (p ^ n))).flatMap fun r => (List.range (p ^ n)).map fun v => encR (r ++ [v])).length ≤ 1000 := by
        have e1 : (rowsL (List.replicate (j + 1) (p ^ n))).length ≤ 1000 := by rw [rep_size]; exact hpi _ (by omega)
        rw [← fold_rows c (p ^ n) j hj'] at e1
        unfold rowStep at e1
        rw [List.length_flatMap] at e1 ⊢
        simp only [List.length_map] at e1 ⊢
        exact e1
      rw [r]
      refine lc2_go encR iD (fun _ => List.range (p ^ n)) (fun r v => encR (r ++ [v])) (by simp [encRs]) (fun r hr => ?_) (by omega)
      have hrl : r.length = j := by rw [rows_len hr, List.length_replicate]
      refine ⟨[some (.frz (encEls E)), some (.frz (smD (p, n, c))), some (.frz (ringD p n)), some (.frz (.int (c : Int))), some (.frz (encRs (rowsL (List.replicate j (p ^ n))))), some (.frz dv), none, some (.frz (encR r)), none], by simp, by simp, ?_, fun v hv => ?_⟩
      · simp only [e_rng1, e_call, e_cons, e_var, e_nil, List.getElem?_cons_zero, List.getElem?_cons_succ, varD_frz, q_bind, hsz, q_asI]
        exact rngR_n (p ^ n) g (by omega)
      · have a1 : binD .add (encR r) (.tuple [iD v]) = some (encR (r ++ [v])) := add_R (b := [v]) (by simp; omega)
        simp [lcE, a1]
    refine ⟨_, ?_, some (.frz dv), rfl⟩
    simp only [forF, t_nm, q_of, q_bind, x_asg, List.set_cons_zero, List.set_cons_succ, l1]
  · obtain ⟨x, rfl⟩ := hI
    rw [List.length_map, List.length_range]
    have r : encEls (elemStep E (p, n, c)) = .list (E.flatMap fun e => (rowsL (List.replicate c (p ^ n))).map fun r => encEl (e ++ [trimR r])) := by
      exact encEls_step E p n c
    rw [r]
    have hlen : (E.flatMap fun e => (rowsL (List.replicate c (p ^ n))).map fun r => encEl (e ++ [trimR r])).length ≤ 1000 := by
      rw [List.length_flatMap]
      simp only [List.length_map, rep_size]
      have : ∀ F : List (List (List Nat)), (F.map fun _ => (p ^ n) ^ c).sum = F.length * (p ^ n) ^ c := by
        intro F
        induction F with
        | nil => simp
        | cons x F ih => rw [List.map_cons, List.sum_cons, ih, List.length_cons, Nat.succ_mul, Nat.add_comm]
      rw [this]
      exact hs
    refine rts_ret (lc2_go encEl encR (fun _ => rowsL (List.replicate c (p ^ n))) (fun e r => encEl (e ++ [trimR r])) (by simp [encEls]) (fun e he => ?_) (by omega))
    refine ⟨[some (.frz (encEls E)), some (.frz (smD (p, n, c))), some (.frz (ringD p n)), some (.frz (.int (c : Int))), some (.frz (encRs (rowsL (List.replicate c (p ^ n))))), x, some (.frz (encEl e)), none, none], by simp, by simp, by simp [encRs], fun r hr => ?_⟩
    have hrl : r.length = c := by rw [rows_len hr, List.length_replicate]
    have t1 := c_trimmed (k := k) (p, n, c) r (.inl rfl) (by omega) g
    have a1 := add_E (a := e) (r := trimR r) (hE e he)
    simp [lcE, t1, a1]
theorem elems_take (gr : Gr) (i : Nat) : ((gr.take i).foldl elemStep [[]]) = (rowsL (modL (gr.take i))).map (splitR (gr.take i)) := by
  rw [elems_fold]
  simp
theorem splitR_len : ∀ (gr : Gr) (r : List Nat), (splitR gr r).length = gr.length
  | [], _ => rfl
  | (p, n, c) :: gr, r => by
    rw [splitR, List.length_cons, List.length_cons, splitR_len gr]
theorem szG_take {gr : Gr} (hg : NG gr) (i : Nat) : szG (gr.take i) ≤ szG gr := by
  have e : szG gr = szG (gr.take i) * szG (gr.drop i) := by
    unfold szG
    rw [← sizeL_append, ← modL_append, List.take_append_drop]
  have p1 : 1 ≤ szG (gr.drop i) := by
    have := cnt_pos (g := gr.drop i) (s := []) (fun x hx => hg.ok x (List.mem_of_mem_drop hx)) (fun x hx => (List.not_mem_nil hx).elim)
    exact Nat.le_trans this cnt_le
  rw [e]
  exact Nat.le_mul_of_pos_right _ p1
theorem szG_pos {gr : Gr} (hg : okG gr) : 1 ≤ szG gr := by
  have := cnt_pos (g := gr) (s := []) hg (fun x hx => (List.not_mem_nil hx).elim)
  exact Nat.le_trans this cnt_le
theorem c_all_elements {k : Nat} {gr : Gr} (hg : NG gr) (hs : szG gr ≤ 1000) (g : G) : callK tabK WW (k + 6) 28 [encG gr] g = .ok (.tuple (((rowsL (modL gr)).map (splitR gr)).map encEl)) g := by
  have e1 : callK tabK WW (k + 5) 7 [encG gr] g = _ := c_need_group (k := k) hg.okGG g
  have e2 : callK tabK WW (k + 5) 9 [encG gr] g = _ := c_size_here (k := k + 3) hg hs g
  have hn : ¬ ((100000 : Int) < (szG gr : Int)) := by omega
  refine call_rts rfl rfl rfl ?_
  refine rts_p (ρ1 := [some (.frz (encG gr)), none, none, none]) (by simp [e1]) ?_
  refine rts_p (ρ1 := [some (.frz (encG gr)), some (.frz (iD (szG gr))), none, none]) (by simp [e2]) ?_
  refine rts_p (ρ1 := [some (.frz (encG gr)), some (.frz (iD (szG gr))), none, none]) (by
    simp only [x_ife, e_or, e_cmp, e_var, List.getElem?_cons_zero, List.getElem?_cons_succ, varD_frz, q_bind, e_cst, k_eqIS okM, q_of, q_asB, Bool.false_eq_true, if_false, k_gt, decide_eq_false hn, x_skip]) ?_
  refine rts_p (ρ1 := [some (.frz (encG gr)), some (.frz (iD (szG gr))), some (.frz (encEls ((gr.take 0).foldl elemStep [[]]))), none]) (by simp [encEls, encEl]) ?_
  refine rts_go (xs := gr.map smD) (fun i ρ => ∃ x, ρ = [some (.frz (encG gr)), some (.frz (iD (szG gr))), some (.frz (encEls ((gr.take i).foldl elemStep [[]]))), x]) (by simp [encG_eq, smD]) ⟨none, rfl⟩ (fun j hj ρ hI => ?_) (fun ρ' hI => ?_)
  · obtain ⟨x, rfl⟩ := hI
    have hj' : j < gr.length := by rw [List.length_map] at hj; exact hj
    rw [List.getElem_map]
    have hm : gr[j] ∈ gr := List.getElem_mem hj'
    have hpn := hg.ok _ hm
    have hc := hg.cop _ hm
    have hst : szG (gr.take (j + 1)) = szG (gr.take j) * ((gr[j]).1 ^ (gr[j]).2.1) ^ (gr[j]).2.2 := by
      unfold szG
      rw [List.take_succ_eq_append_getElem hj', modL_append, sizeL_append, modL_one, sizeL_rep]
    have hle := szG_take hg (j + 1)
    have hel : ((gr.take j).foldl elemStep [[]]).length = szG (gr.take j) := by rw [elems_take, List.length_map, rows_length]; rfl
    have e3 := c_longer (k := k + 2) (p := (gr[j]).1) (n := (gr[j]).2.1) (c := (gr[j]).2.2) hpn hc (E := (gr.take j).foldl elemStep [[]]) (fun e he => by
      rw [elems_take] at he
      obtain ⟨r, hr, rfl⟩ := List.mem_map.mp he
      rw [splitR_len, List.length_take]
      have := hg.len
      omega) (by rw [hel, ← hst]; omega) (by rw [hel]; exact szG_pos fun x hx => hg.ok x (List.mem_of_mem_take hx)) g
    have e4 : ((gr.take (j + 1)).foldl elemStep [[]]) = elemStep ((gr.take j).foldl elemStep [[]]) gr[j] := by
      rw [List.take_succ_eq_append_getElem hj', List.foldl_append]
      rfl
    have e3' : callK tabK WW (k + 5) 27 [encEls ((gr.take j).foldl elemStep [[]]), smD gr[j]] g = .ok (encEls ((gr.take (j + 1)).foldl elemStep [[]])) g := by rw [e4]; exact e3
    refine ⟨_, ?_, some (.frz (smD gr[j])), rfl⟩
    simp only [forF, t_nm, q_of, q_bind, x_asg, e_call, e_cons, e_var, e_nil, List.set_cons_zero, List.set_cons_succ, List.getElem?_cons_zero, List.getElem?_cons_succ, varD_frz, e3']
  · obtain ⟨x, rfl⟩ := hI
    rw [List.length_map, elems_take, List.take_length]
    exact rts_ret (by simp [encEls])
end Mini

set_option maxRecDepth 100000
set_option maxHeartbeats 2000000
namespace Mini
open PySem L2 Evl
/-! ### with a run that changes -/
def Rx (call : Nat → List D → G → R D) (W : Nat) (s : MS) (ρ : Env1) (g : G) (Q : D → G → Prop) : Prop := ∃ d g', Rts call W s ρ g d g' ∧ Q d g'
theorem call_rx {np nN : Nat} {s : MS} {ρ0 : Env1} {k f : Nat} {ds : List D} {g : G} {Q : D → G → Prop} (hF : tabK[f]? = some ⟨np, nN, s⟩) (hn : ds.length = np) (h0 : ds.map (fun d => some (Ent.frz d)) ++ List.replicate (nN - np) none = ρ0) (h : Rx (callK tabK WW k) WW s ρ0 g Q) : ∃ d g', callK tabK WW (k + 1) f ds g = .ok d g' ∧ Q d g' := by
  obtain ⟨d, g', r, q⟩ := h
  exact ⟨d, g', call_rts hF hn h0 r, q⟩
section
variable {call : Nat → List D → G → R D} {W : Nat} {a b rest : MS} {ρ ρ1 : Env1} {g g1 : G} {Q : D → G → Prop} {t : MT} {it : MI}
theorem rx_p (h : exS call W a ρ g = .ok (.nx, ρ1) g1) (k : Rx call W b ρ1 g1 Q) : Rx call W (.seq a b) ρ g Q := by
  obtain ⟨d, g', r, q⟩ := k
  exact ⟨d, g', rts_step h r, q⟩
theorem rx_rt {d : D} (h : exS call W a ρ g = .ok (.rt d, ρ1) g1) (q : Q d g1) : Rx call W (.seq a b) ρ g Q := ⟨d, g1, rts_rt h, q⟩
theorem rx_ret {e : ME} {d : D} (h : evE call e ρ g = .ok d g1) (q : Q d g1) : Rx call W (.ret e) ρ g Q := ⟨d, g1, rts_ret h, q⟩
theorem for_goG {xs : List D} (I : Nat → Env1 → G → Prop) (hi : evI call it ρ g = .ok xs g1) (h0 : I 0 ρ g1)
    (h : ∀ (j : Nat) (hj : j < xs.length) ρ g, I j ρ g → ∃ ρ' g', forF call W t b xs[j] ρ g = .ok (.nx, ρ') g' ∧ I (j + 1) ρ' g') : ∃ ρ' g', exS call W (.forr t it b) ρ g = .ok (.nx, ρ') g' ∧ I xs.length ρ' g' := by
  rw [x_forr, hi, q_bind]
  have e : ∀ (ys : List D) (i : Nat) (ρ : Env1) (g : G), I i ρ g → xs.drop i = ys → i ≤ xs.length → ∃ ρ' g', forR (forF call W t b) ys ρ g = .ok (.nx, ρ') g' ∧ I xs.length ρ' g' := by
    intro ys
    induction ys with
    | nil =>
      intro i ρ g hI hd hl
      have : xs.length - i = 0 := by rw [← List.length_drop, hd]; rfl
      have : i = xs.length := by omega
      exact ⟨ρ, g, rfl, this ▸ hI⟩
    | cons y ys ih =>
      intro i ρ g hI hd hl
      have hlt : i < xs.length := by
        have : xs.length - i = ys.length + 1 := by rw [← List.length_drop, hd]; rfl
        omega
      have hc := List.drop_eq_getElem_cons hlt
      rw [hd] at hc
      have hy : xs[i] = y := (List.cons.inj hc).1.symm
      have hys : xs.drop (i + 1) = ys := (List.cons.inj hc).2.symm
      obtain ⟨ρ1, g2, e1, i1⟩ := h i hlt ρ g hI
      obtain ⟨ρ2, g3, e2, i2⟩ := ih (i + 1) ρ1 g2 i1 hys hlt
      refine ⟨ρ2, g3, ?_, i2⟩
      unfold forR
      rw [← hy, e1]
      exact e2
  exact e xs 0 ρ g1 h0 (List.drop_zero) (Nat.zero_le _)
theorem rx_goG {xs : List D} (I : Nat → Env1 → G → Prop) (hi : evI call it ρ g = .ok xs g1) (h0 : I 0 ρ g1)
    (h : ∀ (j : Nat) (hj : j < xs.length) ρ g, I j ρ g → ∃ ρ' g', forF call W t b xs[j] ρ g = .ok (.nx, ρ') g' ∧ I (j + 1) ρ' g') (k : ∀ ρ' g', I xs.length ρ' g' → Rx call W rest ρ' g' Q) : Rx call W (.seq (.forr t it b) rest) ρ g Q := by
  obtain ⟨ρ', g', e, i⟩ := for_goG I hi h0 h
  exact rx_p e (k ρ' g' i)
theorem whl_goG {α : Type} {c : ME} (env : α → Env1) (gs : α → G) (cond : α → Bool) (step : α → α) (P : α → Prop) (μ : α → Nat)
    (hc : ∀ a, P a → evE call c (env a) (gs a) = .ok (.bool (cond a)) (gs a)) (hb : ∀ a, P a → cond a = true → exS call W b (env a) (gs a) = .ok (.nx, env (step a)) (gs (step a))) (hP : ∀ a, P a → cond a = true → P (step a) ∧ μ (step a) < μ a)
    (a : α) (ha : P a) (hW : μ a < W) : ∃ a', P a' ∧ cond a' = false ∧ exS call W (.whl c b) (env a) (gs a) = .ok (.nx, env a') (gs a') := by
  have e : ∀ (n : Nat) (a : α), P a → μ a < n → ∃ a', P a' ∧ cond a' = false ∧ whileR (fun ρ g => (evE call c ρ g).bind fun x g1 => asB x g1) (fun ρ g => exS call W b ρ g) n (env a) (gs a) = .ok (.nx, env a') (gs a') := by
    intro n
    induction n with
    | zero => intro a _ h; omega
    | succ n ih =>
      intro a ha h
      unfold whileR
      rw [hc a ha]
      cases hk : cond a with
      | false => exact ⟨a, ha, hk, rfl⟩
      | true =>
        obtain ⟨p1, m1⟩ := hP a ha hk
        obtain ⟨a', p2, c2, e2⟩ := ih (step a) p1 (by omega)
        refine ⟨a', p2, c2, ?_⟩
        simp only [q_bind, q_asB, if_true, hb a ha hk]
        exact e2
  obtain ⟨a', p, c', e'⟩ := e W a ha hW
  refine ⟨a', p, c', ?_⟩
  rw [exS]
  exact e'
end
/-! ### the draws -/
def encI (l : List Int) : D := .list (l.map .int)
def runG (cells left : List Int) (at_ : Int) : G := [(Str.ofString "cells", encI cells), (Str.ofString "left", encI left), (Str.ofString "at", .int at_)]
@[simp] theorem s_cl : (Str.ofString "cells" = Str.ofString "left") = False := by simp only [eq_iff_iff, iff_false]; decide +kernel
@[simp] theorem s_ca : (Str.ofString "cells" = Str.ofString "at") = False := by simp only [eq_iff_iff, iff_false]; decide +kernel
@[simp] theorem s_la : (Str.ofString "left" = Str.ofString "at") = False := by simp only [eq_iff_iff, iff_false]; decide +kernel
@[simp] theorem s_al : (Str.ofString "at" = Str.ofString "left") = False := by simp only [eq_iff_iff, iff_false]; decide +kernel
section
variable (c l : List Int) (a : Int)
theorem look_c : lookD (runG c l a) (Str.ofString "cells") = some (encI c) := by simp [lookD, runG]
theorem look_l : lookD (runG c l a) (Str.ofString "left") = some (encI l) := by simp [lookD, runG]
theorem look_a : lookD (runG c l a) (Str.ofString "at") = some (.int a) := by simp [lookD, runG]
theorem runG_len : (runG c l a).length < 1000 := by simp [runG]
theorem put_l (l' : List Int) : putD (runG c l a) (Str.ofString "left") (encI l') = runG c l' a := by simp [putD, runG]
theorem put_a (a' : Int) : putD (runG c l a) (Str.ofString "at") (.int a') = runG c l a' := by simp [putD, runG]
end
section
variable {call : Nat → List D → G → R D} {W : Nat} {ρ : Env1} {g g1 : G} {e : ME} {k : Str} {d : D}
theorem e_mget (h : ρ[0]? = some (some (.frz (.dict [])))) (hl : lookD g k = some d) : evE call (.mget (.var 0) k) ρ g = .ok d g := by
  rw [evE, e_var, h, varD_frz, q_bind]
  show R.of (lookD g k) g = _
  rw [hl, q_of]
theorem x_mset {d' : D} (h : ρ[0]? = some (some (.frz (.dict [])))) (he : evE call e ρ g = .ok d g1) (hl : lookD g1 k = some d') (hg : g1.length < 1000) : exS call W (.mset (.var 0) k e) ρ g = .ok (.nx, ρ) (putD g1 k d) := by
  rw [exS, he, q_bind, e_var, h, varD_frz, q_bind]
  show (if (lookD g1 k).isSome = true ∧ g1.length < 1000 then _ else _) = _
  rw [hl, if_pos ⟨rfl, hg⟩]
end
theorem canLay_I : ∀ xs : List Int, PyData.canLayAll0 (xs.map .int) = true
  | [] => rfl
  | x :: xs => by rw [List.map_cons, PyData.canLayAll0, canLay_I xs]; rfl
theorem depth_I : ∀ xs : List Int, PyData.depthAll (xs.map .int) ≤ 1
  | [] => by simp [PyData.depthAll]
  | x :: xs => by
    have := depth_I xs
    simp [PyData.depthAll, PyData.depth]
    try omega
theorem shaped_I (xs : List Int) : SeqAt.shaped (encI xs) = true := by
  unfold SeqAt.shaped encI
  have h := depth_I xs
  simp [PyData.canLay0, canLay_I, PyData.depth]
  omega
theorem ne_nilI (xs : List Int) : cmpD .ne (encI xs) (.list []) = some (!decide (xs = [])) := by
  have h : SeqAt.shaped (encI xs) = true ∧ SeqAt.shaped (.list []) = true := ⟨shaped_I xs, shaped_L []⟩
  have e : PyData.eqv (encI xs) (.list []) = decide (xs = []) := by
    cases xs with
    | nil => rfl
    | cons x xs => simp [encI, PyData.eqv, PyData.eqvAll]
  show (if SeqAt.shaped (encI xs) = true ∧ SeqAt.shaped (.list []) = true then some (!PyData.eqv (encI xs) (.list [])) else none) = _
  rw [if_pos h, e]
theorem slI (x : Int) (xs : List Int) : slD (encI (x :: xs)) (some 1) none = some (encI xs) := by
  show some (PyData.list (cutD ((x :: xs).map .int) (some 1) none)) = _
  have : cutD ((x :: xs).map PyData.int) (some 1) none = xs.map .int := by
    unfold cutD
    have h1 : HT.sIx ((x :: xs).map PyData.int).length 0 (some 1) = 1 := by simp [HT.sIx]; try omega
    have h2 : HT.sIx ((x :: xs).map PyData.int).length ((x :: xs).map PyData.int).length none = ((x :: xs).map PyData.int).length := rfl
    rw [h1, h2]
    simp
    exact List.take_of_length_le (by rw [List.length_map]; exact Nat.le_refl _)
  rw [this]
  rfl
theorem ixI0 (x : Int) (xs : List Int) : ixD (encI (x :: xs)) (.int 0) = some (.int x) := ix_ln ((x :: xs).map .int) 0 (by simp)
def Gok (n : Nat) (g : G) : Prop := ∃ cells left at_, g = runG cells left at_ ∧ cells.length ≤ 63 ∧ left.length ≤ 63 ∧ 0 ≤ at_ ∧ at_ ≤ (n : Int)
theorem Gok.mono {n m : Nat} {g : G} (h : Gok n g) (le : n ≤ m) : Gok m g := by
  obtain ⟨c, l, a, r, h1, h2, h3, h4⟩ := h
  exact ⟨c, l, a, r, h1, h2, h3, by omega⟩
theorem runOf_ok (ns : List Int) : Gok 0 (runOf ns) := by
  refine ⟨cellsOf ns, leftOf ns, 0, rfl, ?_, ?_, Int.le_refl _, Int.le_refl _⟩
  · unfold cellsOf
    rw [List.length_take]
    omega
  · unfold leftOf
    refine Nat.le_trans (List.length_filter_le ..) ?_
    unfold cellsOf
    rw [List.length_take]
    omega
def lead0I : List Int → Bool
  | 0 :: _ => true
  | _ => false
theorem next_go {k n : Nat} {g : G} (h : Gok n g) (hn : n ≤ 100000) {many : Int} (h1 : 0 < many) (h2 : many ≤ 1000) : ∃ d g', callK tabK WW (k + 1) 39 [.dict [], .int many] g = .ok d g' ∧ (∃ r, d = .int r ∧ 0 ≤ r ∧ r < many) ∧ Gok (n + 1) g' := by
  obtain ⟨c, l, a, rfl, hc, hl, ha, ha'⟩ := h
  refine call_rx rfl rfl rfl ?_
  obtain ⟨l', hl', hcond, e⟩ := whl_goG (call := callK tabK WW k) (W := WW) (c := .and (.cmp .ne (.mget (.var 0) (Str.ofString "left")) (.lst .nil)) (.cmp .eq (.ix (.mget (.var 0) (Str.ofString "left")) (.cst (PyData.int 0))) (.cst (PyData.int 0)))) (b := .mset (.var 0) (Str.ofString "left") (.sl (.mget (.var 0) (Str.ofString "left")) (.so (.cst (PyData.int 1))) .no))
    (fun _ => [some (.frz (.dict [])), some (.frz (.int many)), none, none, none, none, none]) (fun l => runG c l a) lead0I List.tail (fun l => l.length ≤ 63) (fun l => l.length) (fun s hs => by
      have m1 := e_mget (call := callK tabK WW k) (ρ := [some (.frz (.dict [])), some (.frz (.int many)), none, none, none, none, none]) (g := runG c s a) rfl (look_l c s a)
      cases s with
      | nil => simp only [e_and, e_cmp, m1, q_bind, e_lst, e_nil, List.length_nil, sl0, if_true, ne_nilI, q_of, q_asB, decide_true, Bool.not_true, Bool.false_eq_true, if_false, lead0I]
      | cons x s =>
        have z : decide (x = 0) = lead0I (x :: s) := by
          by_cases hx : x = 0
          · subst hx; rfl
          · rw [decide_eq_false hx]
            unfold lead0I
            split
            · rename_i e; exact absurd (List.cons.inj e).1 hx
            · rfl
        simp only [e_and, e_cmp, m1, q_bind, e_lst, e_nil, List.length_nil, sl0, if_true, ne_nilI, q_of, q_asB, decide_eq_false (List.cons_ne_nil x s), Bool.not_false, e_ix, e_cst, ixI0, k_eq, z]) (fun s hs hcs => by
      cases s with
      | nil => cases hcs
      | cons x s =>
        have m1 := e_mget (call := callK tabK WW k) (ρ := [some (.frz (.dict [])), some (.frz (.int many)), none, none, none, none, none]) (g := runG c (x :: s) a) rfl (look_l c (x :: s) a)
        have := x_mset (call := callK tabK WW k) (W := WW) (ρ := [some (.frz (.dict [])), some (.frz (.int many)), none, none, none, none, none]) (g := runG c (x :: s) a) (g1 := runG c (x :: s) a) (e := .sl (.mget (.var 0) (Str.ofString "left")) (.so (.cst (PyData.int 1))) .no) (d := encI s) rfl (by simp only [e_sl, m1, q_bind, e_so, e_cst, q_asI, e_no, slI, q_of]) (look_l c (x :: s) a) (runG_len _ _ _)
        rw [this, put_l]
        rfl) (fun s hs hcs => by
      cases s with
      | nil => cases hcs
      | cons x s => exact ⟨by rw [List.length_cons] at hs; show s.length ≤ 63; omega, Nat.lt_succ_self _⟩) l hl (by show l.length < 2000; omega)
  refine rx_p e ?_
  have m1 := e_mget (call := callK tabK WW k) (ρ := [some (.frz (.dict [])), some (.frz (.int many)), none, none, none, none, none]) (g := runG c l' a) rfl (look_l c l' a)
  cases l' with
  | cons x s =>
    have d1 := b_fdiv x many h1 (log2_small (by omega))
    have d2 := b_mod x many h1
    have m2 := e_mget (call := callK tabK WW k) (ρ := [some (.frz (.dict [])), some (.frz (.int many)), none, none, none, none, some (.frz (.int x))]) (g := runG c (x :: s) a) rfl (look_l c (x :: s) a)
    have a1 : binD .add (.list [.int (x / many)]) (encI s) = some (encI (x / many :: s)) := by
      show (if [PyData.int (x / many)].length + (s.map PyData.int).length ≤ sizeLine then _ else none) = _
      have hs : [PyData.int (x / many)].length + (s.map PyData.int).length ≤ sizeLine := by
        rw [List.length_map]
        have : s.length ≤ 63 := by rw [List.length_cons] at hl'; omega
        exact Nat.le_trans (show 1 + s.length ≤ 64 by omega) (by simp [sizeLine])
      rw [if_pos hs]
      rfl
    have st := x_mset (call := callK tabK WW k) (W := WW) (ρ := [some (.frz (.dict [])), some (.frz (.int many)), none, none, none, none, some (.frz (.int x))]) (g := runG c (x :: s) a) (g1 := runG c (x :: s) a) (e := .bin .add (.lst (.cons (.bin .fdiv (.var 6) (.var 1)) .nil)) (.sl (.mget (.var 0) (Str.ofString "left")) (.so (.cst (PyData.int 1))) .no)) (d := encI (x / many :: s)) rfl (by
      simp only [e_bin, e_lst, e_cons, e_var, e_nil, List.getElem?_cons_zero, List.getElem?_cons_succ, varD_frz, q_bind, d1, q_of, List.length_cons, List.length_nil, Nat.zero_add, sl1, if_true, e_sl, m2, e_so, e_cst, q_asI, e_no, slI, a1]) (look_l c (x :: s) a) (runG_len _ _ _)
    rw [put_l] at st
    refine rx_rt (ρ1 := [some (.frz (.dict [])), some (.frz (.int many)), none, none, none, none, some (.frz (.int x))]) (g1 := runG c (x / many :: s) a) (d := .int (x % many)) ?_ ⟨⟨_, rfl, Int.emod_nonneg _ (by omega), Int.emod_lt_of_pos _ h1⟩, c, _, a, rfl, hc, hl', ha, by omega⟩
    simp only [x_ife, e_cmp, m1, q_bind, e_lst, e_nil, List.length_nil, sl0, if_true, ne_nilI, q_of, q_asB, decide_eq_false (List.cons_ne_nil x s), Bool.not_false, x_seq, x_asg, e_ix, e_cst, ixI0, t_nm, List.set_cons_zero, List.set_cons_succ, seqR_nx, st, x_ret, e_bin, e_blt, e_cons, e_var, List.getElem?_cons_zero, List.getElem?_cons_succ, varD_frz, x_int, d2]
  | nil =>
    refine rx_p (ρ1 := [some (.frz (.dict [])), some (.frz (.int many)), none, none, none, none, none]) (g1 := runG c [] a) (by
      simp only [x_ife, e_cmp, m1, q_bind, e_lst, e_nil, List.length_nil, sl0, if_true, ne_nilI, q_of, q_asB, decide_true, Bool.not_true, Bool.false_eq_true, if_false, x_skip]) ?_
    have mc := e_mget (call := callK tabK WW k) (ρ := [some (.frz (.dict [])), some (.frz (.int many)), none, none, none, none, none]) (g := runG c [] a) rfl (look_c c [] a)
    have ma := e_mget (call := callK tabK WW k) (ρ := [some (.frz (.dict [])), some (.frz (.int many)), none, none, none, none, none]) (g := runG c [] a) rfl (look_a c [] a)
    refine rx_p (ρ1 := [some (.frz (.dict [])), some (.frz (.int many)), some (.frz (.int a)), some (.frz (encI c)), none, none, none]) (g1 := runG c [] a) (by
      simp only [x_asg, e_tup, e_cons, ma, mc, e_nil, q_bind, List.length_cons, List.length_nil, Nat.zero_add, Nat.reduceAdd, sl2, if_true, t_tp, t_cons, t_nil, List.set_cons_zero, List.set_cons_succ, q_of]) ?_
    have st := x_mset (call := callK tabK WW k) (W := WW) (ρ := [some (.frz (.dict [])), some (.frz (.int many)), some (.frz (.int a)), some (.frz (encI c)), none, none, none]) (g := runG c [] a) (g1 := runG c [] a) (e := .bin .add (.var 2) (.cst (PyData.int 1))) (d := .int (a + 1)) rfl (by simp) (look_a c [] a) (runG_len _ _ _)
    rw [put_a] at st
    refine rx_p st ?_
    obtain ⟨cell, hcell⟩ : ∃ v : Int, evE (callK tabK WW k) (.ifx (.cmp .ne (.var 3) (.lst .nil)) (.ix (.var 3) (.bin .mod (.var 2) (.blt .len (.cons (.var 3) .nil)))) (.cst (PyData.int 0))) [some (.frz (.dict [])), some (.frz (.int many)), some (.frz (.int a)), some (.frz (encI c)), none, none, none] (runG c [] (a + 1)) = .ok (.int v) (runG c [] (a + 1)) := by
      have lc : bltD .len [encI c] = some (.int c.length) := by unfold encI; rw [x_len_l, List.length_map]
      cases c with
      | nil => exact ⟨0, by simp only [e_ifx, e_cmp, e_var, List.getElem?_cons_zero, List.getElem?_cons_succ, varD_frz, q_bind, e_lst, e_nil, List.length_nil, sl0, if_true, ne_nilI, q_of, q_asB, decide_true, Bool.not_true, Bool.false_eq_true, if_false, e_cst]⟩
      | cons x xs =>
        have hpos : (0 : Int) < ((x :: xs).length : Int) := by rw [List.length_cons]; omega
        have d2 := b_mod a ((x :: xs).length : Int) hpos
        have r1 := Int.emod_nonneg a (b := ((x :: xs).length : Int)) (by omega)
        have r2 := Int.emod_lt_of_pos a hpos
        have rr : a % ((x :: xs).length : Int) = (((a % ((x :: xs).length : Int)).toNat : Nat) : Int) := (Int.toNat_of_nonneg r1).symm
        have hlt : (a % ((x :: xs).length : Int)).toNat < ((x :: xs).map PyData.int).length := by rw [List.length_map]; omega
        have i1 := ix_ln ((x :: xs).map PyData.int) _ hlt
        rw [← rr, List.getElem_map] at i1
        have i1' : ixD (encI (x :: xs)) (.int (a % ((x :: xs).length : Int))) = _ := i1
        have hlt' : (a % ((x :: xs).length : Int)).toNat < (x :: xs).length := by rw [List.length_map] at hlt; exact hlt
        exact ⟨(x :: xs)[(a % ((x :: xs).length : Int)).toNat], by simp only [e_ifx, e_cmp, e_var, List.getElem?_cons_zero, List.getElem?_cons_succ, varD_frz, q_bind, e_lst, e_nil, List.length_nil, sl0, if_true, ne_nilI, q_of, q_asB, decide_eq_false (List.cons_ne_nil x xs), Bool.not_false, e_ix, e_bin, e_blt, e_cons, lc, d2, i1']⟩
    refine rx_p (ρ1 := [some (.frz (.dict [])), some (.frz (.int many)), some (.frz (.int a)), some (.frz (encI c)), some (.frz (.int cell)), none, none]) (g1 := runG c [] (a + 1)) (by
      simp only [x_asg, hcell, q_bind, t_nm, List.set_cons_zero, List.set_cons_succ, q_of]) ?_
    have b1 := b_mod cell 2147483629 (by omega)
    have n1 := Int.emod_nonneg cell (b := 2147483629) (by omega)
    have n2 := Int.emod_lt_of_pos cell (b := 2147483629) (by omega)
    have b2 := b_mul 2 a (okMul_l (by omega) (by omega))
    have b3 := b_mul (cell % 2147483629) (2 * a + 7) (okMul_l (by omega) (by omega))
    refine rx_p (ρ1 := [some (.frz (.dict [])), some (.frz (.int many)), some (.frz (.int a)), some (.frz (encI c)), some (.frz (.int cell)), some (.frz (.int (cell % 2147483629 * (2 * a + 7)))), none]) (g1 := runG c [] (a + 1)) (by
      simp only [x_asg, e_bin, e_blt, e_cons, e_var, e_nil, List.getElem?_cons_zero, List.getElem?_cons_succ, varD_frz, q_bind, x_int, q_of, e_cst, b1, b2, b_add, b3, t_nm, List.set_cons_zero, List.set_cons_succ]) ?_
    have b4 := b_mul 7541 a (okMul_l (by omega) (by omega))
    have b5 := b_mul (7541 * a) a (okMul_r (by omega) (by omega))
    have b6 := b_mul 87911 a (okMul_l (by omega) (by omega))
    generalize cell % 2147483629 * (2 * a + 7) = bl at *
    have b7 := b_mod (bl + 7541 * a * a + 87911 * a + 23) 2147483647 (by omega)
    refine rx_p (ρ1 := [some (.frz (.dict [])), some (.frz (.int many)), some (.frz (.int a)), some (.frz (encI c)), some (.frz (.int cell)), some (.frz (.int ((bl + 7541 * a * a + 87911 * a + 23) % 2147483647))), none]) (g1 := runG c [] (a + 1)) (by
      simp only [x_asg, e_bin, e_blt, e_cons, e_var, e_nil, List.getElem?_cons_zero, List.getElem?_cons_succ, varD_frz, q_bind, x_int, q_of, e_cst, b_add, b4, b5, b6, b7, t_nm, List.set_cons_zero, List.set_cons_succ]) ?_
    have n3 := Int.emod_nonneg (bl + 7541 * a * a + 87911 * a + 23) (b := 2147483647) (by omega)
    have n4 := Int.emod_lt_of_pos (bl + 7541 * a * a + 87911 * a + 23) (b := 2147483647) (by omega)
    generalize (bl + 7541 * a * a + 87911 * a + 23) % 2147483647 = b' at *
    have b8 := b_mul b' b' (okMul_l (by omega) (by omega))
    have b9 := b_mod (b' * b') 2147483629 (by omega)
    have n5 := Int.emod_nonneg (b' * b') (b := 2147483629) (by omega)
    have n6 := Int.emod_lt_of_pos (b' * b') (b := 2147483629) (by omega)
    generalize b' * b' % 2147483629 = e1 at *
    have b10 := b_mul e1 16807 (okMul_l (by omega) (by omega))
    have b11 := b_mod (e1 * 16807) 2147483647 (by omega)
    generalize e1 * 16807 % 2147483647 = e2 at *
    have b12 := b_fdiv e2 13 (by omega) (by decide)
    have b13 := b_mod (e2 / 13) many h1
    exact rx_ret (d := .int (e2 / 13 % many)) (by
      simp only [e_bin, e_blt, e_cons, e_var, e_nil, List.getElem?_cons_zero, List.getElem?_cons_succ, varD_frz, q_bind, x_int, q_of, e_cst, b8, b9, b10, b11, b12, b13]) ⟨⟨_, rfl, Int.emod_nonneg _ (by omega), Int.emod_lt_of_pos _ h1⟩, c, [], a + 1, rfl, hc, by simp, by omega, by omega⟩
end Mini

set_option maxRecDepth 100000
set_option maxHeartbeats 2000000
namespace Mini
open PySem L2 Evl
theorem of_go {k n : Nat} {g : G} (h : Gok n g) (hn : n ≤ 100000) (xs : List Int) (hx : xs ≠ []) (hl : xs.length ≤ 100) : ∃ d g', callK tabK WW (k + 2) 40 [.dict [], encI xs] g = .ok d g' ∧ (∃ x ∈ xs, d = .int x) ∧ Gok (n + 1) g' := by
  have hp := List.length_pos_iff.mpr hx
  obtain ⟨d, g', e, ⟨r, rfl, r1, r2⟩, hg⟩ := next_go (k := k) h hn (many := (xs.length : Int)) (by omega) (by omega)
  have rr : r = ((r.toNat : Nat) : Int) := (Int.toNat_of_nonneg r1).symm
  have hlt : r.toNat < (xs.map PyData.int).length := by rw [List.length_map]; omega
  have hlt' : r.toNat < xs.length := by omega
  have i1 := ix_ln (xs.map PyData.int) _ hlt
  rw [← rr, List.getElem_map] at i1
  have i1' : ixD (encI xs) (.int r) = _ := i1
  have lx : bltD .len [encI xs] = some (.int (xs.length : Int)) := by unfold encI; rw [x_len_l, List.length_map]
  refine ⟨.int xs[r.toNat], g', ?_, ⟨_, List.getElem_mem hlt', rfl⟩, hg⟩
  refine call_rts (ρ0 := [some (.frz (.dict [])), some (.frz (encI xs))]) rfl rfl rfl ?_
  exact rts_ret (by simp only [e_ix, e_call, e_cons, e_blt, e_var, e_nil, List.getElem?_cons_zero, List.getElem?_cons_succ, varD_frz, q_bind, lx, q_of, e, i1'])
theorem loopC_inv {f : D → G → R (Option D)} (Q : D → Prop) (I : Nat → G → Prop) : ∀ (xs : List D) (i : Nat) (g : G), I i g → (∀ x ∈ xs, ∀ j g, i ≤ j → j < i + xs.length → I j g → ∃ d g', f x g = .ok (some d) g' ∧ Q d ∧ I (j + 1) g') → ∃ ds g', loopC f xs g = .ok ds g' ∧ ds.length = xs.length ∧ (∀ d ∈ ds, Q d) ∧ I (i + xs.length) g'
  | [], i, g, h, _ => ⟨[], g, rfl, rfl, fun d hd => (List.not_mem_nil hd).elim, h⟩
  | x :: xs, i, g, h, hf => by
    obtain ⟨d, g1, e1, q1, i1⟩ := hf x (List.mem_cons_self ..) i g (Nat.le_refl _) (by rw [List.length_cons]; omega) h
    obtain ⟨ds, g2, e2, l2, q2, i2⟩ := loopC_inv Q I xs (i + 1) g1 i1 fun y hy j g h1 h2 hI => hf y (List.mem_cons_of_mem _ hy) j g (by omega) (by rw [List.length_cons]; omega) hI
    refine ⟨d :: ds, g2, ?_, by rw [List.length_cons, List.length_cons, l2], fun y hy => ?_, ?_⟩
    · unfold loopC
      rw [e1, q_bind, e2, q_bind]
    · rcases List.mem_cons.mp hy with rfl | hy
      · exact q1
      · exact q2 y hy
    · rw [List.length_cons, Nat.add_comm xs.length 1, ← Nat.add_assoc]
      exact i2
theorem sl9 : (9 ≤ sizeLine) = True := by simp [sizeLine]
theorem enc_pairs : ∀ ds : List D, (∀ d ∈ ds, ∃ x, okP x ∧ d = encP x) → ∃ s, ds = s.map encP ∧ okS s
  | [], _ => ⟨[], rfl, fun x hx => (List.not_mem_nil hx).elim⟩
  | d :: ds, h => by
    obtain ⟨x, hx, rfl⟩ := h d (List.mem_cons_self ..)
    obtain ⟨s, rfl, hs⟩ := enc_pairs ds fun y hy => h y (List.mem_cons_of_mem _ hy)
    refine ⟨x :: s, rfl, fun y hy => ?_⟩
    rcases List.mem_cons.mp hy with rfl | hy
    · exact hx
    · exact hs y hy
def lB : List Int := [0, 0, 1, 2, 3, 4, 6, 8, 9]
def lF : List Int := [1, 1, -1, 2, 3, 4, 0, 6, 9]
theorem shape_go {k n : Nat} {g : G} (h : Gok n g) (hn : n + 7 ≤ 100000) : ∃ s g', callK tabK WW (k + 3) 47 [.dict []] g = .ok (encS s) g' ∧ okS s ∧ s.length ≤ 3 ∧ Gok (n + 7) g' := by
  obtain ⟨d, g1, e1, ⟨r, rfl, r1, r2⟩, hg1⟩ := next_go (k := k + 1) h (by omega) (many := 4) (by omega) (by omega)
  obtain ⟨ds, g2, e2, l2, q2, i2⟩ := loopC_inv (f := lcE (callK tabK WW (k + 2)) [some (.frz (.dict [])), none] [1] (.nm 1) (.cst (.bool true)) (.tup (.cons (.call 40 (.cons (.var 0) (.cons (.lst (.cons (.cst (PyData.int 0)) (.cons (.cst (PyData.int 0)) (.cons (.cst (PyData.int 1)) (.cons (.cst (PyData.int 2)) (.cons (.cst (PyData.int 3)) (.cons (.cst (PyData.int 4)) (.cons (.cst (PyData.int 6)) (.cons (.cst (PyData.int 8)) (.cons (.cst (PyData.int 9)) .nil)))))))))) .nil))) (.cons (.call 40 (.cons (.var 0) (.cons (.lst (.cons (.cst (PyData.int 1)) (.cons (.cst (PyData.int 1)) (.cons (.neg (.cst (PyData.int 1))) (.cons (.cst (PyData.int 2)) (.cons (.cst (PyData.int 3)) (.cons (.cst (PyData.int 4)) (.cons (.cst (PyData.int 0)) (.cons (.cst (PyData.int 6)) (.cons (.cst (PyData.int 9)) .nil)))))))))) .nil))) .nil))))
    (fun d => ∃ x, okP x ∧ d = encP x) (fun i g => Gok (n + 1 + 2 * i) g) ((List.range r.toNat).map iD) 0 g1 hg1 (fun x hx j g _ hj hI => by
      rw [List.length_map, List.length_range] at hj
      obtain ⟨a, ga, ea, ⟨a', ha', rfl⟩, hga⟩ := of_go (k := k) hI (by omega) lB (by decide) (by decide)
      obtain ⟨b, gb, eb, ⟨b', hb', rfl⟩, hgb⟩ := of_go (k := k) hga (by omega) lF (by decide) (by decide)
      have ea' : callK tabK WW (k + 2) 40 [.dict [], .list [.int 0, .int 0, .int 1, .int 2, .int 3, .int 4, .int 6, .int 8, .int 9]] g = _ := ea
      have eb' : callK tabK WW (k + 2) 40 [.dict [], .list [.int 1, .int 1, .int (-1), .int 2, .int 3, .int 4, .int 0, .int 6, .int 9]] ga = _ := eb
      refine ⟨encP (a', b'), gb, ?_, ⟨(a', b'), ⟨?_, ?_⟩, rfl⟩, hgb.mono (by omega)⟩
      · simp only [lcE, t_nm, w_cons, w_nil, List.set_cons_zero, List.set_cons_succ, q_of, q_bind, e_cst, q_asB, if_true, e_tup, e_cons, e_call, e_var, e_lst, e_nil, e_neg, q_asI, List.getElem?_cons_zero, List.getElem?_cons_succ, varD_frz, List.length_cons, List.length_nil, Nat.zero_add, Nat.reduceAdd, sl9, sl2, ea', eb']
        rfl
      · have : ∀ x ∈ lB, x ∈ Bs := by decide
        exact this a' ha'
      · have : ∀ x ∈ lF, x ∈ Fs := by decide
        exact this b' hb')
  obtain ⟨s, rfl, hs⟩ := enc_pairs ds q2
  rw [List.length_map, List.length_map, List.length_range] at l2
  rw [List.length_map, List.length_range] at i2
  refine ⟨s, g2, ?_, hs, by omega, i2.mono (by omega)⟩
  refine call_rts (ρ0 := [some (.frz (.dict [])), none]) rfl rfl rfl ?_
  refine rts_ret ?_
  have hr : rngR 0 r g1 = .ok ((List.range r.toNat).map iD) g1 := rngR_int g1 (by omega) (by omega)
  rw [e_blt, e_cons, e_lc]
  simp only [e_rng1, e_call, e_cons, e_var, e_cst, e_nil, List.getElem?_cons_zero, varD_frz, q_bind, e1, q_asI, hr]
  rw [if_pos (by rw [List.length_map, List.length_range]; omega), e2]
  simp only [q_nox, q_bind, x_tuple_l, q_of]
  rfl
/-! groups drawn -/
def key2 (q : Nat × Nat) : List Key := [.inl (q.1 : Int), .inl (q.2 : Int)]
theorem key2_inj (a b : Nat × Nat) (h : key2 a = key2 b) : a = b := by
  unfold key2 at h
  simp only [List.cons.injEq, Sum.inl.injEq, Int.natCast_inj, and_true] at h
  exact Prod.ext h.1 h.2
theorem key_two (q : Nat × Nat) : asKey (.tuple [iD q.1, iD q.2]) = some (key2 q) := rfl
def wP : Nat → Nat → Nat := fun p n => p ^ n
def leN (a b : Nat × Nat) : Bool := decide (a.1 < b.1) || (decide (a.1 = b.1) && decide (a.2 ≤ b.2))
theorem intPairs_enc : ∀ d : Dc, intPairs (encDc key2 d) = some ((keysP d).map fun q => ((q.1 : Int), (q.2 : Int)))
  | [] => rfl
  | x :: d => by
    show (match intPair (key2 x.1), intPairs (encDc key2 d) with | some p, some ps => some (p :: ps) | _, _ => none) = _
    rw [intPairs_enc d]
    rfl
theorem dsort_go {call : Nat → List D → G → R D} {ρ : Env1} {g : G} {i : Nat} {d : Dc} (h : ρ[i]? = some (some (.ownD (encDc key2 d)))) (hl : d.length ≤ 1000) : evE call (.dsort i) ρ g = .ok (.list (((keysP d).mergeSort leN).map fun q => .tuple [iD q.1, iD q.2])) g := by
  rw [evE, h]
  show (if (encDc key2 d).length ≤ 1000 then R.of ((intPairs (encDc key2 d)).map fun ks => PyData.list ((ks.mergeSort lePair).map fun p => .tuple [.int p.1, .int p.2])) g else .stuck) = _
  have hl' : (encDc key2 d).length ≤ 1000 := by unfold encDc; rw [List.length_map]; exact hl
  rw [if_pos hl', intPairs_enc]
  show R.ok (PyData.list _) g = _
  rw [← List.map_mergeSort (r := leN) (f := fun q : Nat × Nat => ((q.1 : Int), (q.2 : Int))), List.map_map]
  · rfl
  · intro a _ b _
    rw [Bool.eq_iff_iff]
    simp [leN, lePair]
    omega
theorem group_go {k n : Nat} {g : G} (h : Gok n g) (hn : n + 20 ≤ 100000) {most : Nat} (hm : 1 ≤ most) (hm' : most ≤ 1000) : ∃ gr g', callK tabK WW (k + 3) 43 [.dict [], iD most] g = .ok (encG gr) g' ∧ NG gr ∧ gr.length ≤ 3 ∧ (∀ x ∈ gr, x.2.2 ≤ 6) ∧ szG gr ≤ most ∧ Gok (n + 13) g' := by
  obtain ⟨d, g1, e1, ⟨r, rfl, r1, r2⟩, hg1⟩ := next_go (k := k + 1) h (by omega) (many := 4) (by omega) (by omega)
  have hr : rngR 0 r g1 = .ok ((List.range r.toNat).map iD) g1 := rngR_int g1 (by omega) (by omega)
  obtain ⟨d, g', e, gr, g2, hd, hq⟩ : ∃ d g', callK tabK WW (k + 3) 43 [.dict [], iD most] g = .ok d g' ∧ ∃ gr g2, (d = encG gr ∧ g' = g2) ∧ NG gr ∧ gr.length ≤ 3 ∧ (∀ x ∈ gr, x.2.2 ≤ 6) ∧ szG gr ≤ most ∧ Gok (n + 13) g2 := by
    refine call_rx rfl rfl rfl ?_
    have s0 : exS (callK tabK WW (k + 2)) WW (.newDT 2 3 (.cst (PyData.int 1))) [some (.frz (.dict [])), some (.frz (iD most)), none, none, none, none, none, none, none] g = .ok (.nx, [some (.frz (.dict [])), some (.frz (iD most)), some (.ownD (encDc key2 [])), some (.frz (iD 1)), none, none, none, none, none]) g := by
      rw [exS, e_cst, q_bind, if_pos (by decide)]
      rfl
    refine rx_p s0 ?_
    refine rx_goG (xs := (List.range r.toNat).map iD) (g1 := g1) (fun i ρ g => ∃ (d : Dc) (size : Nat) (x4 x5 x6 x7 x8 : Option Ent), ρ = [some (.frz (.dict [])), some (.frz (iD most)), some (.ownD (encDc key2 d)), some (.frz (iD size)), x4, x5, x6, x7, x8] ∧ DI (2 * i) i d ∧ size = wprod wP (d.map tri) ∧ size ≤ most ∧ Gok (n + 1 + 4 * i) g) ?_ ⟨[], 1, none, none, none, none, none, rfl, DI.nil, rfl, hm, hg1⟩ (fun j hj ρ g hI => ?_) (fun ρ' g' hI => ?_)
    · simp only [e_rng1, e_call, e_cons, e_var, e_cst, e_nil, List.getElem?_cons_zero, varD_frz, q_bind, e1, q_asI, hr]
    · obtain ⟨d, size, x4, x5, x6, x7, x8, rfl, hd, hs, hle, hg⟩ := hI
      have hj' : j < r.toNat := by rw [List.length_map, List.length_range] at hj; exact hj
      generalize ((List.range r.toNat).map iD)[j] = dv
      obtain ⟨pd, g3, e3, ⟨p', hp', rfl⟩, hg3⟩ := of_go (k := k) hg (by omega) [2, 2, 2, 3, 3, 5, 7] (by decide) (by decide)
      obtain ⟨p, hp, rfl⟩ : ∃ p : Nat, p ∈ [2, 3, 5, 7] ∧ p' = (p : Int) := by
        have : ∀ x ∈ ([2, 2, 2, 3, 3, 5, 7] : List Int), ∃ p : Nat, p ∈ [2, 3, 5, 7] ∧ x = (p : Int) := by
          intro x hx
          simp only [List.mem_cons, List.not_mem_nil, or_false] at hx
          rcases hx with rfl | rfl | rfl | rfl | rfl | rfl | rfl
          · exact ⟨2, by decide, rfl⟩
          · exact ⟨2, by decide, rfl⟩
          · exact ⟨2, by decide, rfl⟩
          · exact ⟨3, by decide, rfl⟩
          · exact ⟨3, by decide, rfl⟩
          · exact ⟨5, by decide, rfl⟩
          · exact ⟨7, by decide, rfl⟩
        exact this p' hp'
      obtain ⟨ad, g4, e4, ⟨a, rfl, a1, a2⟩, hg4⟩ := next_go (k := k + 1) hg3 (by omega) (many := 3) (by omega) (by omega)
      obtain ⟨bd, g5, e5, ⟨b, rfl, b1, b2⟩, hg5⟩ := next_go (k := k + 1) hg4 (by omega) (many := 2) (by omega) (by omega)
      obtain ⟨pw, rfl⟩ : ∃ q : Nat, a = (q : Int) := ⟨a.toNat, (Int.toNat_of_nonneg a1).symm⟩
      obtain ⟨cp, rfl⟩ : ∃ q : Nat, b = (q : Int) := ⟨b.toNat, (Int.toNat_of_nonneg b1).symm⟩
      have ppn : PN p (1 + pw) := ⟨hp, by
        have : pw = 0 ∨ pw = 1 ∨ pw = 2 := by omega
        rcases this with rfl | rfl | rfl <;> decide⟩
      have psm := ppn.small
      have e3' : callK tabK WW (k + 2) 40 [.dict [], .list [.int 2, .int 2, .int 2, .int 3, .int 3, .int 5, .int 7]] g = _ := e3
      have c1 : (1 : Int) + (pw : Int) = ((1 + pw : Nat) : Int) := by omega
      have c2 : (1 : Int) + (cp : Int) = ((1 + cp : Nat) : Int) := by omega
      have f1 : callK tabK WW (k + 2) 42 [.int (p : Int), .int ((1 + pw : Nat) : Int)] g5 = _ := c_power (k := k + 1) (by omega) (by omega) g5
      have f2 : callK tabK WW (k + 2) 42 [.int ((p ^ (1 + pw) : Nat) : Int), .int ((1 + cp : Nat) : Int)] g5 = _ := c_power (k := k + 1) (by omega) (by omega) g5
      have sl7 : (7 ≤ sizeLine) = True := by simp [sizeLine]
      have hmore : (p ^ (1 + pw)) ^ (1 + cp) ≤ 343 * 343 := by
        have h1 : (p ^ (1 + pw)) ^ (1 + cp) ≤ 343 ^ (1 + cp) := Nat.pow_le_pow_left psm.2.2.2.2 _
        have h2 : 343 ^ (1 + cp) ≤ 343 ^ 2 := Nat.pow_le_pow_right (by omega) (by omega)
        exact Nat.le_trans h1 (Nat.le_trans h2 (by decide))
      have m1 : binD .mul (iD size) (.int (((p ^ (1 + pw)) ^ (1 + cp) : Nat) : Int)) = some (iD (size * (p ^ (1 + pw)) ^ (1 + cp))) := by
        rw [b_mul _ _ (okMul_l (by omega) (by omega)), ← Int.natCast_mul]
      have a1' : exS (callK tabK WW (k + 2)) WW (.asg (.nm 5) (.call 40 (.cons (.var 0) (.cons (.lst (.cons (.cst (PyData.int 2)) (.cons (.cst (PyData.int 2)) (.cons (.cst (PyData.int 2)) (.cons (.cst (PyData.int 3)) (.cons (.cst (PyData.int 3)) (.cons (.cst (PyData.int 5)) (.cons (.cst (PyData.int 7)) .nil)))))))) .nil)))) [some (.frz (.dict [])), some (.frz (iD most)), some (.ownD (encDc key2 d)), some (.frz (iD size)), some (.frz dv), x5, x6, x7, x8] g = .ok (.nx, [some (.frz (.dict [])), some (.frz (iD most)), some (.ownD (encDc key2 d)), some (.frz (iD size)), some (.frz dv), some (.frz (iD p)), x6, x7, x8]) g3 := by
        simp only [x_asg, e_call, e_cons, e_var, e_lst, e_cst, e_nil, List.getElem?_cons_zero, varD_frz, q_bind, List.length_cons, List.length_nil, Nat.zero_add, Nat.reduceAdd, sl7, if_true, e3', t_nm, List.set_cons_zero, List.set_cons_succ, q_of]
      have a2' : exS (callK tabK WW (k + 2)) WW (.asg (.tp [6, 7]) (.tup (.cons (.bin .add (.cst (PyData.int 1)) (.call 39 (.cons (.var 0) (.cons (.cst (PyData.int 3)) .nil)))) (.cons (.bin .add (.cst (PyData.int 1)) (.call 39 (.cons (.var 0) (.cons (.cst (PyData.int 2)) .nil)))) .nil)))) [some (.frz (.dict [])), some (.frz (iD most)), some (.ownD (encDc key2 d)), some (.frz (iD size)), some (.frz dv), some (.frz (iD p)), x6, x7, x8] g3 = .ok (.nx, [some (.frz (.dict [])), some (.frz (iD most)), some (.ownD (encDc key2 d)), some (.frz (iD size)), some (.frz dv), some (.frz (iD p)), some (.frz (iD (1 + pw))), some (.frz (iD (1 + cp))), x8]) g5 := by
        simp only [x_asg, e_tup, e_cons, e_bin, e_call, e_var, e_cst, e_nil, List.getElem?_cons_zero, varD_frz, q_bind, e4, e5, b_add, c1, c2, q_of, List.length_cons, List.length_nil, Nat.zero_add, Nat.reduceAdd, sl2, if_true, t_tp, t_cons, t_nil, List.set_cons_zero, List.set_cons_succ]
      have a3' : exS (callK tabK WW (k + 2)) WW (.asg (.nm 8) (.call 42 (.cons (.call 42 (.cons (.var 5) (.cons (.var 6) .nil))) (.cons (.var 7) .nil)))) [some (.frz (.dict [])), some (.frz (iD most)), some (.ownD (encDc key2 d)), some (.frz (iD size)), some (.frz dv), some (.frz (iD p)), some (.frz (iD (1 + pw))), some (.frz (iD (1 + cp))), x8] g5 = .ok (.nx, [some (.frz (.dict [])), some (.frz (iD most)), some (.ownD (encDc key2 d)), some (.frz (iD size)), some (.frz dv), some (.frz (iD p)), some (.frz (iD (1 + pw))), some (.frz (iD (1 + cp))), some (.frz (iD ((p ^ (1 + pw)) ^ (1 + cp))))]) g5 := by
        simp only [x_asg, e_call, e_cons, e_var, e_nil, List.getElem?_cons_zero, List.getElem?_cons_succ, varD_frz, q_bind, f1, f2, t_nm, List.set_cons_zero, List.set_cons_succ, q_of]
      have hdl : (encDc key2 d).length < 1000 := by unfold encDc; rw [List.length_map]; have := hd.len; omega
      by_cases hc : size * (p ^ (1 + pw)) ^ (1 + cp) ≤ most
      · have hc' : ((size * (p ^ (1 + pw)) ^ (1 + cp) : Nat) : Int) ≤ (most : Int) := by omega
        have hdd : DI (2 * (j + 1)) (j + 1) (daddP d (p, 1 + pw) (1 + cp)) := (hd.add (q := (p, 1 + pw)) (c := 1 + cp) ppn (by omega)).mono (by omega) (Nat.le_refl _)
        refine ⟨_, g5, ?_, daddP d (p, 1 + pw) (1 + cp), size * (p ^ (1 + pw)) ^ (1 + cp), some (.frz dv), some (.frz (iD p)), some (.frz (iD (1 + pw))), some (.frz (iD (1 + cp))), some (.frz (iD ((p ^ (1 + pw)) ^ (1 + cp)))), rfl, hdd, ?_, hc, hg5.mono (by omega)⟩
        · have q1 := e_dget (call := callK tabK WW (k + 2)) (i := 2) (ρ := [some (.frz (.dict [])), some (.frz (iD most)), some (.ownD (encDc key2 d)), some (.frz (iD size)), some (.frz dv), some (.frz (iD p)), some (.frz (iD (1 + pw))), some (.frz (iD (1 + cp))), some (.frz (iD ((p ^ (1 + pw)) ^ (1 + cp))))]) (g := g5) (k := .tup (.cons (.var 5) (.cons (.var 6) .nil))) (x := .cst (.int 0)) (z := .int 0) (y := .tuple [iD p, iD (1 + pw)]) rfl (by simp) (by simp) (key_two (p, 1 + pw))
          rw [look_enc key2 key2_inj] at q1
          have q2 := x_dset (call := callK tabK WW (k + 2)) (W := WW) (i := 2) (ρ := [some (.frz (.dict [])), some (.frz (iD most)), some (.ownD (encDc key2 d)), some (.frz (iD size)), some (.frz dv), some (.frz (iD p)), some (.frz (iD (1 + pw))), some (.frz (iD (1 + cp))), some (.frz (iD ((p ^ (1 + pw)) ^ (1 + cp))))]) (g := g5) (k := .tup (.cons (.var 5) (.cons (.var 6) .nil))) (e := .bin .add (.dget 2 (.tup (.cons (.var 5) (.cons (.var 6) .nil))) (.cst (PyData.int 0))) (.var 7)) (z := .int ((dgetP d (p, 1 + pw) + (1 + cp) : Nat) : Int)) (y := .tuple [iD p, iD (1 + pw)]) rfl (by
            rw [e_bin, q1]
            simp) (by simp) (key_two (p, 1 + pw)) hdl
          rw [put_enc key2 key2_inj (p, 1 + pw) (1 + cp) hd.nd] at q2
          simp only [forF, t_nm, q_of, q_bind, List.set_cons_zero, List.set_cons_succ, x_seq, a1', a2', a3', seqR_nx, x_ife, e_cmp, e_bin, e_var, List.getElem?_cons_zero, List.getElem?_cons_succ, varD_frz, m1, k_le, decide_eq_true hc', q_asB, if_true, q2]
          simp only [x_asg, e_bin, e_var, List.getElem?_cons_zero, List.getElem?_cons_succ, varD_frz, q_bind, m1, q_of, t_nm, List.set_cons_zero, List.set_cons_succ]
        · rw [wprod_add, ← hs, Nat.mul_comm]
          rfl
      · have hc' : ¬ ((size * (p ^ (1 + pw)) ^ (1 + cp) : Nat) : Int) ≤ (most : Int) := by omega
        refine ⟨_, g5, ?_, d, size, some (.frz dv), some (.frz (iD p)), some (.frz (iD (1 + pw))), some (.frz (iD (1 + cp))), some (.frz (iD ((p ^ (1 + pw)) ^ (1 + cp)))), rfl, hd.mono (by omega) (by omega), hs, hle, hg5.mono (by omega)⟩
        simp only [forF, t_nm, q_of, q_bind, List.set_cons_zero, List.set_cons_succ, x_seq, a1', a2', a3', seqR_nx, x_ife, e_cmp, e_bin, e_var, List.getElem?_cons_zero, List.getElem?_cons_succ, varD_frz, m1, k_le, decide_eq_false hc', q_asB, Bool.false_eq_true, if_false, x_skip]
    · obtain ⟨d, size, x4, x5, x6, x7, x8, rfl, hd, hs, hle, hg⟩ := hI
      rw [List.length_map, List.length_range] at hd hg
      have hd3 : DI 6 3 d := hd.mono (by omega) (by omega)
      have hng := NG_sort (hd3.mono (show 6 ≤ 1000 by omega) (show 3 ≤ 12 by omega))
      have hdl := hd3.len
      have ml : ((keysP d).mergeSort leN).length = d.length := by rw [List.length_mergeSort]; unfold keysP; rw [List.length_map]
      have l1 : evE (callK tabK WW (k + 2)) (.lc [5, 6] (.tp [5, 6]) (.seqL (.dsort 2)) (.cst (.bool true)) (.tup (.cons (.tup (.cons (.cst (PyData.str (Str.ofString "ring"))) (.cons (.var 5) (.cons (.var 6) .nil)))) (.cons (.dix 2 (.tup (.cons (.var 5) (.cons (.var 6) .nil)))) .nil)))) [some (.frz (.dict [])), some (.frz (iD most)), some (.ownD (encDc key2 d)), some (.frz (iD size)), x4, x5, x6, x7, x8] g' = .ok (.list (((keysP d).mergeSort leN).map fun q => smD (q.1, q.2, dgetP d q))) g' := by
        refine lc_enc (fun q : Nat × Nat => PyData.tuple [iD q.1, iD q.2]) _ ?_ (by omega) fun q hq => ?_
        · rw [e_seqL, dsort_go rfl (by omega), q_bind, seqL_list]
        · have hq' : q ∈ keysP d := (List.mergeSort_perm _ _).mem_iff.mp hq
          obtain ⟨x, hx, rfl⟩ := List.mem_map.mp hq'
          have lk := look_mem key2 key2_inj hd.nd hx
          have q1 := e_dix (call := callK tabK WW (k + 2)) (i := 2) (ρ := [some (.frz (.dict [])), some (.frz (iD most)), some (.ownD (encDc key2 d)), some (.frz (iD size)), x4, some (.frz (iD x.1.1)), some (.frz (iD x.1.2)), x7, x8]) (g := g') (k := .tup (.cons (.var 5) (.cons (.var 6) .nil))) (y := .tuple [iD x.1.1, iD x.1.2]) (.inr rfl) (by simp) (key_two x.1) lk
          rw [dget_mem hd.nd hx]
          simp only [lcE, t_tp, t_cons, t_nil, w_cons, w_nil, List.set_cons_zero, List.set_cons_succ, q_of, q_bind, e_cst, q_asB, if_true, e_tup, e_cons, e_nil, q1, e_var, List.getElem?_cons_zero, List.getElem?_cons_succ, varD_frz, List.length_cons, List.length_nil, Nat.zero_add, Nat.reduceAdd, sl2, sl3]
          rfl
      have l2 : PyData.tuple (((keysP d).mergeSort leN).map fun q => smD (q.1, q.2, dgetP d q)) = encG (sortG d) := by
        rw [encG_eq, ← sortG_keys hd.nd, List.map_map]
        rfl
      refine rx_ret (d := encG (sortG d)) (g1 := g') (by simp only [e_blt, e_cons, l1, e_nil, q_bind, x_tuple_l, q_of, l2]) ⟨sortG d, g', ⟨rfl, rfl⟩, hng, ?_, ?_, ?_, hg.mono (by omega)⟩
      · unfold sortG
        rw [List.length_map, List.length_mergeSort]
        exact hdl
      · intro x hx
        obtain ⟨y, hy, rfl⟩ := List.mem_map.mp hx
        exact (hd3.ok y ((List.mergeSort_perm _ _).mem_iff.mp hy)).2.2
      · have e : szG (sortG d) = wprod wP (sortG d) := by
          unfold szG
          have := sizeL_mod (fun m => m) (sortG d)
          rw [List.map_id'] at this
          exact this
        rw [e, wprod_sort, ← hs]
        exact hle
  obtain ⟨⟨rfl, rfl⟩, hq⟩ := And.intro hd hq
  exact ⟨gr, g', e, hq⟩
end Mini

set_option maxRecDepth 100000
set_option maxHeartbeats 2000000
namespace Mini
open PySem L2 Evl
/-! ### the endless groups -/
theorem canLay_P : ∀ xs : List (Int × Int), PyData.canLayAll0 (xs.map encP) = true
  | [] => rfl
  | x :: xs => by rw [List.map_cons, PyData.canLayAll0, canLay_P xs]; rfl
theorem depth_P : ∀ xs : List (Int × Int), PyData.depthAll (xs.map encP) ≤ 4
  | [] => by simp [PyData.depthAll]
  | x :: xs => by
    have := depth_P xs
    simp [PyData.depthAll, encP, PyData.depth]
    try omega
theorem shaped_P (xs : List (Int × Int)) : SeqAt.shaped (.list (xs.map encP)) = true := by
  unfold SeqAt.shaped
  have h := depth_P xs
  simp [PyData.canLay0, canLay_P, PyData.depth]
  omega
theorem eqv_nilP (xs : List (Int × Int)) : PyData.eqv (.list (xs.map encP)) (.list []) = decide (xs = []) := by
  cases xs with
  | nil => rfl
  | cons x xs => simp [PyData.eqv, PyData.eqvAll]
theorem ne_nilP (xs : List (Int × Int)) : cmpD .ne (.list (xs.map encP)) (.list []) = some (!decide (xs = [])) := by
  have h : SeqAt.shaped (.list (xs.map encP)) = true ∧ SeqAt.shaped (.list []) = true := ⟨shaped_P xs, shaped_L []⟩
  show (if SeqAt.shaped (.list (xs.map encP)) = true ∧ SeqAt.shaped (.list []) = true then some (!PyData.eqv (.list (xs.map encP)) (.list [])) else none) = _
  rw [if_pos h, eqv_nilP]
theorem eq_nilP (xs : List (Int × Int)) : cmpD .eq (.list (xs.map encP)) (.list []) = some (decide (xs = [])) := by
  have h : SeqAt.shaped (.list (xs.map encP)) = true ∧ SeqAt.shaped (.list []) = true := ⟨shaped_P xs, shaped_L []⟩
  show (if SeqAt.shaped (.list (xs.map encP)) = true ∧ SeqAt.shaped (.list []) = true then some (PyData.eqv (.list (xs.map encP)) (.list [])) else none) = _
  rw [if_pos h, eqv_nilP]
theorem filter_any {α : Type} (P : α → Bool) (xs : List α) : (!decide (xs.filter P = [])) = xs.any P := by
  induction xs with
  | nil => rfl
  | cons x xs ih =>
    rw [List.filter_cons, List.any_cons, ← ih]
    cases P x <;> simp
theorem inn_1m_int (i : Int) : cmpD .inn (.int i) (.list [.int 1, manyD]) = some (decide (i = 1)) := by
  show (if flatD (.int i) = true ∧ [PyData.int 1, manyD].all flatD = true then some (inD (.int i) [.int 1, manyD]) else none) = _
  rw [if_pos ⟨rfl, rfl⟩]
  have e : PyData.eqv (.int 1) (.int i) = decide (i = 1) := by rw [Bool.eq_iff_iff]; simp [PyData.eqv]; omega
  simp [inD, e, PyData.eqv]
  rw [Bool.eq_iff_iff]
  simp
  omega
theorem inn_1m_many : cmpD .inn manyD (.list [.int 1, manyD]) = some true := by
  show (if flatD manyD = true ∧ [PyData.int 1, manyD].all flatD = true then some (inD manyD [.int 1, manyD]) else none) = _
  rw [if_pos ⟨rfl, rfl⟩]
  simp [inD, PyData.eqv]
theorem ix_l0 (a : D) (r : List D) : ixD (.list (a :: r)) (.int 0) = some a := ix_ln (a :: r) 0 (Nat.succ_pos _)
theorem ix_l1 (a b : D) (r : List D) : ixD (.list (a :: b :: r)) (.int 1) = some b := ix_ln (a :: b :: r) 1 (by simp)
theorem wIdx_form {s t : List (Int × Int)} (o : okS s) (o' : okS t) : (∃ w : Nat, wIdx s t = .int w ∧ w < 2 ^ 64) ∨ wIdx s t = manyD := by
  have b1 := d72_b (wst_mem o)
  have b2 := d72_b (wst_mem (o.append o'))
  unfold wIdx
  split
  · exact .inl ⟨1, rfl, by omega⟩
  · split
    · exact .inr rfl
    · have h1 : 0 ≤ wst (s ++ t) / wst s := Int.ediv_nonneg b2.1 b1.1
      have h2 : wst (s ++ t) / wst s ≤ wst (s ++ t) := Int.ediv_le_self _ b2.1
      refine .inl ⟨(wst (s ++ t) / wst s).toNat, ?_, by omega⟩
      rw [Int.toNat_of_nonneg h1]
theorem fIdx_form {s t : List (Int × Int)} : (∃ w : Nat, fIdx s t = .int w ∧ w < 2 ^ 64) ∨ fIdx s t = manyD := by
  unfold fIdx
  split
  · exact .inr rfl
  · exact .inl ⟨1, rfl, by omega⟩
theorem tIdx_form {p : Nat} (hp : p = 2 ∨ p = 3) {s t : List (Int × Int)} : (∃ w : Nat, tIdx p s t = .int w ∧ w < 2 ^ 64) ∨ tIdx p s t = manyD := by
  unfold tIdx
  cases c1 : tst p s with
  | none =>
    cases c2 : tst p (s ++ t) with
    | none => exact .inl ⟨1, rfl, by omega⟩
    | some b => exact .inr rfl
  | some a =>
    obtain ⟨b, c2, hb⟩ := tst_append (t := t) c1
    have ha := tst_le (a := none) (fun c hc => by cases hc) c1
    rw [c2]
    refine .inl ⟨p ^ (a - b), rfl, ?_⟩
    have h1 : p ^ (a - b) ≤ 3 ^ (a - b) := Nat.pow_le_pow_left (by omega) _
    have h2 : 3 ^ (a - b) ≤ 3 ^ 8 := Nat.pow_le_pow_right (by omega) (by omega)
    have h3 : 3 ^ 8 < 2 ^ 64 := by decide
    omega
def torD (p : Nat) (o : Option Nat) : D := match o with
  | none => .none
  | some a => .int ((p ^ a : Nat) : Int)
@[simp] theorem torD_n (p : Nat) : torD p none = .none := Eq.trans rfl rfl
@[simp] theorem torD_s (p a : Nat) : torD p (some a) = .int ((p ^ a : Nat) : Int) := Eq.trans rfl rfl
def towDue (p : Nat) (s t : List (Int × Int)) : D := match tst p s with
  | none => (match tst p (s ++ t) with | none => .int 1 | some _ => manyD)
  | some a => (match tst p (s ++ t) with | none => .none | some b => .int (((p ^ a : Nat) : Int) / ((p ^ b : Nat) : Int)))
theorem towDue_eq {p : Nat} (hp : p = 2 ∨ p = 3) (s t : List (Int × Int)) : towDue p s t = tIdx p s t := by
  unfold towDue tIdx
  cases c1 : tst p s with
  | none => cases c2 : tst p (s ++ t) <;> rfl
  | some a =>
    obtain ⟨b, c2, hb⟩ := tst_append (t := t) c1
    rw [c2]
    show PyData.int _ = PyData.int _
    congr 1
    rw [← Int.natCast_ediv]
    congr 1
    exact Nat.pow_div hb (by omega)
theorem like_form {k : Nat} {d : D} (h : (∃ w : Nat, d = .int w ∧ w < 2 ^ 64) ∨ d = manyD) (g : G) : callK tabK WW (k + 1) 41 [d, d] g = .ok (.bool true) g := by
  rcases h with ⟨w, rfl, -⟩ | rfl
  · exact c_like_int _ g
  · exact c_like_many g
theorem nx_step {call : Nat → List D → G → R D} {W : Nat} {a b : MS} {ρ ρ1 : Env1} {g g1 : G} {r : R (Fl × Env1)} (h : exS call W a ρ g = .ok (.nx, ρ1) g1) (k : exS call W b ρ1 g1 = r) : exS call W (.seq a b) ρ g = r := by
  rw [x_seq, h, q_bind, seqR_nx, k]
theorem x_like {call : Nat → List D → G → R D} {W : Nat} {e1 e2 : ME} {a : MS} {ρ : Env1} {g : G} {d : D} (h1 : evE call e1 ρ g = .ok d g) (h2 : evE call e2 ρ g = .ok d g) (h3 : call 41 [d, d] g = .ok (.bool true) g) : exS call W (.ife (.not (.call 41 (.cons e1 (.cons e2 .nil)))) a .skip) ρ g = .ok (.nx, ρ) g := by
  simp only [x_ife, e_not, e_call, e_cons, h1, q_bind, h2, e_nil, h3, q_asB, Bool.not_true, Bool.false_eq_true, if_false, x_skip]
theorem endless_go {k n : Nat} {g : G} (h : Gok n g) (hn : n ≤ 100000) {s t : List (Int × Int)} (o : okS s) (o' : okS t) (hs : s.length ≤ 10) (ht : t.length ≤ 10) : ∃ g', callK tabK WW (k + 8) 53 [.dict [], encS s, encS t] g = .ok (.bool true) g' ∧ Gok (n + 1) g' := by
  obtain ⟨pd, g1, e7, ⟨p', hp', rfl⟩, hg1⟩ := of_go (k := k + 5) h hn [2, 3] (by decide) (by decide)
  obtain ⟨p, hp, rfl⟩ : ∃ p : Nat, (p = 2 ∨ p = 3) ∧ p' = (p : Int) := by
    simp only [List.mem_cons, List.not_mem_nil, or_false] at hp'
    rcases hp' with rfl | rfl
    · exact ⟨2, .inl rfl, rfl⟩
    · exact ⟨3, .inr rfl, rfl⟩
  refine ⟨g1, ?_, hg1⟩
  have hl : s.length + t.length ≤ 1000 := by omega
  have hpm : p ∈ [2, 3, 5, 7] := by rcases hp with rfl | rfl <;> decide
  have ad := addS hl
  have w1 : callK tabK WW (k + 7) 51 [encS s] g = _ := c_law_whole (k := k + 5) o (by omega) g
  have w2 : callK tabK WW (k + 7) 51 [encS (s ++ t)] g = _ := c_law_whole (k := k + 5) (o.append o') (by rw [List.length_append]; omega) g
  have t1 : callK tabK WW (k + 7) 52 [.int (p : Int), encS s] g1 = .ok (torD p (tst p s)) g1 := c_law_torsion (k := k + 6) hp o (by omega) g1
  have t2 : callK tabK WW (k + 7) 52 [.int (p : Int), encS (s ++ t)] g1 = .ok (torD p (tst p (s ++ t))) g1 := c_law_torsion (k := k + 6) hp (o.append o') (by rw [List.length_append]; omega) g1
  have c1 : ∀ g, OkC (.int 1) → callK tabK WW (k + 7) 37 [encGG [(wholeD, .int 1)], encS s, encS t] g = .ok (oneIdx (wIdx s t) (.int 1)) g := fun g hc => c_one (k := k + 1) OkK.whole hc (.inl ⟨1, rfl, by omega⟩) o o' (wIdx_form o o') g fun k => c_in_whole o o' hl g
  have c2 : ∀ g, OkC (.int 2) → callK tabK WW (k + 7) 37 [encGG [(wholeD, .int 2)], encS s, encS t] g = .ok (oneIdx (wIdx s t) (.int 2)) g := fun g hc => c_one (k := k + 1) OkK.whole hc (.inl ⟨2, rfl, by omega⟩) o o' (wIdx_form o o') g fun k => c_in_whole o o' hl g
  have c3 : ∀ g, callK tabK WW (k + 7) 37 [encGG [(fracD, manyD)], encS s, encS t] g = .ok (oneIdx (fIdx s t) manyD) g := fun g => c_one (k := k + 1) OkK.frac OkC.many (.inr rfl) o o' fIdx_form g fun k => c_in_frac hl g
  have c4 : ∀ g, OkC (.int 1) → callK tabK WW (k + 7) 37 [encGG [(towD p, .int 1)], encS s, encS t] g = .ok (oneIdx (tIdx p s t) (.int 1)) g := fun g hc => c_one (k := k + 1) (OkK.tow hpm) hc (.inl ⟨1, rfl, by omega⟩) o o' (tIdx_form hp) g fun k => c_in_tow hp o o' hl g
  have oc1 : OkC (.int 1) := OkC.num (c := 1) (by omega) (by omega)
  have oc2 : OkC (.int 2) := OkC.num (c := 2) (by omega) (by omega)
  have i1 : ∀ {d : D}, ((∃ w : Nat, d = .int w ∧ w < 2 ^ 64) ∨ d = manyD) → oneIdx d (.int 1) = d := fun hd => by
    rcases hd with ⟨w, rfl, -⟩ | rfl
    · show PyData.int ((w : Int) ^ 1) = _
      rw [Int.pow_succ, Int.pow_zero, Int.one_mul]
    · rfl
  refine call_rts (ρ0 := [some (.frz (.dict [])), some (.frz (encS s)), some (.frz (encS t)), none, none, none, none, none, none, none]) rfl rfl rfl ?_
  refine rts_p (ρ1 := [some (.frz (.dict [])), some (.frz (encS s)), some (.frz (encS t)), some (.frz (.int (wst s))), some (.frz (.int (wst (s ++ t)))), none, none, none, none, none]) (by simp [w1, w2, ad]) ?_
  have b1 := d72_b (wst_mem o)
  refine rts_p (ρ1 := [some (.frz (.dict [])), some (.frz (encS s)), some (.frz (encS t)), some (.frz (.int (wst s))), some (.frz (.int (wst (s ++ t)))), some (.frz (wIdx s t)), none, none, none, none]) (by
    unfold wIdx
    by_cases q1 : wst s = 0
    · simp [q1]
    · have d1 := b_fdiv (wst (s ++ t)) (wst s) (by omega) (log2_small (by omega))
      by_cases q2 : wst (s ++ t) = 0
      · simp [q1, q2]
      · simp [q1, q2, d1]) ?_
  have gw : ∀ c : D, PyData.tuple [.tuple [.tuple [.str (Str.ofString "whole")], c]] = encGG [(wholeD, c)] := fun _ => rfl
  have gf : ∀ c : D, PyData.tuple [.tuple [.tuple [.str (Str.ofString "fraction")], c]] = encGG [(fracD, c)] := fun _ => rfl
  have gt : ∀ c : D, PyData.tuple [.tuple [.tuple [.str (Str.ofString "tower"), .int (p : Int)], c]] = encGG [(towD p, c)] := fun _ => rfl
  have k1 := c1 g oc1
  rw [i1 (wIdx_form o o')] at k1
  have lk : callK tabK WW (k + 7) 41 [wIdx s t, wIdx s t] g = _ := like_form (k := k + 6) (wIdx_form o o') g
  refine rts_p (ρ1 := [some (.frz (.dict [])), some (.frz (encS s)), some (.frz (encS t)), some (.frz (.int (wst s))), some (.frz (.int (wst (s ++ t)))), some (.frz (wIdx s t)), none, none, none, none]) (by
    simp only [x_ife, e_not, e_call, e_cons, e_tup, e_cst, e_nil, e_var, List.getElem?_cons_zero, List.getElem?_cons_succ, varD_frz, q_bind, List.length_cons, List.length_nil, Nat.zero_add, Nat.reduceAdd, sl1, sl2, if_true, gw, k1, lk, q_asB, Bool.not_true, Bool.false_eq_true, if_false, x_skip]) ?_
  have k2 := c2 g oc2
  obtain ⟨due2, hdue2, hform2, hev2⟩ : ∃ due2, oneIdx (wIdx s t) (.int 2) = due2 ∧ ((∃ w : Nat, due2 = .int w ∧ w < 2 ^ 200) ∨ due2 = manyD) ∧ evE (callK tabK WW (k + 7)) (.ifx (.cmp .inn (.var 5) (.lst (.cons (.cst (PyData.int 1)) (.cons (.cst (PyData.str (Str.ofString "many"))) .nil)))) (.var 5) (.bin .mul (.var 5) (.var 5))) [some (.frz (.dict [])), some (.frz (encS s)), some (.frz (encS t)), some (.frz (.int (wst s))), some (.frz (.int (wst (s ++ t)))), some (.frz (wIdx s t)), none, none, none, none] g = .ok due2 g := by
    rcases wIdx_form o o' with ⟨w, e, hw⟩ | e
    · rw [e]
      have hq : oneIdx (.int (w : Int)) (.int 2) = .int ((w * w : Nat) : Int) := by
        show PyData.int ((w : Int) ^ 2) = _
        rw [Int.pow_succ, Int.pow_succ, Int.pow_zero, Int.one_mul, Int.natCast_mul]
      refine ⟨_, hq, .inl ⟨w * w, rfl, ?_⟩, ?_⟩
      · have : w * w < 2 ^ 64 * 2 ^ 64 := Nat.mul_lt_mul'' hw hw
        have h2 : 2 ^ 64 * 2 ^ 64 < 2 ^ 200 := by decide
        omega
      · by_cases q1 : w = 1
        · subst q1
          simp [inn_1m_int]
        · have q1' : ¬ ((w : Int) = 1) := by omega
          have m1 : binD .mul (.int (w : Int)) (.int (w : Int)) = some (.int ((w * w : Nat) : Int)) := by rw [b_mul _ _ (okMul_l (by omega) (by omega)), Int.natCast_mul]
          simp only [e_ifx, e_cmp, e_var, List.getElem?_cons_zero, List.getElem?_cons_succ, varD_frz, q_bind, e_lst, e_cons, e_cst, e_nil, List.length_cons, List.length_nil, Nat.zero_add, Nat.reduceAdd, sl2, if_true, inn_1m_int, q_of, decide_eq_false q1', q_asB, Bool.false_eq_true, if_false, e_bin, m1]
    · rw [e]
      exact ⟨manyD, rfl, .inr rfl, by simp [inn_1m_many]⟩
  rw [hdue2] at k2
  have lk2 : callK tabK WW (k + 7) 41 [due2, due2] g = .ok (.bool true) g := by
    rcases hform2 with ⟨w, rfl, -⟩ | rfl
    · exact c_like_int (k := k + 6) _ g
    · exact c_like_many (k := k + 6) g
  refine rts_p (ρ1 := [some (.frz (.dict [])), some (.frz (encS s)), some (.frz (encS t)), some (.frz (.int (wst s))), some (.frz (.int (wst (s ++ t)))), some (.frz (wIdx s t)), none, none, none, none]) (by
    refine x_like (d := due2) ?_ hev2 lk2
    simp only [e_call, e_cons, e_tup, e_cst, e_nil, e_var, List.getElem?_cons_zero, List.getElem?_cons_succ, varD_frz, q_bind, List.length_cons, List.length_nil, Nat.zero_add, Nat.reduceAdd, sl1, sl2, if_true, gw, k2]) ?_
  have cutE : evE (callK tabK WW (k + 7)) (.lc [8] (.nm 8) (.seqT (.tup (.cons (.var 1) (.cons (.bin .add (.var 1) (.var 2)) .nil)))) (.cst (.bool true)) (.cmp .ne (.lc [9] (.nm 9) (.seqT (.var 8)) (.and (.cmp .eq (.ix (.var 9) (.cst (PyData.int 0))) (.cst (PyData.int 0))) (.cmp .ne (.ix (.var 9) (.cst (PyData.int 1))) (.cst (PyData.int 0)))) (.var 9)) (.lst .nil))) [some (.frz (.dict [])), some (.frz (encS s)), some (.frz (encS t)), some (.frz (.int (wst s))), some (.frz (.int (wst (s ++ t)))), some (.frz (wIdx s t)), none, none, none, none] g = .ok (.list ([s, s ++ t].map fun u => .bool (u.any isC))) g := by
    refine lc_enc encS _ (by simp [ad]) (by simp) fun u hu => ?_
    have hul : u.length ≤ 20 := by
      simp only [List.mem_cons, List.not_mem_nil, or_false] at hu
      rcases hu with rfl | rfl
      · omega
      · rw [List.length_append]; omega
    have inner : evE (callK tabK WW (k + 7)) (.lc [9] (.nm 9) (.seqT (.var 8)) (.and (.cmp .eq (.ix (.var 9) (.cst (PyData.int 0))) (.cst (PyData.int 0))) (.cmp .ne (.ix (.var 9) (.cst (PyData.int 1))) (.cst (PyData.int 0)))) (.var 9)) [some (.frz (.dict [])), some (.frz (encS s)), some (.frz (encS t)), some (.frz (.int (wst s))), some (.frz (.int (wst (s ++ t)))), some (.frz (wIdx s t)), none, none, some (.frz (encS u)), none] g = .ok (.list ((u.filter isC).map encP)) g := by
      refine lc_filt encP encP isC (by simp) (by omega) fun x hx => ?_
      by_cases q1 : x.1 = 0 <;> by_cases q2 : x.2 = 0 <;> simp [lcE, isC, q1, q2]
    have nn := ne_nilP (u.filter isC)
    rw [filter_any] at nn
    simp only [lcE, t_nm, w_cons, w_nil, List.set_cons_zero, List.set_cons_succ, q_of, q_bind, e_cst, q_asB, if_true, e_cmp, inner, e_lst, e_nil, List.length_nil, sl0, nn]
  refine rts_p (ρ1 := [some (.frz (.dict [])), some (.frz (encS s)), some (.frz (encS t)), some (.frz (.int (wst s))), some (.frz (.int (wst (s ++ t)))), some (.frz (wIdx s t)), some (.frz (.list [.bool (s.any isC), .bool ((s ++ t).any isC)])), none, none, none]) (by
    rw [x_asg, cutE]
    rfl) ?_
  have k3 := c3 g
  have i3 : oneIdx (fIdx s t) manyD = fIdx s t := by
    unfold fIdx
    split <;> simp [oneIdx]
  rw [i3] at k3
  have lk3 : callK tabK WW (k + 7) 41 [fIdx s t, fIdx s t] g = _ := like_form (k := k + 6) fIdx_form g
  have hev3 : evE (callK tabK WW (k + 7)) (.ifx (.and (.ix (.var 6) (.cst (PyData.int 1))) (.not (.ix (.var 6) (.cst (PyData.int 0))))) (.cst (PyData.str (Str.ofString "many"))) (.cst (PyData.int 1))) [some (.frz (.dict [])), some (.frz (encS s)), some (.frz (encS t)), some (.frz (.int (wst s))), some (.frz (.int (wst (s ++ t)))), some (.frz (wIdx s t)), some (.frz (.list [.bool (s.any isC), .bool ((s ++ t).any isC)])), none, none, none] g = .ok (fIdx s t) g := by
    unfold fIdx
    cases q1 : (s ++ t).any isC <;> cases q2 : s.any isC <;> simp [ix_l0, ix_l1]
  refine rts_p (ρ1 := [some (.frz (.dict [])), some (.frz (encS s)), some (.frz (encS t)), some (.frz (.int (wst s))), some (.frz (.int (wst (s ++ t)))), some (.frz (wIdx s t)), some (.frz (.list [.bool (s.any isC), .bool ((s ++ t).any isC)])), none, none, none]) (by
    refine x_like (d := fIdx s t) ?_ hev3 lk3
    simp only [e_call, e_cons, e_tup, e_cst, e_nil, e_var, List.getElem?_cons_zero, List.getElem?_cons_succ, varD_frz, q_bind, List.length_cons, List.length_nil, Nat.zero_add, Nat.reduceAdd, sl1, sl2, if_true, gf, k3]) ?_
  have e7' : callK tabK WW (k + 7) 40 [.dict [], .list [.int 2, .int 3]] g = _ := e7
  refine rts_step (ρ1 := [some (.frz (.dict [])), some (.frz (encS s)), some (.frz (encS t)), some (.frz (.int (wst s))), some (.frz (.int (wst (s ++ t)))), some (.frz (wIdx s t)), some (.frz (.list [.bool (s.any isC), .bool ((s ++ t).any isC)])), some (.frz (.int (p : Int))), none, none]) (g1 := g1) (by
    simp only [x_asg, e_call, e_cons, e_lst, e_cst, e_nil, e_var, List.getElem?_cons_zero, List.getElem?_cons_succ, varD_frz, q_bind, List.length_cons, List.length_nil, Nat.zero_add, Nat.reduceAdd, sl2, if_true, e7', t_nm, List.set_cons_zero, List.set_cons_succ, q_of]) ?_
  refine rts_p (ρ1 := [some (.frz (.dict [])), some (.frz (encS s)), some (.frz (encS t)), some (.frz (torD p (tst p s))), some (.frz (torD p (tst p (s ++ t)))), some (.frz (wIdx s t)), some (.frz (.list [.bool (s.any isC), .bool ((s ++ t).any isC)])), some (.frz (.int (p : Int))), none, none]) (by
    simp only [x_asg, e_tup, e_call, e_cons, e_bin, e_nil, e_var, List.getElem?_cons_zero, List.getElem?_cons_succ, varD_frz, q_bind, ad, q_of, t1, t2, List.length_cons, List.length_nil, Nat.zero_add, Nat.reduceAdd, sl2, if_true, t_tp, t_cons, t_nil, List.set_cons_zero, List.set_cons_succ]) ?_
  have hev5 : evE (callK tabK WW (k + 7)) (.ifx (.cmp .is (.var 3) (.cst PyData.none)) (.ifx (.cmp .is (.var 4) (.cst PyData.none)) (.cst (PyData.int 1)) (.cst (PyData.str (Str.ofString "many")))) (.bin .fdiv (.var 3) (.var 4))) [some (.frz (.dict [])), some (.frz (encS s)), some (.frz (encS t)), some (.frz (torD p (tst p s))), some (.frz (torD p (tst p (s ++ t)))), some (.frz (wIdx s t)), some (.frz (.list [.bool (s.any isC), .bool ((s ++ t).any isC)])), some (.frz (.int (p : Int))), none, none] g1 = .ok (towDue p s t) g1 := by
    unfold towDue
    cases q1 : tst p s with
    | none => cases q2 : tst p (s ++ t) <;> simp
    | some a =>
      obtain ⟨b, q2, hb⟩ := tst_append (t := t) q1
      have ha := tst_le (a := none) (fun c hc => by cases hc) q1
      rw [q2]
      have pb : 0 < p ^ b := Nat.pow_pos (by omega)
      have pl : p ^ b ≤ 3 ^ 8 := Nat.le_trans (Nat.pow_le_pow_left (show p ≤ 3 by omega) _) (Nat.pow_le_pow_right (by omega) (by omega))
      have d1 := b_fdiv ((p ^ a : Nat) : Int) ((p ^ b : Nat) : Int) (by omega) (by
        rw [Int.natAbs_natCast]
        have := Nat.log2_le_self (p ^ b)
        have : 3 ^ 8 = 6561 := by decide
        omega)
      simp only [e_ifx, e_cmp, e_var, List.getElem?_cons_zero, List.getElem?_cons_succ, varD_frz, q_bind, e_cst, torD_s, is_noneI, q_of, q_asB, Bool.false_eq_true, if_false, e_bin, d1]
  refine rts_p (ρ1 := [some (.frz (.dict [])), some (.frz (encS s)), some (.frz (encS t)), some (.frz (torD p (tst p s))), some (.frz (torD p (tst p (s ++ t)))), some (.frz (towDue p s t)), some (.frz (.list [.bool (s.any isC), .bool ((s ++ t).any isC)])), some (.frz (.int (p : Int))), none, none]) (by
    rw [x_asg, hev5]
    rfl) ?_
  have k4 := c4 g1 oc1
  rw [i1 (tIdx_form hp)] at k4
  have lk4 : callK tabK WW (k + 7) 41 [tIdx p s t, tIdx p s t] g1 = _ := like_form (k := k + 6) (tIdx_form hp) g1
  rw [towDue_eq hp]
  exact rts_ret (by
    simp only [e_call, e_cons, e_tup, e_cst, e_nil, e_var, List.getElem?_cons_zero, List.getElem?_cons_succ, varD_frz, q_bind, List.length_cons, List.length_nil, Nat.zero_add, Nat.reduceAdd, sl1, sl2, if_true, gt, k4, lk4])
end Mini

set_option maxRecDepth 100000
set_option maxHeartbeats 2000000
namespace Mini
open PySem L2 Evl
/-! ### elements and rows -/
def zipG : Gr → List Nat → List Sq
  | [], _ => []
  | (p, n, c) :: gr, r => ((p, n, c), trimR (r.take c)) :: zipG gr (r.drop c)
theorem zipG_gr : ∀ (gr : Gr) (r : List Nat), grZ (zipG gr r) = gr
  | [], _ => rfl
  | (p, n, c) :: gr, r => by
    show _ :: grZ (zipG gr (r.drop c)) = _
    rw [zipG_gr gr]
theorem zipG_el : ∀ (gr : Gr) (r : List Nat), elZ (zipG gr r) = splitR gr r
  | [], _ => rfl
  | (p, n, c) :: gr, r => by
    show _ :: elZ (zipG gr (r.drop c)) = _
    rw [zipG_el gr]
    rfl
theorem rows_lt : ∀ {ms r : List Nat}, r ∈ rowsL ms → ∀ i (h : i < r.length) (h' : i < ms.length), r[i] < ms[i]
  | m :: ms, r, hr, i, h, h' => by
    simp only [rowsL, List.mem_flatMap, List.mem_map, List.mem_range] at hr
    obtain ⟨x, hx, t, ht, rfl⟩ := hr
    cases i with
    | zero => exact hx
    | succ i => exact rows_lt ht i (by simpa using h) (by simpa using h')
theorem rep_lt {c m : Nat} {r : List Nat} (h : r ∈ rowsL (List.replicate c m)) : ∀ v ∈ r, v < m := fun v hv => by
  obtain ⟨i, hi, rfl⟩ := List.getElem_of_mem hv
  have hl := rows_len h
  have := rows_lt h i hi (by omega)
  rw [List.getElem_replicate] at this
  exact this
theorem zipG_ok : ∀ {gr : Gr} {r : List Nat}, (∀ x ∈ gr, PN x.1 x.2.1 ∧ 1 ≤ x.2.2 ∧ x.2.2 ≤ 1000) → r ∈ rowsL (modL gr) → ∀ q ∈ zipG gr r, OkQ q
  | [], _, _, _, q, hq => (List.not_mem_nil hq).elim
  | (p, n, c) :: gr, r, hg, hr, q, hq => by
    rw [modL, rows_append] at hr
    simp only [List.mem_flatMap, List.mem_map] at hr
    obtain ⟨r1, h1, r2, h2, rfl⟩ := hr
    have hl : r1.length = c := by rw [rows_len h1, List.length_replicate]
    have g0 := hg (p, n, c) (List.mem_cons_self ..)
    rw [zipG, ← hl, List.take_left, List.drop_left, hl] at hq
    rcases List.mem_cons.mp hq with rfl | hq
    · refine ⟨g0.1, g0.2, Nat.le_trans (trimR_len _) (Nat.le_of_eq hl), fun v hv => rep_lt h1 v (trimR_mem hv), trimR_trim _⟩
    · exact zipG_ok (fun x hx => hg x (List.mem_cons_of_mem _ hx)) h2 q hq
theorem inOne_append (x : Int × Int) : ∀ (ms ns r t : List Nat), r.length = ms.length → inOne (ms ++ ns) x (r ++ t) = (inOne ms x r && inOne ns x t)
  | [], ns, [], t, _ => by simp [inOne]
  | m :: ms, ns, v :: r, t, h => by
    rw [List.cons_append, List.cons_append, inOne_cons, inOne_cons, inOne_append x ms ns r t (Nat.succ.inj h), Bool.and_assoc]
  | [], _, _ :: _, _, h => by simp at h
  | _ :: _, _, [], _, h => by simp at h
theorem inOne_rep (x : Int × Int) (m : Nat) : ∀ (r : List Nat), inOne (List.replicate r.length m) x r = r.all fun v => good1 m x v
  | [] => by simp [inOne]
  | v :: r => by rw [List.length_cons, List.replicate_succ, inOne_cons, inOne_rep x m r, List.all_cons]
theorem part_good {p n v : Nat} {x : Int × Int} (h : PN p n) (o : okP x) (hv : v < p ^ n) : part1 p n x.1 (mulV x.2 (p ^ n) v) = good1 (p ^ n) x v := by
  unfold part1 good1
  have hp : 1 ≤ p ^ n := Nat.pow_pos (by have := h.small; omega)
  rw [gcd_pin h o, ← mulV_eq (f := x.2) (v := v) hp]
  exact decide_eq_decide.mpr (by rw [← Int.natCast_emod]; omega)
theorem part_eq {x : Int × Int} (o : okP x) : ∀ {gr : Gr} {r : List Nat}, okG gr → r ∈ rowsL (modL gr) → partZ x.1 ((zipG gr r).map (mulE x.2)) = inOne (modL gr) x r
  | [], r, _, hr => by
    have : r = [] := by simpa [modL, rowsL] using hr
    subst this
    simp [zipG, partZ, modL, inOne]
  | (p, n, c) :: gr, r, hg, hr => by
    rw [modL, rows_append] at hr
    simp only [List.mem_flatMap, List.mem_map] at hr
    obtain ⟨r1, h1, r2, h2, rfl⟩ := hr
    have hl : r1.length = c := by rw [rows_len h1, List.length_replicate]
    have hpn : PN p n := hg (p, n, c) (List.mem_cons_self ..)
    have ih := part_eq o (gr := gr) (r := r2) (fun y hy => hg y (List.mem_cons_of_mem _ hy)) h2
    rw [modL, inOne_append x _ _ _ _ (by rw [List.length_replicate, hl]), ← ih, ← hl, inOne_rep, zipG, List.take_left, List.drop_left, List.map_cons]
    show (((trimR ((trimR r1).map (mulV x.2 (p ^ n)))).all fun v => part1 p n x.1 v) && partZ x.1 _) = _
    congr 1
    have z1 : part1 p n x.1 0 = true := by simp [part1]
    have z2 : mulV x.2 (p ^ n) 0 = 0 := by simp [mulV]
    rw [trimR_all _ z1, List.all_map, trimR_all _ (by show part1 p n x.1 (mulV x.2 (p ^ n) 0) = true; rw [z2]; exact z1)]
    rw [Bool.eq_iff_iff, List.all_eq_true, List.all_eq_true]
    have e : ∀ v ∈ r1, part1 p n x.1 (mulV x.2 (p ^ n) v) = good1 (p ^ n) x v := fun v hv => part_good hpn o (rep_lt h1 v hv)
    exact ⟨fun q v hv => by rw [← e v hv]; exact q v hv, fun q v hv => by show part1 p n x.1 (mulV x.2 (p ^ n) v) = true; rw [e v hv]; exact q v hv⟩
theorem mulE_gr (f : Int) (z : List Sq) : grZ (z.map (mulE f)) = grZ z := by
  unfold grZ
  rw [List.map_map]
  rfl
/-! ### what is refused -/
def odds : List D := [.none, .list [], .tuple [.tuple [.int 1]], .tuple [.tuple [.int (-1), .int 1]], .tuple [.tuple [.int 1, .none]], .tuple [.tuple [.bool true, .int 1]], .tuple [.tuple [.int (10 ^ 12 + 1), .int 1]], .str (Str.ofString "a")]
theorem c_bad_shape {k : Nat} {d : D} (h : d ∈ odds) (g : G) : callK tabK WW (k + 2) 29 [d] g = .ok (.bool false) g := by
  simp only [odds, List.mem_cons, List.not_mem_nil, or_false] at h
  rcases h with rfl | rfl | rfl | rfl | rfl | rfl | rfl | rfl <;> rfl
theorem q_exc {α β : Type} (c : Nat) (d : D) (g : G) (k : α → G → R β) : (R.exc c d g : R α).bind k = R.exc c d g := Eq.trans rfl rfl
theorem call_exc {np nN : Nat} {s : MS} {ρ0 : Env1} {k f c : Nat} {ds : List D} {g g' : G} {d : D} (hF : tabK[f]? = some ⟨np, nN, s⟩) (hn : ds.length = np) (h0 : ds.map (fun d => some (Ent.frz d)) ++ List.replicate (nN - np) none = ρ0) (h : exS (callK tabK WW k) WW s ρ0 g = .exc c d g') : callK tabK WW (k + 1) f ds g = .exc c d g' := by
  subst h0
  show (match tabK[f]? with | some F => runB (callK tabK WW k) WW F ds g | none => .stuck) = _
  rw [hF]
  show runB (callK tabK WW k) WW ⟨np, nN, s⟩ ds g = _
  unfold runB
  rw [if_pos hn, h]
  rfl
theorem c_need_bad {k : Nat} {d : D} (h : d ∈ odds) (g : G) : callK tabK WW (k + 3) 30 [d] g = .exc 2 d g := by
  have e := c_bad_shape (k := k) h g
  refine call_exc (ρ0 := [some (.frz d)]) rfl rfl rfl ?_
  simp [e, q_exc]
theorem c_index_bad {k : Nat} {gr : Gr} (hg : NG gr) {s : List (Int × Int)} (o : okS s) {d : D} (h : d ∈ odds) (g : G) : callK tabK WW (k + 6) 37 [encG gr, encS s, d] g = .exc 2 d g := by
  have e1 : callK tabK WW (k + 5) 7 [encG gr] g = _ := c_need_group (k := k) hg.okGG g
  have e2 : callK tabK WW (k + 5) 30 [encS s] g = _ := c_need_shape (k := k + 2) o g
  have e3 : callK tabK WW (k + 5) 30 [d] g = _ := c_need_bad (k := k + 2) h g
  refine call_exc (ρ0 := [some (.frz (encG gr)), some (.frz (encS s)), some (.frz d)]) rfl rfl rfl ?_
  simp [e1, e2, e3, q_exc]
theorem odds_ok : ∀ d ∈ odds, nod d = true ∧ d.showable = true ∧ d.depth ≤ 20 ∧ d.shown.length ≤ sizeLine := by
  intro d h
  simp only [odds, List.mem_cons, List.not_mem_nil, or_false] at h
  rcases h with rfl | rfl | rfl | rfl | rfl | rfl | rfl | rfl <;> refine ⟨by decide +kernel, by decide +kernel, by decide +kernel, by decide +kernel⟩
theorem x_tryq {call : Nat → List D → G → R D} {W f c i o : Nat} {vs : List Nat} {ρ : Env1} {g : G} {ds : List D} {d : D} (hv : evA call (varsA vs) ρ g = .ok ds g) (hc : call f ds g = .exc c d g) (ho : ρ[o]? = some (some (.frz d))) (hoi : o ≠ i) (hi : i < ρ.length) (hd : nod d = true ∧ d.showable = true ∧ d.depth ≤ 20 ∧ d.shown.length ≤ sizeLine) : exS call W (.tryq f vs c i o) ρ g = .ok (.nx, ρ.set i none) g := by
  rw [exS, hv]
  simp only [hc, ho]
  rw [if_pos ⟨trivial, trivial, hoi, hi, hd⟩]
end Mini

set_option maxRecDepth 100000
set_option maxHeartbeats 4000000
namespace Mini
open PySem L2 Evl
theorem idx_le {gr : Gr} (hg : NG gr) (hsz : szG gr ≤ 1000) {s t : List (Int × Int)} (o : okS s) (o' : okS t) : idx gr s t ≤ 1000 := by
  rw [← cnt_idx hg.ok o o']
  have h1 : cnt gr s ≤ szG gr := cnt_le
  have h2 := Nat.div_le_self (cnt gr s) (cnt gr (s ++ t))
  omega
theorem idx_one (p n c : Nat) (s t : List (Int × Int)) : idx [(p, n, c)] s t = (p ^ (st p n (s ++ t) - st p n s)) ^ c := by
  show _ ^ c * 1 = _
  rw [Nat.mul_one]
theorem NG_one {p n c : Nat} (h : PN p n) (h1 : 1 ≤ c) (h2 : c ≤ 1000) : NG [(p, n, c)] := ⟨fun x hx => by
  obtain rfl := List.mem_singleton.mp hx
  exact h, fun x hx => by
  obtain rfl := List.mem_singleton.mp hx
  exact ⟨h1, h2⟩, List.pairwise_singleton _ _, by simp⟩
theorem sz_one {p n : Nat} (h : PN p n) : szG [(p, n, 1)] ≤ 1000 := by
  have := h.small
  have e : szG [(p, n, 1)] = p ^ n := by simp [szG, modL, sizeL]
  rw [e]
  omega
theorem sl20 (xs : List D) : slD (.list xs) none (some 20) = some (.list (xs.take 20)) := by
  show some (PyData.list (cutD xs none (some 20))) = _
  have : cutD xs none (some 20) = xs.take 20 := by
    unfold cutD
    have h1 : HT.sIx xs.length 0 none = 0 := rfl
    have h2 : HT.sIx xs.length xs.length (some 20) = min 20 xs.length := by
      simp [HT.sIx]
      try omega
    rw [h1, h2]
    simp only [List.drop_zero, Nat.sub_zero]
    by_cases h : 20 ≤ xs.length
    · rw [Nat.min_eq_left h]
    · rw [Nat.min_eq_right (by omega), List.take_of_length_le (Nat.le_refl _), List.take_of_length_le (by omega)]
  rw [this]
def encZR (gr : Gr) (r : List Nat) : D := .tuple [encEl (splitR gr r), encR r]
theorem zip_rows (gr : Gr) : ∀ R : List (List Nat), zipD ((R.map (splitR gr)).map encEl) (R.map encR) = R.map (encZR gr)
  | [] => rfl
  | r :: R => by
    rw [List.map_cons, List.map_cons, List.map_cons, List.map_cons]
    show _ :: zipD _ _ = _
    rw [zip_rows gr R]
    rfl
@[simp] theorem setZR (gr : Gr) (r : List Nat) (i j : Nat) (ρ : Env1) : setT (.tp [i, j]) (encZR gr r) ρ = some ((ρ.set i (some (.frz (encEl (splitR gr r))))).set j (some (.frz (encR r)))) := Eq.trans rfl rfl
theorem e_lzip {call : Nat → List D → G → R D} {ρ : Env1} {g : G} {a b : ME} {xs ys : List D} (ha : evE call a ρ g = .ok (.tuple xs) g) (hb : evE call b ρ g = .ok (.list ys) g) (hl : xs.length = ys.length) (hm : xs.length < 1000000) : evE call (.lzip a b) ρ g = .ok (.list (zipD xs ys)) g := by
  rw [evE, ha, q_bind, hb, q_bind]
  show (if xs.length = ys.length ∧ xs.length < 1000000 then _ else _) = _
  rw [if_pos ⟨hl, hm⟩]

def t_1 : MS := (.asg (.tp [3, 4, 5]) (.tup (.cons (.call 47 (.cons (.var 1) .nil)) (.cons (.call 47 (.cons (.var 1) .nil)) (.cons (.call 47 (.cons (.var 1) .nil)) .nil)))))
def t_2 : MS := (.asg (.nm 6) (.call 43 (.cons (.var 1) (.cons (.cst (PyData.int 60)) .nil))))
def t_3 : MS := (.asg (.nm 7) (.call 49 (.cons (.var 6) (.cons (.var 3) (.cons (.var 4) .nil)))))
def t_4 : MS := (.ife (.or (.not (.call 41 (.cons (.call 37 (.cons (.var 6) (.cons (.var 3) (.cons (.var 4) .nil)))) (.cons (.var 7) .nil)))) (.not (.call 53 (.cons (.var 1) (.cons (.var 3) (.cons (.var 4) .nil)))))) (.ret (.cst (PyData.bool false))) .skip)
def t_5 : MS := (.ife (.cmp .ne (.bin .mul (.var 7) (.call 49 (.cons (.var 6) (.cons (.bin .add (.var 3) (.var 4)) (.cons (.var 5) .nil))))) (.call 37 (.cons (.var 6) (.cons (.var 3) (.cons (.bin .add (.var 4) (.var 5)) .nil))))) (.ret (.cst (PyData.bool false))) .skip)
def t_6 : MS := (.asg (.nm 8) (.call 43 (.cons (.var 1) (.cons (.cst (PyData.int 12)) .nil))))
def t_7 : MS := (.ife (.not (.call 41 (.cons (.call 37 (.cons (.call 10 (.cons (.var 6) (.cons (.var 8) .nil))) (.cons (.var 3) (.cons (.var 4) .nil)))) (.cons (.bin .mul (.var 7) (.call 49 (.cons (.var 8) (.cons (.var 3) (.cons (.var 4) .nil))))) .nil)))) (.ret (.cst (PyData.bool false))) .skip)
def t_8 : MS := (.asg (.nm 9) (.tup (.cons (.cst (PyData.str (Str.ofString "ring"))) (.cons (.call 40 (.cons (.var 1) (.cons (.lst (.cons (.cst (PyData.int 2)) (.cons (.cst (PyData.int 3)) .nil))) .nil))) (.cons (.bin .add (.cst (PyData.int 1)) (.call 39 (.cons (.var 1) (.cons (.cst (PyData.int 3)) .nil)))) .nil)))))
def t_9 : MS := (.asg (.tp [10, 11]) (.tup (.cons (.call 49 (.cons (.tup (.cons (.tup (.cons (.var 9) (.cons (.cst (PyData.int 1)) .nil))) .nil)) (.cons (.var 3) (.cons (.var 4) .nil)))) (.cons (.bin .add (.cst (PyData.int 1)) (.call 39 (.cons (.var 1) (.cons (.cst (PyData.int 30)) .nil)))) .nil))))
def t_10 : MS := (.ife (.not (.call 41 (.cons (.call 37 (.cons (.tup (.cons (.tup (.cons (.var 9) (.cons (.var 11) .nil))) .nil)) (.cons (.var 3) (.cons (.var 4) .nil)))) (.cons (.call 42 (.cons (.var 10) (.cons (.var 11) .nil))) .nil)))) (.ret (.cst (PyData.bool false))) .skip)
def t_11 : MS := (.ife (.not (.call 41 (.cons (.call 37 (.cons (.tup (.cons (.tup (.cons (.var 9) (.cons (.cst (PyData.str (Str.ofString "many"))) .nil))) .nil)) (.cons (.var 3) (.cons (.var 4) .nil)))) (.cons (.ifx (.cmp .eq (.var 10) (.cst (PyData.int 1))) (.cst (PyData.int 1)) (.cst (PyData.str (Str.ofString "many")))) .nil)))) (.ret (.cst (PyData.bool false))) .skip)
def t_12 : MS := (.asg (.nm 12) (.call 44 (.cons (.var 6) .nil)))
def t_13 : MS := (.forr (.tp [13, 14]) (.seqL (.sl (.lzip (.call 28 (.cons (.var 6) .nil)) (.call 45 (.cons (.var 12) .nil))) .no (.so (.cst (PyData.int 20))))) (.ife (.and (.cmp .eq (.lc [17] (.nm 17) (.seqT (.var 3)) (.not (.call 26 (.cons (.var 6) (.cons (.ix (.var 17) (.cst (PyData.int 0))) (.cons (.call 25 (.cons (.var 6) (.cons (.ix (.var 17) (.cst (PyData.int 1))) (.cons (.var 13) .nil)))) .nil))))) (.var 17)) (.lst .nil)) (.not (.call 48 (.cons (.var 12) (.cons (.var 3) (.cons (.var 14) .nil)))))) (.ret (.cst (PyData.bool false))) .skip))
def t_14 : MS := (.forr (.nm 15) (.seqL (.lst (.cons (.cst PyData.none) (.cons (.lst .nil) (.cons (.tup (.cons (.tup (.cons (.cst (PyData.int 1)) .nil)) .nil)) (.cons (.tup (.cons (.tup (.cons (.neg (.cst (PyData.int 1))) (.cons (.cst (PyData.int 1)) .nil))) .nil)) (.cons (.tup (.cons (.tup (.cons (.cst (PyData.int 1)) (.cons (.cst PyData.none) .nil))) .nil)) (.cons (.tup (.cons (.tup (.cons (.cst (PyData.bool true)) (.cons (.cst (PyData.int 1)) .nil))) .nil)) (.cons (.tup (.cons (.tup (.cons (.bin .add (.bin .pow (.cst (PyData.int 10)) (.cst (PyData.int 12))) (.cst (PyData.int 1))) (.cons (.cst (PyData.int 1)) .nil))) .nil)) (.cons (.cst (PyData.str (Str.ofString "a"))) .nil)))))))))) (.tryq 37 [6, 3, 15] 2 16 15))
def turnB : MS := (.seq t_1 (.seq t_2 (.seq t_3 (.seq t_4 (.seq t_5 (.seq t_6 (.seq t_7 (.seq t_8 (.seq t_9 (.seq t_10 (.seq t_11 (.seq t_12 (.seq t_13 t_14)))))))))))))
theorem law_body : f_law.body = .seq (.forr (.nm 2) (.rng1 (.cst (PyData.int 4))) turnB) (.ret (.cst (PyData.bool true))) := rfl
section
variable {k : Nat} {tv : D} {y3 y4 y5 y6 y7 y8 y9 y10 y11 y12 y13 y14 y15 : Option Ent} {s t u : List (Int × Int)} {gr gr2 : Gr} {p n many w : Nat} {g : G}
theorem st_1 {N : Nat} (h : Gok N g) (hn : N + 30 ≤ 100000) : ∃ s t u g', exS (callK tabK WW (k + 8)) WW t_1 [none, some (.frz (.dict [])), some (.frz tv), y3, y4, y5, y6, y7, y8, y9, y10, y11, y12, y13, y14, y15, none, none] g = .ok (.nx, [none, some (.frz (.dict [])), some (.frz tv), some (.frz (encS s)), some (.frz (encS t)), some (.frz (encS u)), y6, y7, y8, y9, y10, y11, y12, y13, y14, y15, none, none]) g' ∧ okS s ∧ okS t ∧ okS u ∧ s.length ≤ 3 ∧ t.length ≤ 3 ∧ u.length ≤ 3 ∧ Gok (N + 21) g' := by
  obtain ⟨s, g1, e1, o1, l1, h1⟩ := shape_go (k := k + 5) h (by omega)
  obtain ⟨t, g2, e2, o2, l2, h2⟩ := shape_go (k := k + 5) h1 (by omega)
  obtain ⟨u, g3, e3, o3, l3, h3⟩ := shape_go (k := k + 5) h2 (by omega)
  refine ⟨s, t, u, g3, ?_, o1, o2, o3, l1, l2, l3, h3⟩
  simp only [t_1, x_asg, e_tup, e_cons, e_call, e_var, e_nil, List.getElem?_cons_zero, List.getElem?_cons_succ, varD_frz, q_bind, q_of, e1, e2, e3, List.length_cons, List.length_nil, Nat.zero_add, Nat.reduceAdd, sl3, if_true, t_tp, t_cons, t_nil, List.set_cons_zero, List.set_cons_succ]
theorem st_2 {N : Nat} (h : Gok N g) (hn : N + 30 ≤ 100000) : ∃ gr g', exS (callK tabK WW (k + 8)) WW t_2 [none, some (.frz (.dict [])), some (.frz tv), some (.frz (encS s)), some (.frz (encS t)), some (.frz (encS u)), y6, y7, y8, y9, y10, y11, y12, y13, y14, y15, none, none] g = .ok (.nx, [none, some (.frz (.dict [])), some (.frz tv), some (.frz (encS s)), some (.frz (encS t)), some (.frz (encS u)), some (.frz (encG gr)), y7, y8, y9, y10, y11, y12, y13, y14, y15, none, none]) g' ∧ NG gr ∧ gr.length ≤ 3 ∧ (∀ x ∈ gr, x.2.2 ≤ 6) ∧ szG gr ≤ 60 ∧ Gok (N + 13) g' := by
  obtain ⟨gr, g1, e1, h1⟩ := group_go (k := k + 5) h (by omega) (most := 60) (by omega) (by omega)
  have e1' : callK tabK WW (k + 8) 43 [.dict [], .int 60] g = _ := e1
  refine ⟨gr, g1, ?_, h1⟩
  simp only [t_2, x_asg, e_cons, e_call, e_var, e_cst, e_nil, List.getElem?_cons_zero, List.getElem?_cons_succ, varD_frz, q_bind, q_of, e1', t_nm, List.set_cons_zero, List.set_cons_succ]
theorem st_3 (hg : NG gr) (hsz : szG gr ≤ 1000) (o : okS s) (o' : okS t) : exS (callK tabK WW (k + 8)) WW t_3 [none, some (.frz (.dict [])), some (.frz tv), some (.frz (encS s)), some (.frz (encS t)), some (.frz (encS u)), some (.frz (encG gr)), y7, y8, y9, y10, y11, y12, y13, y14, y15, none, none] g = .ok (.nx, [none, some (.frz (.dict [])), some (.frz tv), some (.frz (encS s)), some (.frz (encS t)), some (.frz (encS u)), some (.frz (encG gr)), some (.frz (iD (idx gr s t))), y8, y9, y10, y11, y12, y13, y14, y15, none, none]) g := by
  have e1 : callK tabK WW (k + 8) 49 [encG gr, encS s, encS t] g = _ := c_law_count (k := k + 5) hg hsz o o' g
  simp only [t_3, x_asg, e_cons, e_call, e_var, e_cst, e_nil, List.getElem?_cons_zero, List.getElem?_cons_succ, varD_frz, q_bind, q_of, e1, t_nm, List.set_cons_zero, List.set_cons_succ]
theorem st_4 {N : Nat} (h : Gok N g) (hn : N + 30 ≤ 100000) (hg : NG gr) (o : okS s) (o' : okS t) (ls : s.length ≤ 3) (lt : t.length ≤ 3) : ∃ g', exS (callK tabK WW (k + 8)) WW t_4 [none, some (.frz (.dict [])), some (.frz tv), some (.frz (encS s)), some (.frz (encS t)), some (.frz (encS u)), some (.frz (encG gr)), some (.frz (iD (idx gr s t))), y8, y9, y10, y11, y12, y13, y14, y15, none, none] g = .ok (.nx, [none, some (.frz (.dict [])), some (.frz tv), some (.frz (encS s)), some (.frz (encS t)), some (.frz (encS u)), some (.frz (encG gr)), some (.frz (iD (idx gr s t))), y8, y9, y10, y11, y12, y13, y14, y15, none, none]) g' ∧ Gok (N + 1) g' := by
  obtain ⟨g1, e2, h1⟩ := endless_go (k := k) h (by omega) o o' (by omega) (by omega)
  have e1 : callK tabK WW (k + 8) 37 [encG gr, encS s, encS t] g = .ok (iD (idx gr s t)) g := c_index_of (k := k + 2) hg o o' (by omega) g
  have e3 : callK tabK WW (k + 8) 41 [iD (idx gr s t), iD (idx gr s t)] g = _ := c_like_int (k := k + 7) _ g
  refine ⟨g1, ?_, h1⟩
  simp only [t_4, x_ife, e_or, e_not, e_cons, e_call, e_var, e_cst, e_nil, List.getElem?_cons_zero, List.getElem?_cons_succ, varD_frz, q_bind, q_of, e1, e3, e2, q_asB, Bool.not_true, Bool.false_eq_true, if_false, x_skip]
theorem st_5 (hg : NG gr) (hsz : szG gr ≤ 1000) (o : okS s) (o' : okS t) (o2 : okS u) (ls : s.length ≤ 3) (lt : t.length ≤ 3) (lu : u.length ≤ 3) : exS (callK tabK WW (k + 8)) WW t_5 [none, some (.frz (.dict [])), some (.frz tv), some (.frz (encS s)), some (.frz (encS t)), some (.frz (encS u)), some (.frz (encG gr)), some (.frz (iD (idx gr s t))), y8, y9, y10, y11, y12, y13, y14, y15, none, none] g = .ok (.nx, [none, some (.frz (.dict [])), some (.frz tv), some (.frz (encS s)), some (.frz (encS t)), some (.frz (encS u)), some (.frz (encG gr)), some (.frz (iD (idx gr s t))), y8, y9, y10, y11, y12, y13, y14, y15, none, none]) g := by
  have a1 := addS (s := s) (t := t) (by omega)
  have a2 := addS (s := t) (t := u) (by omega)
  have e1 : callK tabK WW (k + 8) 49 [encG gr, encS (s ++ t), encS u] g = .ok (iD (idx gr (s ++ t) u)) g := c_law_count (k := k + 5) hg hsz (o.append o') o2 g
  have e2 : callK tabK WW (k + 8) 37 [encG gr, encS s, encS (t ++ u)] g = .ok (iD (idx gr s (t ++ u))) g := c_index_of (k := k + 2) hg o (o'.append o2) (by rw [List.length_append]; omega) g
  have hb := idx_le hg hsz o o'
  have m1 : binD .mul (iD (idx gr s t)) (iD (idx gr (s ++ t) u)) = some (iD (idx gr s (t ++ u))) := by
    rw [b_mul _ _ (okMul_l (by omega) (by omega)), ← idx_chain, ← Int.natCast_mul]
  simp only [t_5, x_ife, e_cmp, e_bin, e_cons, e_call, e_var, e_cst, e_nil, List.getElem?_cons_zero, List.getElem?_cons_succ, varD_frz, q_bind, q_of, a1, a2, e1, e2, m1, k_ne, decide_true, Bool.not_true, q_asB, Bool.false_eq_true, if_false, x_skip]
theorem st_6 {N : Nat} (h : Gok N g) (hn : N + 30 ≤ 100000) : ∃ gr2 g', exS (callK tabK WW (k + 8)) WW t_6 [none, some (.frz (.dict [])), some (.frz tv), some (.frz (encS s)), some (.frz (encS t)), some (.frz (encS u)), some (.frz (encG gr)), some (.frz (iD (idx gr s t))), y8, y9, y10, y11, y12, y13, y14, y15, none, none] g = .ok (.nx, [none, some (.frz (.dict [])), some (.frz tv), some (.frz (encS s)), some (.frz (encS t)), some (.frz (encS u)), some (.frz (encG gr)), some (.frz (iD (idx gr s t))), some (.frz (encG gr2)), y9, y10, y11, y12, y13, y14, y15, none, none]) g' ∧ NG gr2 ∧ gr2.length ≤ 3 ∧ (∀ x ∈ gr2, x.2.2 ≤ 6) ∧ szG gr2 ≤ 12 ∧ Gok (N + 13) g' := by
  obtain ⟨gr, g1, e1, h1⟩ := group_go (k := k + 5) h (by omega) (most := 12) (by omega) (by omega)
  have e1' : callK tabK WW (k + 8) 43 [.dict [], .int 12] g = _ := e1
  refine ⟨gr, g1, ?_, h1⟩
  simp only [t_6, x_asg, e_cons, e_call, e_var, e_cst, e_nil, List.getElem?_cons_zero, List.getElem?_cons_succ, varD_frz, q_bind, q_of, e1', t_nm, List.set_cons_zero, List.set_cons_succ]
theorem st_7 (hg : NG gr) (hsz : szG gr ≤ 1000) (hg2 : NG gr2) (hsz2 : szG gr2 ≤ 1000) (hd : DI 1000 12 (addAll [] (gr ++ gr2))) (o : okS s) (o' : okS t) (ls : s.length ≤ 3) (lt : t.length ≤ 3) : exS (callK tabK WW (k + 8)) WW t_7 [none, some (.frz (.dict [])), some (.frz tv), some (.frz (encS s)), some (.frz (encS t)), some (.frz (encS u)), some (.frz (encG gr)), some (.frz (iD (idx gr s t))), some (.frz (encG gr2)), y9, y10, y11, y12, y13, y14, y15, none, none] g = .ok (.nx, [none, some (.frz (.dict [])), some (.frz tv), some (.frz (encS s)), some (.frz (encS t)), some (.frz (encS u)), some (.frz (encG gr)), some (.frz (iD (idx gr s t))), some (.frz (encG gr2)), y9, y10, y11, y12, y13, y14, y15, none, none]) g := by
  have e1 : callK tabK WW (k + 8) 10 [encG gr, encG gr2] g = _ := c_sum (k := k + 2) hg hg2 hd g
  have e2 : callK tabK WW (k + 8) 37 [encG (sumG gr gr2), encS s, encS t] g = .ok (iD (idx (sumG gr gr2) s t)) g := c_index_of (k := k + 2) (NG_sort hd) o o' (by omega) g
  have e3 : callK tabK WW (k + 8) 49 [encG gr2, encS s, encS t] g = .ok (iD (idx gr2 s t)) g := c_law_count (k := k + 5) hg2 hsz2 o o' g
  have hb := idx_le hg hsz o o'
  have m1 : binD .mul (iD (idx gr s t)) (iD (idx gr2 s t)) = some (iD (idx (sumG gr gr2) s t)) := by
    unfold idx
    rw [sumG_wprod, b_mul _ _ (okMul_l (by unfold idx at hb; omega) (by unfold idx at hb; omega)), ← Int.natCast_mul]
  refine x_like (d := iD (idx (sumG gr gr2) s t)) ?_ ?_ (c_like_int (k := k + 7) _ g)
  · simp only [e_cons, e_call, e_var, e_nil, List.getElem?_cons_zero, List.getElem?_cons_succ, varD_frz, q_bind, q_of, e1, e2]
  · simp only [e_bin, e_cons, e_call, e_var, e_nil, List.getElem?_cons_zero, List.getElem?_cons_succ, varD_frz, q_bind, q_of, e3, m1]
theorem st_8 {N : Nat} (h : Gok N g) (hn : N + 30 ≤ 100000) : ∃ p n g', exS (callK tabK WW (k + 8)) WW t_8 [none, some (.frz (.dict [])), some (.frz tv), some (.frz (encS s)), some (.frz (encS t)), some (.frz (encS u)), some (.frz (encG gr)), some (.frz (iD (idx gr s t))), some (.frz (encG gr2)), y9, y10, y11, y12, y13, y14, y15, none, none] g = .ok (.nx, [none, some (.frz (.dict [])), some (.frz tv), some (.frz (encS s)), some (.frz (encS t)), some (.frz (encS u)), some (.frz (encG gr)), some (.frz (iD (idx gr s t))), some (.frz (encG gr2)), some (.frz (ringD p n)), y10, y11, y12, y13, y14, y15, none, none]) g' ∧ PN p n ∧ Gok (N + 2) g' := by
  obtain ⟨pd, g1, e1, ⟨p', hp', rfl⟩, h1⟩ := of_go (k := k + 6) h (by omega) [2, 3] (by decide) (by decide)
  obtain ⟨ad, g2, e2, ⟨a, rfl, a1, a2⟩, h2⟩ := next_go (k := k + 7) h1 (by omega) (many := 3) (by omega) (by omega)
  have e1' : callK tabK WW (k + 8) 40 [.dict [], .list [.int 2, .int 3]] g = _ := e1
  obtain ⟨pw, rfl⟩ : ∃ q : Nat, a = (q : Int) := ⟨a.toNat, (Int.toNat_of_nonneg a1).symm⟩
  have c1 : (1 : Int) + (pw : Int) = ((1 + pw : Nat) : Int) := by omega
  have hpw : 1 + pw ∈ [1, 2, 3] := by
    have : pw = 0 ∨ pw = 1 ∨ pw = 2 := by omega
    rcases this with rfl | rfl | rfl <;> decide
  obtain ⟨p, hp, rfl⟩ : ∃ p : Nat, p ∈ [2, 3, 5, 7] ∧ p' = (p : Int) := by
    simp only [List.mem_cons, List.not_mem_nil, or_false] at hp'
    rcases hp' with rfl | rfl
    · exact ⟨2, by decide, rfl⟩
    · exact ⟨3, by decide, rfl⟩
  refine ⟨p, 1 + pw, g2, ?_, ⟨hp, hpw⟩, h2⟩
  simp only [t_8, x_asg, e_tup, e_bin, e_cons, e_call, e_var, e_cst, e_lst, e_nil, List.getElem?_cons_zero, List.getElem?_cons_succ, varD_frz, q_bind, q_of, List.length_cons, List.length_nil, Nat.zero_add, Nat.reduceAdd, sl2, sl3, if_true, e1', e2, b_add, c1, t_nm, List.set_cons_zero, List.set_cons_succ]
  rfl
theorem st_9 {N : Nat} (h : Gok N g) (hn : N + 30 ≤ 100000) (hp : PN p n) (o : okS s) (o' : okS t) : ∃ w many g', exS (callK tabK WW (k + 8)) WW t_9 [none, some (.frz (.dict [])), some (.frz tv), some (.frz (encS s)), some (.frz (encS t)), some (.frz (encS u)), some (.frz (encG gr)), some (.frz (iD (idx gr s t))), some (.frz (encG gr2)), some (.frz (ringD p n)), y10, y11, y12, y13, y14, y15, none, none] g = .ok (.nx, [none, some (.frz (.dict [])), some (.frz tv), some (.frz (encS s)), some (.frz (encS t)), some (.frz (encS u)), some (.frz (encG gr)), some (.frz (iD (idx gr s t))), some (.frz (encG gr2)), some (.frz (ringD p n)), some (.frz (iD w)), some (.frz (iD many)), y12, y13, y14, y15, none, none]) g' ∧ w = p ^ (st p n (s ++ t) - st p n s) ∧ 1 ≤ many ∧ many ≤ 30 ∧ Gok (N + 1) g' := by
  have e1 : callK tabK WW (k + 8) 49 [encG [(p, n, 1)], encS s, encS t] g = .ok (iD (idx [(p, n, 1)] s t)) g := c_law_count (k := k + 5) (NG_one hp (by omega) (by omega)) (sz_one hp) o o' g
  rw [idx_one, Nat.pow_one] at e1
  have e1' : callK tabK WW (k + 8) 49 [.tuple [.tuple [ringD p n, .int 1]], encS s, encS t] g = _ := e1
  obtain ⟨ad, g2, e2, ⟨a, rfl, a1, a2⟩, h2⟩ := next_go (k := k + 7) h (by omega) (many := 30) (by omega) (by omega)
  obtain ⟨q, rfl⟩ : ∃ q : Nat, a = (q : Int) := ⟨a.toNat, (Int.toNat_of_nonneg a1).symm⟩
  have c1 : (1 : Int) + (q : Int) = ((1 + q : Nat) : Int) := by omega
  refine ⟨_, 1 + q, g2, ?_, rfl, by omega, by omega, h2⟩
  simp only [t_9, x_asg, e_tup, e_bin, e_cons, e_call, e_var, e_cst, e_nil, List.getElem?_cons_zero, List.getElem?_cons_succ, varD_frz, q_bind, q_of, List.length_cons, List.length_nil, Nat.zero_add, Nat.reduceAdd, sl1, sl2, if_true, e1', e2, b_add, c1, t_tp, t_cons, t_nil, List.set_cons_zero, List.set_cons_succ]
theorem st_10 (hp : PN p n) (o : okS s) (o' : okS t) (ls : s.length ≤ 3) (lt : t.length ≤ 3) (hw : w = p ^ (st p n (s ++ t) - st p n s)) (h1 : 1 ≤ many) (h2 : many ≤ 30) : exS (callK tabK WW (k + 8)) WW t_10 [none, some (.frz (.dict [])), some (.frz tv), some (.frz (encS s)), some (.frz (encS t)), some (.frz (encS u)), some (.frz (encG gr)), some (.frz (iD (idx gr s t))), some (.frz (encG gr2)), some (.frz (ringD p n)), some (.frz (iD w)), some (.frz (iD many)), y12, y13, y14, y15, none, none] g = .ok (.nx, [none, some (.frz (.dict [])), some (.frz tv), some (.frz (encS s)), some (.frz (encS t)), some (.frz (encS u)), some (.frz (encG gr)), some (.frz (iD (idx gr s t))), some (.frz (encG gr2)), some (.frz (ringD p n)), some (.frz (iD w)), some (.frz (iD many)), y12, y13, y14, y15, none, none]) g := by
  have e1 : callK tabK WW (k + 8) 37 [encG [(p, n, many)], encS s, encS t] g = .ok (iD (idx [(p, n, many)] s t)) g := c_index_of (k := k + 2) (NG_one hp h1 (by omega)) o o' (by omega) g
  rw [idx_one, ← hw] at e1
  have e1' : callK tabK WW (k + 8) 37 [.tuple [.tuple [ringD p n, iD many]], encS s, encS t] g = _ := e1
  have hs := hp.small
  have hwl : w ≤ 343 := by
    rw [hw]
    refine Nat.le_trans (Nat.pow_le_pow_right (by omega) ?_) hs.2.2.2.2
    have := st_le hp (o.append o')
    omega
  have e2 : callK tabK WW (k + 8) 42 [iD w, iD many] g = .ok (iD (w ^ many)) g := c_power (k := k + 7) (by omega) (by omega) g
  refine x_like (d := iD (w ^ many)) ?_ ?_ (c_like_int (k := k + 7) _ g)
  · simp only [e_tup, e_cons, e_call, e_var, e_nil, List.getElem?_cons_zero, List.getElem?_cons_succ, varD_frz, q_bind, q_of, List.length_cons, List.length_nil, Nat.zero_add, Nat.reduceAdd, sl1, sl2, if_true, e1']
  · simp only [e_cons, e_call, e_var, e_nil, List.getElem?_cons_zero, List.getElem?_cons_succ, varD_frz, q_bind, q_of, e2]
theorem st_11 (hp : PN p n) (o : okS s) (o' : okS t) (ls : s.length ≤ 3) (lt : t.length ≤ 3) (hw : w = p ^ (st p n (s ++ t) - st p n s)) : exS (callK tabK WW (k + 8)) WW t_11 [none, some (.frz (.dict [])), some (.frz tv), some (.frz (encS s)), some (.frz (encS t)), some (.frz (encS u)), some (.frz (encG gr)), some (.frz (iD (idx gr s t))), some (.frz (encG gr2)), some (.frz (ringD p n)), some (.frz (iD w)), some (.frz (iD many)), y12, y13, y14, y15, none, none] g = .ok (.nx, [none, some (.frz (.dict [])), some (.frz tv), some (.frz (encS s)), some (.frz (encS t)), some (.frz (encS u)), some (.frz (encG gr)), some (.frz (iD (idx gr s t))), some (.frz (encG gr2)), some (.frz (ringD p n)), some (.frz (iD w)), some (.frz (iD many)), y12, y13, y14, y15, none, none]) g := by
  have hs := hp.small
  have hwl : w ≤ 343 := by
    rw [hw]
    refine Nat.le_trans (Nat.pow_le_pow_right (by omega) ?_) hs.2.2.2.2
    have := st_le hp (o.append o')
    omega
  have e1 : callK tabK WW (k + 8) 37 [encGG [(ringD p n, manyD)], encS s, encS t] g = .ok (oneIdx (iD w) manyD) g := c_one (k := k + 2) (OkK.ring hp) OkC.many (.inr rfl) o o' (.inl ⟨w, rfl, by omega⟩) g fun k => by
    rw [hw]
    exact c_in_ring hp o o' (by omega) g
  have e1' : callK tabK WW (k + 8) 37 [.tuple [.tuple [ringD p n, manyD]], encS s, encS t] g = _ := e1
  by_cases c1 : w = 1
  · have e2 : oneIdx (iD w) manyD = .int 1 := by simp [oneIdx, c1]
    rw [e2] at e1'
    refine x_like (d := .int 1) ?_ ?_ (c_like_int (k := k + 7) _ g)
    · simp only [e_tup, e_cons, e_call, e_var, e_cst, e_nil, List.getElem?_cons_zero, List.getElem?_cons_succ, varD_frz, q_bind, q_of, List.length_cons, List.length_nil, Nat.zero_add, Nat.reduceAdd, sl1, sl2, if_true, e1']
    · have c1' : (w : Int) = 1 := by omega
      simp only [e_ifx, e_cmp, e_cst, e_var, List.getElem?_cons_zero, List.getElem?_cons_succ, varD_frz, q_bind, q_of, k_eq, decide_eq_true c1', q_asB, if_true]
  · have c1' : ¬ ((w : Int) = 1) := by omega
    have e2 : oneIdx (iD w) manyD = manyD := by simp [oneIdx, c1']
    rw [e2] at e1'
    refine x_like (d := manyD) ?_ ?_ (c_like_many (k := k + 7) g)
    · simp only [e_tup, e_cons, e_call, e_var, e_cst, e_nil, List.getElem?_cons_zero, List.getElem?_cons_succ, varD_frz, q_bind, q_of, List.length_cons, List.length_nil, Nat.zero_add, Nat.reduceAdd, sl1, sl2, if_true, e1']
    · simp only [e_ifx, e_cmp, e_cst, e_var, List.getElem?_cons_zero, List.getElem?_cons_succ, varD_frz, q_bind, q_of, k_eq, decide_eq_false c1', q_asB, Bool.false_eq_true, if_false]
theorem st_12 (hg : NG gr) : exS (callK tabK WW (k + 8)) WW t_12 [none, some (.frz (.dict [])), some (.frz tv), some (.frz (encS s)), some (.frz (encS t)), some (.frz (encS u)), some (.frz (encG gr)), some (.frz (iD (idx gr s t))), some (.frz (encG gr2)), some (.frz (ringD p n)), some (.frz (iD w)), some (.frz (iD many)), y12, y13, y14, y15, none, none] g = .ok (.nx, [none, some (.frz (.dict [])), some (.frz tv), some (.frz (encS s)), some (.frz (encS t)), some (.frz (encS u)), some (.frz (encG gr)), some (.frz (iD (idx gr s t))), some (.frz (encG gr2)), some (.frz (ringD p n)), some (.frz (iD w)), some (.frz (iD many)), some (.frz (encL (modL gr))), y13, y14, y15, none, none]) g := by
  have e1 : callK tabK WW (k + 8) 44 [encG gr] g = _ := c_moduli (k := k + 6) hg g
  simp only [t_12, x_asg, e_cons, e_call, e_var, e_nil, List.getElem?_cons_zero, List.getElem?_cons_succ, varD_frz, q_bind, q_of, e1, t_nm, List.set_cons_zero, List.set_cons_succ]
theorem el_turn (hg : NG gr) (o : okS s) (hs : s.length < 1000000) {r : List Nat} (hr : r ∈ rowsL (modL gr)) {z13 z14 : Option Ent} : forF (callK tabK WW (k + 8)) WW (.tp [13, 14]) (.ife (.and (.cmp .eq (.lc [17] (.nm 17) (.seqT (.var 3)) (.not (.call 26 (.cons (.var 6) (.cons (.ix (.var 17) (.cst (PyData.int 0))) (.cons (.call 25 (.cons (.var 6) (.cons (.ix (.var 17) (.cst (PyData.int 1))) (.cons (.var 13) .nil)))) .nil))))) (.var 17)) (.lst .nil)) (.not (.call 48 (.cons (.var 12) (.cons (.var 3) (.cons (.var 14) .nil)))))) (.ret (.cst (PyData.bool false))) .skip) (encZR gr r) [none, some (.frz (.dict [])), some (.frz tv), some (.frz (encS s)), some (.frz (encS t)), some (.frz (encS u)), some (.frz (encG gr)), some (.frz (iD (idx gr s t))), some (.frz (encG gr2)), some (.frz (ringD p n)), some (.frz (iD w)), some (.frz (iD many)), some (.frz (encL (modL gr))), z13, z14, y15, none, none] g = .ok (.nx, [none, some (.frz (.dict [])), some (.frz tv), some (.frz (encS s)), some (.frz (encS t)), some (.frz (encS u)), some (.frz (encG gr)), some (.frz (iD (idx gr s t))), some (.frz (encG gr2)), some (.frz (ringD p n)), some (.frz (iD w)), some (.frz (iD many)), some (.frz (encL (modL gr))), some (.frz (encEl (splitR gr r))), some (.frz (encR r)), y15, none, none]) g := by
  have hz : ∀ q ∈ zipG gr r, OkQ q := zipG_ok (fun x hx => ⟨hg.ok x hx, hg.cop x hx⟩) hr
  have l1 : evE (callK tabK WW (k + 8)) (.lc [17] (.nm 17) (.seqT (.var 3)) (.not (.call 26 (.cons (.var 6) (.cons (.ix (.var 17) (.cst (PyData.int 0))) (.cons (.call 25 (.cons (.var 6) (.cons (.ix (.var 17) (.cst (PyData.int 1))) (.cons (.var 13) .nil)))) .nil))))) (.var 17)) [none, some (.frz (.dict [])), some (.frz tv), some (.frz (encS s)), some (.frz (encS t)), some (.frz (encS u)), some (.frz (encG gr)), some (.frz (iD (idx gr s t))), some (.frz (encG gr2)), some (.frz (ringD p n)), some (.frz (iD w)), some (.frz (iD many)), some (.frz (encL (modL gr))), some (.frz (encEl (splitR gr r))), some (.frz (encR r)), y15, none, none] g = .ok (.list ((s.filter fun x => !inOne (modL gr) x r).map encP)) g := by
    have hsl : s.length < 1000000 := hs
    refine lc_filt encP encP _ (by simp) hsl fun x hx => ?_
    have ob := (o x hx).b
    have e1 : callK tabK WW (k + 8) 25 [encG gr, .int x.2, encEl (splitR gr r)] g = .ok (encEl (elZ ((zipG gr r).map (mulE x.2)))) g := by
      have := c_many_times (k := k + 1) (z := zipG gr r) (by rw [zipG_gr]; exact hg) hz (f := x.2) ⟨ob.2.2.1, ob.2.2.2⟩ g
      rw [zipG_gr, zipG_el] at this
      exact this
    have e2 : callK tabK WW (k + 8) 26 [encG gr, .int x.1, encEl (elZ ((zipG gr r).map (mulE x.2)))] g = .ok (.bool (inOne (modL gr) x r)) g := by
      have := c_divides (k := k + 1) (z := (zipG gr r).map (mulE x.2)) (by rw [mulE_gr, zipG_gr]; exact hg) (fun q hq => by
        obtain ⟨q', hq', rfl⟩ := List.mem_map.mp hq
        exact (hz q' hq').mul x.2) (b := x.1) ⟨ob.1, ob.2.1⟩ g
      rw [mulE_gr, zipG_gr, part_eq (o x hx) hg.ok hr] at this
      exact this
    cases hi : inOne (modL gr) x r <;> rw [hi] at e2 <;> simp only [lcE, t_nm, w_cons, w_nil, List.set_cons_zero, List.set_cons_succ, e_not, e_call, e_cons, e_var, e_ix, e_cst, e_nil, List.getElem?_cons_zero, List.getElem?_cons_succ, varD_frz, q_bind, q_of, pd0, pd1, e1, e2, q_asB, Bool.not_true, Bool.not_false, Bool.false_eq_true, if_true, if_false]
  have en := eq_nilP (s.filter fun x => !inOne (modL gr) x r)
  rw [filter_not_nil (fun x => inOne (modL gr) x r), ← inRow_all (rows_len hr) s] at en
  have e3 : callK tabK WW (k + 8) 48 [encL (modL gr), encS s, encR r] g = _ := c_law_in (k := k + 6) (modL_b hg) (by have := modL_le hg; omega) (rows_len hr) o g
  simp only [forF, setZR, q_of, q_bind, List.set_cons_zero, List.set_cons_succ]
  rw [x_ife, e_and, e_cmp, l1]
  cases hi : inRow (modL gr) s r <;> rw [hi] at en e3 <;> simp only [e_lst, e_nil, List.length_nil, sl0, if_true, en, e_not, e_call, e_cons, e_var, e3, List.getElem?_cons_zero, List.getElem?_cons_succ, varD_frz, q_bind, q_of, q_asB, Bool.not_true, Bool.not_false, Bool.false_eq_true, if_false, x_skip]
theorem st_13 (hg : NG gr) (hsz : szG gr ≤ 1000) (o : okS s) (hs : s.length ≤ 3) : ∃ z13 z14, exS (callK tabK WW (k + 8)) WW t_13 [none, some (.frz (.dict [])), some (.frz tv), some (.frz (encS s)), some (.frz (encS t)), some (.frz (encS u)), some (.frz (encG gr)), some (.frz (iD (idx gr s t))), some (.frz (encG gr2)), some (.frz (ringD p n)), some (.frz (iD w)), some (.frz (iD many)), some (.frz (encL (modL gr))), y13, y14, y15, none, none] g = .ok (.nx, [none, some (.frz (.dict [])), some (.frz tv), some (.frz (encS s)), some (.frz (encS t)), some (.frz (encS u)), some (.frz (encG gr)), some (.frz (iD (idx gr s t))), some (.frz (encG gr2)), some (.frz (ringD p n)), some (.frz (iD w)), some (.frz (iD many)), some (.frz (encL (modL gr))), z13, z14, y15, none, none]) g := by
  have e1 : callK tabK WW (k + 8) 28 [encG gr] g = _ := c_all_elements (k := k + 2) hg hsz g
  have e2 : callK tabK WW (k + 8) 45 [encL (modL gr)] g = _ := c_rows (k := k + 7) (fun m hm => (modL_b hg m hm).1) hsz (by have := modL_le hg; omega) g
  have rl : (rowsL (modL gr)).length ≤ 1000 := by rw [rows_length]; exact hsz
  have z := e_lzip (call := (callK tabK WW (k + 8))) (ρ := [none, some (.frz (.dict [])), some (.frz tv), some (.frz (encS s)), some (.frz (encS t)), some (.frz (encS u)), some (.frz (encG gr)), some (.frz (iD (idx gr s t))), some (.frz (encG gr2)), some (.frz (ringD p n)), some (.frz (iD w)), some (.frz (iD many)), some (.frz (encL (modL gr))), y13, y14, y15, none, none]) (g := g) (a := .call 28 (.cons (.var 6) .nil)) (b := .call 45 (.cons (.var 12) .nil)) (xs := ((rowsL (modL gr)).map (splitR gr)).map encEl) (ys := (rowsL (modL gr)).map encR) (by simp only [e_call, e_cons, e_var, e_nil, List.getElem?_cons_zero, List.getElem?_cons_succ, varD_frz, q_bind, q_of, e1]) (by
    simp only [e_call, e_cons, e_var, e_nil, List.getElem?_cons_zero, List.getElem?_cons_succ, varD_frz, q_bind, q_of, e2]
    rfl) (by rw [List.length_map, List.length_map, List.length_map]) (by rw [List.length_map, List.length_map]; omega)
  rw [zip_rows] at z
  obtain ⟨ρ', e, z13, z14, rfl⟩ := for_fold (call := (callK tabK WW (k + 8))) (W := WW) (t := .tp [13, 14]) (it := (.seqL (.sl (.lzip (.call 28 (.cons (.var 6) .nil)) (.call 45 (.cons (.var 12) .nil))) .no (.so (.cst (PyData.int 20)))))) (b := (.ife (.and (.cmp .eq (.lc [17] (.nm 17) (.seqT (.var 3)) (.not (.call 26 (.cons (.var 6) (.cons (.ix (.var 17) (.cst (PyData.int 0))) (.cons (.call 25 (.cons (.var 6) (.cons (.ix (.var 17) (.cst (PyData.int 1))) (.cons (.var 13) .nil)))) .nil))))) (.var 17)) (.lst .nil)) (.not (.call 48 (.cons (.var 12) (.cons (.var 3) (.cons (.var 14) .nil)))))) (.ret (.cst (PyData.bool false))) .skip)) (ρ := [none, some (.frz (.dict [])), some (.frz tv), some (.frz (encS s)), some (.frz (encS t)), some (.frz (encS u)), some (.frz (encG gr)), some (.frz (iD (idx gr s t))), some (.frz (encG gr2)), some (.frz (ringD p n)), some (.frz (iD w)), some (.frz (iD many)), some (.frz (encL (modL gr))), y13, y14, y15, none, none]) (g := g) (α := Unit) (encZR gr) (fun _ ρ => ∃ z13 z14, ρ = [none, some (.frz (.dict [])), some (.frz tv), some (.frz (encS s)), some (.frz (encS t)), some (.frz (encS u)), some (.frz (encG gr)), some (.frz (iD (idx gr s t))), some (.frz (encG gr2)), some (.frz (ringD p n)), some (.frz (iD w)), some (.frz (iD many)), some (.frz (encL (modL gr))), z13, z14, y15, none, none]) (fun _ _ => ()) ((rowsL (modL gr)).take 20) () (by
    rw [e_seqL, e_sl, z]
    simp only [e_no, e_so, e_cst, q_asI, q_bind, sl20, q_of, seqL_list, List.map_take]) ⟨y13, y14, rfl⟩ (fun _ r hr ρ hj => by
    obtain ⟨z13, z14, rfl⟩ := hj
    exact ⟨_, el_turn hg o (by omega) (List.mem_of_mem_take hr), _, _, rfl⟩)
  exact ⟨z13, z14, e⟩
theorem st_14 (hg : NG gr) (o : okS s) : ∃ z15, exS (callK tabK WW (k + 8)) WW t_14 [none, some (.frz (.dict [])), some (.frz tv), some (.frz (encS s)), some (.frz (encS t)), some (.frz (encS u)), some (.frz (encG gr)), some (.frz (iD (idx gr s t))), some (.frz (encG gr2)), some (.frz (ringD p n)), some (.frz (iD w)), some (.frz (iD many)), some (.frz (encL (modL gr))), y13, y14, y15, none, none] g = .ok (.nx, [none, some (.frz (.dict [])), some (.frz tv), some (.frz (encS s)), some (.frz (encS t)), some (.frz (encS u)), some (.frz (encG gr)), some (.frz (iD (idx gr s t))), some (.frz (encG gr2)), some (.frz (ringD p n)), some (.frz (iD w)), some (.frz (iD many)), some (.frz (encL (modL gr))), y13, y14, z15, none, none]) g := by
  obtain ⟨ρ', e, z15, rfl⟩ := for_fold (call := (callK tabK WW (k + 8))) (W := WW) (t := .nm 15) (it := (.seqL (.lst (.cons (.cst PyData.none) (.cons (.lst .nil) (.cons (.tup (.cons (.tup (.cons (.cst (PyData.int 1)) .nil)) .nil)) (.cons (.tup (.cons (.tup (.cons (.neg (.cst (PyData.int 1))) (.cons (.cst (PyData.int 1)) .nil))) .nil)) (.cons (.tup (.cons (.tup (.cons (.cst (PyData.int 1)) (.cons (.cst PyData.none) .nil))) .nil)) (.cons (.tup (.cons (.tup (.cons (.cst (PyData.bool true)) (.cons (.cst (PyData.int 1)) .nil))) .nil)) (.cons (.tup (.cons (.tup (.cons (.bin .add (.bin .pow (.cst (PyData.int 10)) (.cst (PyData.int 12))) (.cst (PyData.int 1))) (.cons (.cst (PyData.int 1)) .nil))) .nil)) (.cons (.cst (PyData.str (Str.ofString "a"))) .nil))))))))))) (b := (.tryq 37 [6, 3, 15] 2 16 15)) (ρ := [none, some (.frz (.dict [])), some (.frz tv), some (.frz (encS s)), some (.frz (encS t)), some (.frz (encS u)), some (.frz (encG gr)), some (.frz (iD (idx gr s t))), some (.frz (encG gr2)), some (.frz (ringD p n)), some (.frz (iD w)), some (.frz (iD many)), some (.frz (encL (modL gr))), y13, y14, y15, none, none]) (g := g) (α := Unit) (fun d : D => d) (fun _ ρ => ∃ z15, ρ = [none, some (.frz (.dict [])), some (.frz tv), some (.frz (encS s)), some (.frz (encS t)), some (.frz (encS u)), some (.frz (encG gr)), some (.frz (iD (idx gr s t))), some (.frz (encG gr2)), some (.frz (ringD p n)), some (.frz (iD w)), some (.frz (iD many)), some (.frz (encL (modL gr))), y13, y14, z15, none, none]) (fun _ _ => ()) odds () (by
    have pw : binD .pow (.int 10) (.int 12) = some (.int (10 ^ 12)) := by first | rfl | simp [binD]
    have s8 : (8 ≤ sizeLine) = True := by simp [sizeLine]
    rw [List.map_id']
    simp only [e_seqL, e_lst, e_tup, e_bin, e_neg, e_cons, e_cst, e_nil, q_bind, q_asI, List.length_cons, List.length_nil, Nat.zero_add, Nat.reduceAdd, sl0, sl1, sl2, s8, if_true, pw, b_add, q_of, seqL_list]
    rfl) ⟨y15, rfl⟩ (fun _ d hd ρ hj => by
    obtain ⟨z15, rfl⟩ := hj
    refine ⟨_, ?_, some (.frz d), rfl⟩
    have e1 := c_index_bad (k := k + 2) hg o hd g
    have tq := x_tryq (call := (callK tabK WW (k + 8))) (W := WW) (f := 37) (c := 2) (i := 16) (o := 15) (vs := [6, 3, 15]) (ρ := [none, some (.frz (.dict [])), some (.frz tv), some (.frz (encS s)), some (.frz (encS t)), some (.frz (encS u)), some (.frz (encG gr)), some (.frz (iD (idx gr s t))), some (.frz (encG gr2)), some (.frz (ringD p n)), some (.frz (iD w)), some (.frz (iD many)), some (.frz (encL (modL gr))), y13, y14, some (.frz d), none, none]) (g := g) (ds := [encG gr, encS s, d]) (d := d) (by
      simp only [varsA, e_cons, e_var, e_nil, List.getElem?_cons_zero, List.getElem?_cons_succ, varD_frz, q_bind, q_of]) e1 rfl (by decide) (by show 16 < 18; decide) (odds_ok d hd)
    simp only [List.set_cons_zero, List.set_cons_succ] at tq
    simp only [forF, t_nm, q_of, q_bind, List.set_cons_zero, List.set_cons_succ, tq])
  exact ⟨z15, e⟩
end
theorem turn_go {k N : Nat} {g : G} (h : Gok N g) (hn : N + 100 ≤ 100000) {tv : D} {y3 y4 y5 y6 y7 y8 y9 y10 y11 y12 y13 y14 y15 : Option Ent} : ∃ z3 z4 z5 z6 z7 z8 z9 z10 z11 z12 z13 z14 z15 g', exS (callK tabK WW (k + 8)) WW turnB [none, some (.frz (.dict [])), some (.frz tv), y3, y4, y5, y6, y7, y8, y9, y10, y11, y12, y13, y14, y15, none, none] g = .ok (.nx, [none, some (.frz (.dict [])), some (.frz tv), z3, z4, z5, z6, z7, z8, z9, z10, z11, z12, z13, z14, z15, none, none]) g' ∧ Gok (N + 60) g' := by
  obtain ⟨s, t, u, g1, e1, o1, o2, o3, l1, l2, l3, h1⟩ := st_1 (k := k) (tv := tv) (y3 := y3) (y4 := y4) (y5 := y5) (y6 := y6) (y7 := y7) (y8 := y8) (y9 := y9) (y10 := y10) (y11 := y11) (y12 := y12) (y13 := y13) (y14 := y14) (y15 := y15) h (by omega)
  obtain ⟨gr, g2, e2, hg, gl, gc, gs, h2⟩ := st_2 (k := k) (tv := tv) (y6 := y6) (y7 := y7) (y8 := y8) (y9 := y9) (y10 := y10) (y11 := y11) (y12 := y12) (y13 := y13) (y14 := y14) (y15 := y15) (s := s) (t := t) (u := u) h1 (by omega)
  obtain ⟨g4, e4, h4⟩ := st_4 (k := k) (tv := tv) (y8 := y8) (y9 := y9) (y10 := y10) (y11 := y11) (y12 := y12) (y13 := y13) (y14 := y14) (y15 := y15) (s := s) (t := t) (u := u) (gr := gr) h2 (by omega) hg o1 o2 l1 l2
  obtain ⟨gr2, g6, e6, hg2, gl2, gc2, gs2, h6⟩ := st_6 (k := k) (tv := tv) (y8 := y8) (y9 := y9) (y10 := y10) (y11 := y11) (y12 := y12) (y13 := y13) (y14 := y14) (y15 := y15) (s := s) (t := t) (u := u) (gr := gr) h4 (by omega)
  have hd : DI 1000 12 (addAll [] (gr ++ gr2)) := by
    have := addAll_DI (g := gr ++ gr2) (d := []) (B := 0) (L := 0) (C := 6) DI.nil (fun x hx => (List.mem_append.mp hx).elim (hg.ok x) (hg2.ok x)) (fun x hx => (List.mem_append.mp hx).elim (fun q => ⟨(hg.cop x q).1, gc x q⟩) (fun q => ⟨(hg2.cop x q).1, gc2 x q⟩))
    rw [List.length_append] at this
    exact this.mono (by omega) (by omega)
  obtain ⟨p, n, g8, e8, hp, h8⟩ := st_8 (k := k) (tv := tv) (y9 := y9) (y10 := y10) (y11 := y11) (y12 := y12) (y13 := y13) (y14 := y14) (y15 := y15) (s := s) (t := t) (u := u) (gr := gr) (gr2 := gr2) h6 (by omega)
  obtain ⟨w, many, g9, e9, hw, m1, m2, h9⟩ := st_9 (k := k) (tv := tv) (y10 := y10) (y11 := y11) (y12 := y12) (y13 := y13) (y14 := y14) (y15 := y15) (s := s) (t := t) (u := u) (gr := gr) (gr2 := gr2) h8 (by omega) hp o1 o2
  obtain ⟨z13, z14, e13⟩ := st_13 (k := k) (tv := tv) (y13 := y13) (y14 := y14) (y15 := y15) (s := s) (t := t) (u := u) (gr := gr) (gr2 := gr2) (p := p) (n := n) (w := w) (many := many) (g := g9) hg (by omega) o1 l1
  obtain ⟨z15, e14⟩ := st_14 (k := k) (tv := tv) (y13 := z13) (y14 := z14) (y15 := y15) (s := s) (t := t) (u := u) (gr := gr) (gr2 := gr2) (p := p) (n := n) (w := w) (many := many) (g := g9) hg o1
  refine ⟨some (.frz (encS s)), some (.frz (encS t)), some (.frz (encS u)), some (.frz (encG gr)), some (.frz (iD (idx gr s t))), some (.frz (encG gr2)), some (.frz (ringD p n)), some (.frz (iD w)), some (.frz (iD many)), some (.frz (encL (modL gr))), z13, z14, z15, g9, ?_, h9.mono (by omega)⟩
  exact nx_step e1 (nx_step e2 (nx_step (st_3 hg (by omega) o1 o2) (nx_step e4 (nx_step (st_5 hg (by omega) o1 o2 o3 l1 l2 l3) (nx_step e6 (nx_step (st_7 hg (by omega) hg2 (by omega) hd o1 o2 l1 l2) (nx_step e8 (nx_step e9 (nx_step (st_10 hp o1 o2 l1 l2 hw m1 m2) (nx_step (st_11 hp o1 o2 l1 l2 hw) (nx_step (st_12 hg) (nx_step e13 e14))))))))))))
theorem law_plain (k : Nat) (ns : List Int) : ∃ ρ' g', exS (callK tabK WW (k + 8)) WW f_law.body ([none, some (.frz (.dict []))] ++ List.replicate 16 none) (runOf ns) = .ok (.rt (.bool true), ρ') g' := by
  rw [law_body]
  have hi : evI (callK tabK WW (k + 8)) (.rng1 (.cst (PyData.int 4))) ([none, some (.frz (.dict []))] ++ List.replicate 16 none) (runOf ns) = .ok ((List.range 4).map fun (i : Nat) => PyData.int (i : Int)) (runOf ns) := by
    simp only [e_rng1, e_cst, q_bind, q_asI]
    exact rngR_n 4 _ (by decide)
  obtain ⟨ρ', g', e, hI⟩ := for_goG (call := (callK tabK WW (k + 8))) (W := WW) (t := .nm 2) (b := turnB) (fun i ρ g => Gok (100 * i) g ∧ ∃ y2 y3 y4 y5 y6 y7 y8 y9 y10 y11 y12 y13 y14 y15, ρ = [none, some (.frz (.dict [])), y2, y3, y4, y5, y6, y7, y8, y9, y10, y11, y12, y13, y14, y15, none, none]) hi ⟨runOf_ok ns, none, none, none, none, none, none, none, none, none, none, none, none, none, none, rfl⟩ (fun j hj ρ g hI => by
    obtain ⟨hg, y2, y3, y4, y5, y6, y7, y8, y9, y10, y11, y12, y13, y14, y15, rfl⟩ := hI
    have hj' : j < 4 := by rw [List.length_map, List.length_range] at hj; exact hj
    generalize ((List.range 4).map fun (i : Nat) => PyData.int (i : Int))[j] = tv
    obtain ⟨z3, z4, z5, z6, z7, z8, z9, z10, z11, z12, z13, z14, z15, g', e, hg'⟩ := turn_go (k := k) (tv := tv) (y3 := y3) (y4 := y4) (y5 := y5) (y6 := y6) (y7 := y7) (y8 := y8) (y9 := y9) (y10 := y10) (y11 := y11) (y12 := y12) (y13 := y13) (y14 := y14) (y15 := y15) hg (by omega)
    exact ⟨_, g', e, hg'.mono (by omega), _, _, _, _, _, _, _, _, _, _, _, _, _, _, rfl⟩)
  refine ⟨ρ', g', ?_⟩
  rw [x_seq, e, q_bind, seqR_nx, x_ret, e_cst, q_bind]
end Mini

set_option maxHeartbeats 0
open PySem PySem.W PyProof.Rows
open_top head for PySem.Challenge.rw_saidofadding_k03_whole_indices

set_option maxHeartbeats 0
namespace Mini
open PySem L2 Evl
theorem fill0 (h : False) : PySem.Challenge.rw_saidofadding_k03_whole_indices.Holds := head (by k_fill; exact h.elim)
theorem fd_is_number (w : World) : ∃ f fd, PySem.W.nsIn (head.heap_39 w.params) mainGlobals "is_number" = some (some (.ref f)) ∧ L2.Fun (head.heap_39 w.params) "is_number" "is_number" s_is_number f fd := ⟨_, _, by k_is, L2.fun_mk (by k_is) (by k_is) (by k_is)⟩
theorem fd_is_prime (w : World) : ∃ f fd, PySem.W.nsIn (head.heap_39 w.params) mainGlobals "is_prime" = some (some (.ref f)) ∧ L2.Fun (head.heap_39 w.params) "is_prime" "is_prime" s_is_prime f fd := ⟨_, _, by k_is, L2.fun_mk (by k_is) (by k_is) (by k_is)⟩
theorem fd_is_kind (w : World) : ∃ f fd, PySem.W.nsIn (head.heap_39 w.params) mainGlobals "is_kind" = some (some (.ref f)) ∧ L2.Fun (head.heap_39 w.params) "is_kind" "is_kind" s_is_kind f fd := ⟨_, _, by k_is, L2.fun_mk (by k_is) (by k_is) (by k_is)⟩
theorem fd_ring_size (w : World) : ∃ f fd, PySem.W.nsIn (head.heap_39 w.params) mainGlobals "ring_size" = some (some (.ref f)) ∧ L2.Fun (head.heap_39 w.params) "ring_size" "ring_size" s_ring_size f fd := ⟨_, _, by k_is, L2.fun_mk (by k_is) (by k_is) (by k_is)⟩
theorem fd_kind_order (w : World) : ∃ f fd, PySem.W.nsIn (head.heap_39 w.params) mainGlobals "kind_order" = some (some (.ref f)) ∧ L2.Fun (head.heap_39 w.params) "kind_order" "kind_order" s_kind_order f fd := ⟨_, _, by k_is, L2.fun_mk (by k_is) (by k_is) (by k_is)⟩
theorem fd_are_copies (w : World) : ∃ f fd, PySem.W.nsIn (head.heap_39 w.params) mainGlobals "are_copies" = some (some (.ref f)) ∧ L2.Fun (head.heap_39 w.params) "are_copies" "are_copies" s_are_copies f fd := ⟨_, _, by k_is, L2.fun_mk (by k_is) (by k_is) (by k_is)⟩
theorem fd_is_group (w : World) : ∃ f fd, PySem.W.nsIn (head.heap_39 w.params) mainGlobals "is_group" = some (some (.ref f)) ∧ L2.Fun (head.heap_39 w.params) "is_group" "is_group" s_is_group f fd := ⟨_, _, by k_is, L2.fun_mk (by k_is) (by k_is) (by k_is)⟩
theorem fd_need_group (w : World) : ∃ f fd, PySem.W.nsIn (head.heap_39 w.params) mainGlobals "need_group" = some (some (.ref f)) ∧ L2.Fun (head.heap_39 w.params) "need_group" "need_group" s_need_group f fd := ⟨_, _, by k_is, L2.fun_mk (by k_is) (by k_is) (by k_is)⟩
theorem fd_raised (w : World) : ∃ f fd, PySem.W.nsIn (head.heap_39 w.params) mainGlobals "raised" = some (some (.ref f)) ∧ L2.Fun (head.heap_39 w.params) "raised" "raised" s_raised f fd := ⟨_, _, by k_is, L2.fun_mk (by k_is) (by k_is) (by k_is)⟩
theorem fd_size_here (w : World) : ∃ f fd, PySem.W.nsIn (head.heap_39 w.params) mainGlobals "size_here" = some (some (.ref f)) ∧ L2.Fun (head.heap_39 w.params) "size_here" "size_here" s_size_here f fd := ⟨_, _, by k_is, L2.fun_mk (by k_is) (by k_is) (by k_is)⟩
theorem fd_sum_of_groups (w : World) : ∃ (f cS PS : Addr) (oc : Value) (od : Option Addr) (kV doc pm : Value) (an : Option Addr) (ct : Value) (osl : Array (Option Value)) (e : Value) (dd : Option Addr) (vs : Array Value) (sl : Array (Option Value)), PySem.W.nsIn (head.heap_39 w.params) mainGlobals "sum_of_groups" = some (some (.ref f)) ∧
    (head.heap_39 w.params).lookup f = some ⟨oc, od, .func (PySem.W.fnOf "sum_of_groups" "sum_of_groups" (defArgs s_sum_of_groups) (defBody s_sum_of_groups) (defScope s_sum_of_groups) .none kV doc pm an (.ref cS) ct), osl⟩ ∧ PySem.W.codeIn (head.heap_39 w.params) (.ref cS) "sum_of_groups" = true ∧ PySem.W.keepIn (head.heap_39 w.params) (.ref f) = true ∧ (head.heap_39 w.params).lookup cS = some ⟨e, dd, .fields vs, sl⟩ ∧ vs[11]? = some (.ref PS) ∧ PySem.W.codeHdIn (head.heap_39 w.params) cS PS = true ∧ (head.heap_39 w.params).lookup PS = none ∧ PS ∈ ([229] : List Addr) := ⟨_, _, _, _, _, _, _, _, _, _, _, _, _, _, _, by k_is, by k_is, by k_is, by k_is, by k_is, by rfl, by kernel_rfl, by kernel_rfl, by decide⟩
theorem fd_is_power (w : World) : ∃ f fd, PySem.W.nsIn (head.heap_39 w.params) mainGlobals "is_power" = some (some (.ref f)) ∧ L2.Fun (head.heap_39 w.params) "is_power" "is_power" s_is_power f fd := ⟨_, _, by k_is, L2.fun_mk (by k_is) (by k_is) (by k_is)⟩
theorem fd_is_fraction (w : World) : ∃ f fd, PySem.W.nsIn (head.heap_39 w.params) mainGlobals "is_fraction" = some (some (.ref f)) ∧ L2.Fun (head.heap_39 w.params) "is_fraction" "is_fraction" s_is_fraction f fd := ⟨_, _, by k_is, L2.fun_mk (by k_is) (by k_is) (by k_is)⟩
theorem fd_is_place (w : World) : ∃ f fd, PySem.W.nsIn (head.heap_39 w.params) mainGlobals "is_place" = some (some (.ref f)) ∧ L2.Fun (head.heap_39 w.params) "is_place" "is_place" s_is_place f fd := ⟨_, _, by k_is, L2.fun_mk (by k_is) (by k_is) (by k_is)⟩
theorem fd_zero_place (w : World) : ∃ f fd, PySem.W.nsIn (head.heap_39 w.params) mainGlobals "zero_place" = some (some (.ref f)) ∧ L2.Fun (head.heap_39 w.params) "zero_place" "zero_place" s_zero_place f fd := ⟨_, _, by k_is, L2.fun_mk (by k_is) (by k_is) (by k_is)⟩
theorem fd_are_places (w : World) : ∃ f fd, PySem.W.nsIn (head.heap_39 w.params) mainGlobals "are_places" = some (some (.ref f)) ∧ L2.Fun (head.heap_39 w.params) "are_places" "are_places" s_are_places f fd := ⟨_, _, by k_is, L2.fun_mk (by k_is) (by k_is) (by k_is)⟩
theorem fd_is_element (w : World) : ∃ f fd, PySem.W.nsIn (head.heap_39 w.params) mainGlobals "is_element" = some (some (.ref f)) ∧ L2.Fun (head.heap_39 w.params) "is_element" "is_element" s_is_element f fd := ⟨_, _, by k_is, L2.fun_mk (by k_is) (by k_is) (by k_is)⟩
theorem fd_need_element (w : World) : ∃ f fd, PySem.W.nsIn (head.heap_39 w.params) mainGlobals "need_element" = some (some (.ref f)) ∧ L2.Fun (head.heap_39 w.params) "need_element" "need_element" s_need_element f fd := ⟨_, _, by k_is, L2.fun_mk (by k_is) (by k_is) (by k_is)⟩
theorem fd_trimmed (w : World) : ∃ f fd, PySem.W.nsIn (head.heap_39 w.params) mainGlobals "trimmed" = some (some (.ref f)) ∧ L2.Fun (head.heap_39 w.params) "trimmed" "trimmed" s_trimmed f fd := ⟨_, _, by k_is, L2.fun_mk (by k_is) (by k_is) (by k_is)⟩
theorem fd_lowest (w : World) : ∃ f fd, PySem.W.nsIn (head.heap_39 w.params) mainGlobals "lowest" = some (some (.ref f)) ∧ L2.Fun (head.heap_39 w.params) "lowest" "lowest" s_lowest f fd := ⟨_, _, by k_is, L2.fun_mk (by k_is) (by k_is) (by k_is)⟩
theorem fd_place_of (w : World) : ∃ f fd, PySem.W.nsIn (head.heap_39 w.params) mainGlobals "place_of" = some (some (.ref f)) ∧ L2.Fun (head.heap_39 w.params) "place_of" "place_of" s_place_of f fd := ⟨_, _, by k_is, L2.fun_mk (by k_is) (by k_is) (by k_is)⟩
theorem fd_times_here (w : World) : ∃ f fd, PySem.W.nsIn (head.heap_39 w.params) mainGlobals "times_here" = some (some (.ref f)) ∧ L2.Fun (head.heap_39 w.params) "times_here" "times_here" s_times_here f fd := ⟨_, _, by k_is, L2.fun_mk (by k_is) (by k_is) (by k_is)⟩
theorem fd_power_in (w : World) : ∃ f fd, PySem.W.nsIn (head.heap_39 w.params) mainGlobals "power_in" = some (some (.ref f)) ∧ L2.Fun (head.heap_39 w.params) "power_in" "power_in" s_power_in f fd := ⟨_, _, by k_is, L2.fun_mk (by k_is) (by k_is) (by k_is)⟩
theorem fd_place_parts (w : World) : ∃ f fd, PySem.W.nsIn (head.heap_39 w.params) mainGlobals "place_parts" = some (some (.ref f)) ∧ L2.Fun (head.heap_39 w.params) "place_parts" "place_parts" s_place_parts f fd := ⟨_, _, by k_is, L2.fun_mk (by k_is) (by k_is) (by k_is)⟩
theorem fd_parts_here (w : World) : ∃ f fd, PySem.W.nsIn (head.heap_39 w.params) mainGlobals "parts_here" = some (some (.ref f)) ∧ L2.Fun (head.heap_39 w.params) "parts_here" "parts_here" s_parts_here f fd := ⟨_, _, by k_is, L2.fun_mk (by k_is) (by k_is) (by k_is)⟩
theorem fd_many_times (w : World) : ∃ f fd, PySem.W.nsIn (head.heap_39 w.params) mainGlobals "many_times" = some (some (.ref f)) ∧ L2.Fun (head.heap_39 w.params) "many_times" "many_times" s_many_times f fd := ⟨_, _, by k_is, L2.fun_mk (by k_is) (by k_is) (by k_is)⟩
theorem fd_divides (w : World) : ∃ f fd, PySem.W.nsIn (head.heap_39 w.params) mainGlobals "divides" = some (some (.ref f)) ∧ L2.Fun (head.heap_39 w.params) "divides" "divides" s_divides f fd := ⟨_, _, by k_is, L2.fun_mk (by k_is) (by k_is) (by k_is)⟩
theorem fd_longer_by (w : World) : ∃ f fd, PySem.W.nsIn (head.heap_39 w.params) mainGlobals "longer_by" = some (some (.ref f)) ∧ L2.Fun (head.heap_39 w.params) "longer_by" "longer_by" s_longer_by f fd := ⟨_, _, by k_is, L2.fun_mk (by k_is) (by k_is) (by k_is)⟩
theorem fd_all_elements (w : World) : ∃ f fd, PySem.W.nsIn (head.heap_39 w.params) mainGlobals "all_elements" = some (some (.ref f)) ∧ L2.Fun (head.heap_39 w.params) "all_elements" "all_elements" s_all_elements f fd := ⟨_, _, by k_is, L2.fun_mk (by k_is) (by k_is) (by k_is)⟩
theorem fd_is_shape (w : World) : ∃ f fd, PySem.W.nsIn (head.heap_39 w.params) mainGlobals "is_shape" = some (some (.ref f)) ∧ L2.Fun (head.heap_39 w.params) "is_shape" "is_shape" s_is_shape f fd := ⟨_, _, by k_is, L2.fun_mk (by k_is) (by k_is) (by k_is)⟩
theorem fd_need_shape (w : World) : ∃ f fd, PySem.W.nsIn (head.heap_39 w.params) mainGlobals "need_shape" = some (some (.ref f)) ∧ L2.Fun (head.heap_39 w.params) "need_shape" "need_shape" s_need_shape f fd := ⟨_, _, by k_is, L2.fun_mk (by k_is) (by k_is) (by k_is)⟩
theorem fd_ring_step (w : World) : ∃ f fd, PySem.W.nsIn (head.heap_39 w.params) mainGlobals "ring_step" = some (some (.ref f)) ∧ L2.Fun (head.heap_39 w.params) "ring_step" "ring_step" s_ring_step f fd := ⟨_, _, by k_is, L2.fun_mk (by k_is) (by k_is) (by k_is)⟩
theorem fd_whole_step (w : World) : ∃ f fd, PySem.W.nsIn (head.heap_39 w.params) mainGlobals "whole_step" = some (some (.ref f)) ∧ L2.Fun (head.heap_39 w.params) "whole_step" "whole_step" s_whole_step f fd := ⟨_, _, by k_is, L2.fun_mk (by k_is) (by k_is) (by k_is)⟩
theorem fd_is_cut (w : World) : ∃ f fd, PySem.W.nsIn (head.heap_39 w.params) mainGlobals "is_cut" = some (some (.ref f)) ∧ L2.Fun (head.heap_39 w.params) "is_cut" "is_cut" s_is_cut f fd := ⟨_, _, by k_is, L2.fun_mk (by k_is) (by k_is) (by k_is)⟩
theorem fd_tower_step (w : World) : ∃ f fd, PySem.W.nsIn (head.heap_39 w.params) mainGlobals "tower_step" = some (some (.ref f)) ∧ L2.Fun (head.heap_39 w.params) "tower_step" "tower_step" s_tower_step f fd := ⟨_, _, by k_is, L2.fun_mk (by k_is) (by k_is) (by k_is)⟩
theorem fd_index_in (w : World) : ∃ f fd, PySem.W.nsIn (head.heap_39 w.params) mainGlobals "index_in" = some (some (.ref f)) ∧ L2.Fun (head.heap_39 w.params) "index_in" "index_in" s_index_in f fd := ⟨_, _, by k_is, L2.fun_mk (by k_is) (by k_is) (by k_is)⟩
theorem fd_index_here (w : World) : ∃ f fd, PySem.W.nsIn (head.heap_39 w.params) mainGlobals "index_here" = some (some (.ref f)) ∧ L2.Fun (head.heap_39 w.params) "index_here" "index_here" s_index_here f fd := ⟨_, _, by k_is, L2.fun_mk (by k_is) (by k_is) (by k_is)⟩
theorem fd_index_of (w : World) : ∃ f fd, PySem.W.nsIn (head.heap_39 w.params) mainGlobals "index_of" = some (some (.ref f)) ∧ L2.Fun (head.heap_39 w.params) "index_of" "index_of" s_index_of f fd := ⟨_, _, by k_is, L2.fun_mk (by k_is) (by k_is) (by k_is)⟩
theorem fd_law_begun (w : World) : ∃ f fd, PySem.W.nsIn (head.heap_39 w.params) mainGlobals "_law_begun" = some (some (.ref f)) ∧ L2.Fun (head.heap_39 w.params) "_law_begun" "_law_begun" s_law_begun f fd := ⟨_, _, by k_is, L2.fun_mk (by k_is) (by k_is) (by k_is)⟩
theorem fd_law_next (w : World) : ∃ f fd, PySem.W.nsIn (head.heap_39 w.params) mainGlobals "_law_next" = some (some (.ref f)) ∧ L2.Fun (head.heap_39 w.params) "_law_next" "_law_next" s_law_next f fd := ⟨_, _, by k_is, L2.fun_mk (by k_is) (by k_is) (by k_is)⟩
theorem fd_law_of (w : World) : ∃ f fd, PySem.W.nsIn (head.heap_39 w.params) mainGlobals "_law_of" = some (some (.ref f)) ∧ L2.Fun (head.heap_39 w.params) "_law_of" "_law_of" s_law_of f fd := ⟨_, _, by k_is, L2.fun_mk (by k_is) (by k_is) (by k_is)⟩
theorem fd_law_like (w : World) : ∃ f fd, PySem.W.nsIn (head.heap_39 w.params) mainGlobals "_law_like" = some (some (.ref f)) ∧ L2.Fun (head.heap_39 w.params) "_law_like" "_law_like" s_law_like f fd := ⟨_, _, by k_is, L2.fun_mk (by k_is) (by k_is) (by k_is)⟩
theorem fd_law_power (w : World) : ∃ f fd, PySem.W.nsIn (head.heap_39 w.params) mainGlobals "_law_power" = some (some (.ref f)) ∧ L2.Fun (head.heap_39 w.params) "_law_power" "_law_power" s_law_power f fd := ⟨_, _, by k_is, L2.fun_mk (by k_is) (by k_is) (by k_is)⟩
theorem fd_law_group (w : World) : ∃ f fd, PySem.W.nsIn (head.heap_39 w.params) mainGlobals "_law_group" = some (some (.ref f)) ∧ L2.Fun (head.heap_39 w.params) "_law_group" "_law_group" s_law_group f fd := ⟨_, _, by k_is, L2.fun_mk (by k_is) (by k_is) (by k_is)⟩
theorem fd_law_moduli (w : World) : ∃ f fd, PySem.W.nsIn (head.heap_39 w.params) mainGlobals "_law_moduli" = some (some (.ref f)) ∧ L2.Fun (head.heap_39 w.params) "_law_moduli" "_law_moduli" s_law_moduli f fd := ⟨_, _, by k_is, L2.fun_mk (by k_is) (by k_is) (by k_is)⟩
theorem fd_law_rows (w : World) : ∃ f fd, PySem.W.nsIn (head.heap_39 w.params) mainGlobals "_law_rows" = some (some (.ref f)) ∧ L2.Fun (head.heap_39 w.params) "_law_rows" "_law_rows" s_law_rows f fd := ⟨_, _, by k_is, L2.fun_mk (by k_is) (by k_is) (by k_is)⟩
theorem fd_law_divides (w : World) : ∃ f fd, PySem.W.nsIn (head.heap_39 w.params) mainGlobals "_law_divides" = some (some (.ref f)) ∧ L2.Fun (head.heap_39 w.params) "_law_divides" "_law_divides" s_law_divides f fd := ⟨_, _, by k_is, L2.fun_mk (by k_is) (by k_is) (by k_is)⟩
theorem fd_law_shape (w : World) : ∃ f fd, PySem.W.nsIn (head.heap_39 w.params) mainGlobals "_law_shape" = some (some (.ref f)) ∧ L2.Fun (head.heap_39 w.params) "_law_shape" "_law_shape" s_law_shape f fd := ⟨_, _, by k_is, L2.fun_mk (by k_is) (by k_is) (by k_is)⟩
theorem fd_law_in (w : World) : ∃ f fd, PySem.W.nsIn (head.heap_39 w.params) mainGlobals "_law_in" = some (some (.ref f)) ∧ L2.Fun (head.heap_39 w.params) "_law_in" "_law_in" s_law_in f fd := ⟨_, _, by k_is, L2.fun_mk (by k_is) (by k_is) (by k_is)⟩
theorem fd_law_count (w : World) : ∃ f fd, PySem.W.nsIn (head.heap_39 w.params) mainGlobals "_law_count" = some (some (.ref f)) ∧ L2.Fun (head.heap_39 w.params) "_law_count" "_law_count" s_law_count f fd := ⟨_, _, by k_is, L2.fun_mk (by k_is) (by k_is) (by k_is)⟩
theorem fd_law_common (w : World) : ∃ f fd, PySem.W.nsIn (head.heap_39 w.params) mainGlobals "_law_common" = some (some (.ref f)) ∧ L2.Fun (head.heap_39 w.params) "_law_common" "_law_common" s_law_common f fd := ⟨_, _, by k_is, L2.fun_mk (by k_is) (by k_is) (by k_is)⟩
theorem fd_law_whole (w : World) : ∃ f fd, PySem.W.nsIn (head.heap_39 w.params) mainGlobals "_law_whole" = some (some (.ref f)) ∧ L2.Fun (head.heap_39 w.params) "_law_whole" "_law_whole" s_law_whole f fd := ⟨_, _, by k_is, L2.fun_mk (by k_is) (by k_is) (by k_is)⟩
theorem fd_law_torsion (w : World) : ∃ f fd, PySem.W.nsIn (head.heap_39 w.params) mainGlobals "_law_torsion" = some (some (.ref f)) ∧ L2.Fun (head.heap_39 w.params) "_law_torsion" "_law_torsion" s_law_torsion f fd := ⟨_, _, by k_is, L2.fun_mk (by k_is) (by k_is) (by k_is)⟩
theorem fd_law_endless (w : World) : ∃ f fd, PySem.W.nsIn (head.heap_39 w.params) mainGlobals "_law_endless" = some (some (.ref f)) ∧ L2.Fun (head.heap_39 w.params) "_law_endless" "_law_endless" s_law_endless f fd := ⟨_, _, by k_is, L2.fun_mk (by k_is) (by k_is) (by k_is)⟩
theorem fd_law (w : World) : ∃ f fd, PySem.W.nsIn (head.heap_39 w.params) mainGlobals "law" = some (some (.ref f)) ∧ L2.Fun (head.heap_39 w.params) "law" "law" s_law f fd := ⟨_, _, by k_is, L2.fun_mk (by k_is) (by k_is) (by k_is)⟩
theorem all_defs (w : World) : ∀ i, i < 55 → ∃ f fd, PySem.W.nsIn (head.heap_39 w.params) mainGlobals (nm i) = some (some (.ref f)) ∧ L2.Fun (head.heap_39 w.params) (nm i) (nm i) (topS (atL.getD i 0)) f fd
  | 0, _ => fd_is_number w
  | 1, _ => fd_is_prime w
  | 2, _ => fd_is_kind w
  | 3, _ => fd_ring_size w
  | 4, _ => fd_kind_order w
  | 5, _ => fd_are_copies w
  | 6, _ => fd_is_group w
  | 7, _ => fd_need_group w
  | 8, _ => fd_raised w
  | 9, _ => fd_size_here w
  | 10, _ => let ⟨f, cS, PS, oc, od, kV, doc, pm, an, ct, osl, e, dd, vs, sl, h1, h2, h3, h4, _⟩ := fd_sum_of_groups w; ⟨f, _, h1, L2.fun_mk (st := s_sum_of_groups) h2 h3 h4⟩
  | 11, _ => fd_is_power w
  | 12, _ => fd_is_fraction w
  | 13, _ => fd_is_place w
  | 14, _ => fd_zero_place w
  | 15, _ => fd_are_places w
  | 16, _ => fd_is_element w
  | 17, _ => fd_need_element w
  | 18, _ => fd_trimmed w
  | 19, _ => fd_lowest w
  | 20, _ => fd_place_of w
  | 21, _ => fd_times_here w
  | 22, _ => fd_power_in w
  | 23, _ => fd_place_parts w
  | 24, _ => fd_parts_here w
  | 25, _ => fd_many_times w
  | 26, _ => fd_divides w
  | 27, _ => fd_longer_by w
  | 28, _ => fd_all_elements w
  | 29, _ => fd_is_shape w
  | 30, _ => fd_need_shape w
  | 31, _ => fd_ring_step w
  | 32, _ => fd_whole_step w
  | 33, _ => fd_is_cut w
  | 34, _ => fd_tower_step w
  | 35, _ => fd_index_in w
  | 36, _ => fd_index_here w
  | 37, _ => fd_index_of w
  | 38, _ => fd_law_begun w
  | 39, _ => fd_law_next w
  | 40, _ => fd_law_of w
  | 41, _ => fd_law_like w
  | 42, _ => fd_law_power w
  | 43, _ => fd_law_group w
  | 44, _ => fd_law_moduli w
  | 45, _ => fd_law_rows w
  | 46, _ => fd_law_divides w
  | 47, _ => fd_law_shape w
  | 48, _ => fd_law_in w
  | 49, _ => fd_law_count w
  | 50, _ => fd_law_common w
  | 51, _ => fd_law_whole w
  | 52, _ => fd_law_torsion w
  | 53, _ => fd_law_endless w
  | 54, _ => fd_law w
  | i + 55, h => absurd h (by omega)
theorem all_binds {K : PySem.W.Frag} {f : Addr} {fd : FuncData} : ∀ i, i < 55 → L2.Fun K (nm i) (nm i) (topS (atL.getD i 0)) f fd → Binds K fd (psf i) []
  | 0, _, F => F.binds (ps := psf 0) fun _ _ _ _ _ _ us hl => match us, hl with | [_, _, _], _ => rfl
  | 1, _, F => F.binds (ps := psf 1) fun _ _ _ _ _ _ us hl => match us, hl with | [_], _ => rfl
  | 2, _, F => F.binds (ps := psf 2) fun _ _ _ _ _ _ us hl => match us, hl with | [_], _ => rfl
  | 3, _, F => F.binds (ps := psf 3) fun _ _ _ _ _ _ us hl => match us, hl with | [_], _ => rfl
  | 4, _, F => F.binds (ps := psf 4) fun _ _ _ _ _ _ us hl => match us, hl with | [_], _ => rfl
  | 5, _, F => F.binds (ps := psf 5) fun _ _ _ _ _ _ us hl => match us, hl with | [_], _ => rfl
  | 6, _, F => F.binds (ps := psf 6) fun _ _ _ _ _ _ us hl => match us, hl with | [_], _ => rfl
  | 7, _, F => F.binds (ps := psf 7) fun _ _ _ _ _ _ us hl => match us, hl with | [_], _ => rfl
  | 8, _, F => F.binds (ps := psf 8) fun _ _ _ _ _ _ us hl => match us, hl with | [_, _], _ => rfl
  | 9, _, F => F.binds (ps := psf 9) fun _ _ _ _ _ _ us hl => match us, hl with | [_], _ => rfl
  | 10, _, F => F.binds (ps := psf 10) fun _ _ _ _ _ _ us hl => match us, hl with | [_, _], _ => rfl
  | 11, _, F => F.binds (ps := psf 11) fun _ _ _ _ _ _ us hl => match us, hl with | [_, _], _ => rfl
  | 12, _, F => F.binds (ps := psf 12) fun _ _ _ _ _ _ us hl => match us, hl with | [_], _ => rfl
  | 13, _, F => F.binds (ps := psf 13) fun _ _ _ _ _ _ us hl => match us, hl with | [_, _], _ => rfl
  | 14, _, F => F.binds (ps := psf 14) fun _ _ _ _ _ _ us hl => match us, hl with | [_], _ => rfl
  | 15, _, F => F.binds (ps := psf 15) fun _ _ _ _ _ _ us hl => match us, hl with | [_, _], _ => rfl
  | 16, _, F => F.binds (ps := psf 16) fun _ _ _ _ _ _ us hl => match us, hl with | [_, _], _ => rfl
  | 17, _, F => F.binds (ps := psf 17) fun _ _ _ _ _ _ us hl => match us, hl with | [_, _], _ => rfl
  | 18, _, F => F.binds (ps := psf 18) fun _ _ _ _ _ _ us hl => match us, hl with | [_, _], _ => rfl
  | 19, _, F => F.binds (ps := psf 19) fun _ _ _ _ _ _ us hl => match us, hl with | [_, _], _ => rfl
  | 20, _, F => F.binds (ps := psf 20) fun _ _ _ _ _ _ us hl => match us, hl with | [_, _, _], _ => rfl
  | 21, _, F => F.binds (ps := psf 21) fun _ _ _ _ _ _ us hl => match us, hl with | [_, _, _], _ => rfl
  | 22, _, F => F.binds (ps := psf 22) fun _ _ _ _ _ _ us hl => match us, hl with | [_, _, _], _ => rfl
  | 23, _, F => F.binds (ps := psf 23) fun _ _ _ _ _ _ us hl => match us, hl with | [_, _, _], _ => rfl
  | 24, _, F => F.binds (ps := psf 24) fun _ _ _ _ _ _ us hl => match us, hl with | [_, _, _], _ => rfl
  | 25, _, F => F.binds (ps := psf 25) fun _ _ _ _ _ _ us hl => match us, hl with | [_, _, _], _ => rfl
  | 26, _, F => F.binds (ps := psf 26) fun _ _ _ _ _ _ us hl => match us, hl with | [_, _, _], _ => rfl
  | 27, _, F => F.binds (ps := psf 27) fun _ _ _ _ _ _ us hl => match us, hl with | [_, _], _ => rfl
  | 28, _, F => F.binds (ps := psf 28) fun _ _ _ _ _ _ us hl => match us, hl with | [_], _ => rfl
  | 29, _, F => F.binds (ps := psf 29) fun _ _ _ _ _ _ us hl => match us, hl with | [_], _ => rfl
  | 30, _, F => F.binds (ps := psf 30) fun _ _ _ _ _ _ us hl => match us, hl with | [_], _ => rfl
  | 31, _, F => F.binds (ps := psf 31) fun _ _ _ _ _ _ us hl => match us, hl with | [_, _], _ => rfl
  | 32, _, F => F.binds (ps := psf 32) fun _ _ _ _ _ _ us hl => match us, hl with | [_], _ => rfl
  | 33, _, F => F.binds (ps := psf 33) fun _ _ _ _ _ _ us hl => match us, hl with | [_], _ => rfl
  | 34, _, F => F.binds (ps := psf 34) fun _ _ _ _ _ _ us hl => match us, hl with | [_, _], _ => rfl
  | 35, _, F => F.binds (ps := psf 35) fun _ _ _ _ _ _ us hl => match us, hl with | [_, _, _], _ => rfl
  | 36, _, F => F.binds (ps := psf 36) fun _ _ _ _ _ _ us hl => match us, hl with | [_, _, _], _ => rfl
  | 37, _, F => F.binds (ps := psf 37) fun _ _ _ _ _ _ us hl => match us, hl with | [_, _, _], _ => rfl
  | 38, _, F => F.binds (ps := psf 38) fun _ _ _ _ _ _ us hl => match us, hl with | [_], _ => rfl
  | 39, _, F => F.binds (ps := psf 39) fun _ _ _ _ _ _ us hl => match us, hl with | [_, _], _ => rfl
  | 40, _, F => F.binds (ps := psf 40) fun _ _ _ _ _ _ us hl => match us, hl with | [_, _], _ => rfl
  | 41, _, F => F.binds (ps := psf 41) fun _ _ _ _ _ _ us hl => match us, hl with | [_, _], _ => rfl
  | 42, _, F => F.binds (ps := psf 42) fun _ _ _ _ _ _ us hl => match us, hl with | [_, _], _ => rfl
  | 43, _, F => F.binds (ps := psf 43) fun _ _ _ _ _ _ us hl => match us, hl with | [_, _], _ => rfl
  | 44, _, F => F.binds (ps := psf 44) fun _ _ _ _ _ _ us hl => match us, hl with | [_], _ => rfl
  | 45, _, F => F.binds (ps := psf 45) fun _ _ _ _ _ _ us hl => match us, hl with | [_], _ => rfl
  | 46, _, F => F.binds (ps := psf 46) fun _ _ _ _ _ _ us hl => match us, hl with | [_, _, _], _ => rfl
  | 47, _, F => F.binds (ps := psf 47) fun _ _ _ _ _ _ us hl => match us, hl with | [_], _ => rfl
  | 48, _, F => F.binds (ps := psf 48) fun _ _ _ _ _ _ us hl => match us, hl with | [_, _, _], _ => rfl
  | 49, _, F => F.binds (ps := psf 49) fun _ _ _ _ _ _ us hl => match us, hl with | [_, _, _], _ => rfl
  | 50, _, F => F.binds (ps := psf 50) fun _ _ _ _ _ _ us hl => match us, hl with | [_, _], _ => rfl
  | 51, _, F => F.binds (ps := psf 51) fun _ _ _ _ _ _ us hl => match us, hl with | [_], _ => rfl
  | 52, _, F => F.binds (ps := psf 52) fun _ _ _ _ _ _ us hl => match us, hl with | [_, _], _ => rfl
  | 53, _, F => F.binds (ps := psf 53) fun _ _ _ _ _ _ us hl => match us, hl with | [_, _, _], _ => rfl
  | 54, _, F => F.binds (ps := psf 54) fun _ _ _ _ _ _ us hl => match us, hl with | [_], _ => rfl
  | i + 55, h, _ => absurd h (by omega)
theorem er_BadGroup (w : World) {h : Heap} {mg : Str → Option Value} (X : PySem.W.Frag.In (head.heap_39 w.params) h) (N : h.Ns mainGlobals mg) : ∃ C fI, PySem.W.nsIn (head.heap_39 w.params) mainGlobals "BadGroup" = some (some (.ref C)) ∧ PySem.ErrX.ErrTxt (PySem.Challenge.rw_saidofadding_k03_whole_indices.prog) (head.heap_39 w.params) mg "BadGroup" "value" C fI := by
  exact ⟨_, _, by k_is, { gC := PySem.W.mg_of X N (by k_is), cls := ⟨_, _, _, _, _, _, _, _, _, _, _, _, _, _, _, by k_is, by first | rfl | decide +kernel⟩, sa := by k_is, ga := by k_is, gg := by k_is, noN := by k_is, iC := by k_is, tC := by k_is, kC := by k_is, exC := by k_is, veC := by k_is, tyC := by k_is, hdC := by k_is, meC := by k_is, sup := by ks_is, opq := by k_is, gS := PySem.W.mg_none_of X N (by k_is), tS := by first | rfl | decide +kernel, fn := ⟨_, _, _, _, _, _, _, _, _, _, _, _, _, _, _, _, _, _, _, _, _, _, _, _, _, _, _, _, _, _, _, _, _, by k_is, by k_is, by k_is, by rfl, by first | rfl | decide +kernel, by k_is, fun L => ⟨_, rfl⟩⟩ }⟩
theorem er_BadElement (w : World) {h : Heap} {mg : Str → Option Value} (X : PySem.W.Frag.In (head.heap_39 w.params) h) (N : h.Ns mainGlobals mg) : ∃ C fI, PySem.W.nsIn (head.heap_39 w.params) mainGlobals "BadElement" = some (some (.ref C)) ∧ PySem.ErrX.ErrTxt (PySem.Challenge.rw_saidofadding_k03_whole_indices.prog) (head.heap_39 w.params) mg "BadElement" "value" C fI := by
  exact ⟨_, _, by k_is, { gC := PySem.W.mg_of X N (by k_is), cls := ⟨_, _, _, _, _, _, _, _, _, _, _, _, _, _, _, by k_is, by first | rfl | decide +kernel⟩, sa := by k_is, ga := by k_is, gg := by k_is, noN := by k_is, iC := by k_is, tC := by k_is, kC := by k_is, exC := by k_is, veC := by k_is, tyC := by k_is, hdC := by k_is, meC := by k_is, sup := by ks_is, opq := by k_is, gS := PySem.W.mg_none_of X N (by k_is), tS := by first | rfl | decide +kernel, fn := ⟨_, _, _, _, _, _, _, _, _, _, _, _, _, _, _, _, _, _, _, _, _, _, _, _, _, _, _, _, _, _, _, _, _, by k_is, by k_is, by k_is, by rfl, by first | rfl | decide +kernel, by k_is, fun L => ⟨_, rfl⟩⟩ }⟩
theorem er_BadShape (w : World) {h : Heap} {mg : Str → Option Value} (X : PySem.W.Frag.In (head.heap_39 w.params) h) (N : h.Ns mainGlobals mg) : ∃ C fI, PySem.W.nsIn (head.heap_39 w.params) mainGlobals "BadShape" = some (some (.ref C)) ∧ PySem.ErrX.ErrTxt (PySem.Challenge.rw_saidofadding_k03_whole_indices.prog) (head.heap_39 w.params) mg "BadShape" "value" C fI := by
  exact ⟨_, _, by k_is, { gC := PySem.W.mg_of X N (by k_is), cls := ⟨_, _, _, _, _, _, _, _, _, _, _, _, _, _, _, by k_is, by first | rfl | decide +kernel⟩, sa := by k_is, ga := by k_is, gg := by k_is, noN := by k_is, iC := by k_is, tC := by k_is, kC := by k_is, exC := by k_is, veC := by k_is, tyC := by k_is, hdC := by k_is, meC := by k_is, sup := by ks_is, opq := by k_is, gS := PySem.W.mg_none_of X N (by k_is), tS := by first | rfl | decide +kernel, fn := ⟨_, _, _, _, _, _, _, _, _, _, _, _, _, _, _, _, _, _, _, _, _, _, _, _, _, _, _, _, _, _, _, _, _, by k_is, by k_is, by k_is, by rfl, by first | rfl | decide +kernel, by k_is, fun L => ⟨_, rfl⟩⟩ }⟩
theorem er_BadNumber (w : World) {h : Heap} {mg : Str → Option Value} (X : PySem.W.Frag.In (head.heap_39 w.params) h) (N : h.Ns mainGlobals mg) : ∃ C fI, PySem.W.nsIn (head.heap_39 w.params) mainGlobals "BadNumber" = some (some (.ref C)) ∧ PySem.ErrX.ErrTxt (PySem.Challenge.rw_saidofadding_k03_whole_indices.prog) (head.heap_39 w.params) mg "BadNumber" "value" C fI := by
  exact ⟨_, _, by k_is, { gC := PySem.W.mg_of X N (by k_is), cls := ⟨_, _, _, _, _, _, _, _, _, _, _, _, _, _, _, by k_is, by first | rfl | decide +kernel⟩, sa := by k_is, ga := by k_is, gg := by k_is, noN := by k_is, iC := by k_is, tC := by k_is, kC := by k_is, exC := by k_is, veC := by k_is, tyC := by k_is, hdC := by k_is, meC := by k_is, sup := by ks_is, opq := by k_is, gS := PySem.W.mg_none_of X N (by k_is), tS := by first | rfl | decide +kernel, fn := ⟨_, _, _, _, _, _, _, _, _, _, _, _, _, _, _, _, _, _, _, _, _, _, _, _, _, _, _, _, _, _, _, _, _, by k_is, by k_is, by k_is, by rfl, by first | rfl | decide +kernel, by k_is, fun L => ⟨_, rfl⟩⟩ }⟩
theorem er_TooMany (w : World) {h : Heap} {mg : Str → Option Value} (X : PySem.W.Frag.In (head.heap_39 w.params) h) (N : h.Ns mainGlobals mg) : ∃ C fI, PySem.W.nsIn (head.heap_39 w.params) mainGlobals "TooMany" = some (some (.ref C)) ∧ PySem.ErrX.ErrTxt (PySem.Challenge.rw_saidofadding_k03_whole_indices.prog) (head.heap_39 w.params) mg "TooMany" "most" C fI := by
  exact ⟨_, _, by k_is, { gC := PySem.W.mg_of X N (by k_is), cls := ⟨_, _, _, _, _, _, _, _, _, _, _, _, _, _, _, by k_is, by first | rfl | decide +kernel⟩, sa := by k_is, ga := by k_is, gg := by k_is, noN := by k_is, iC := by k_is, tC := by k_is, kC := by k_is, exC := by k_is, veC := by k_is, tyC := by k_is, hdC := by k_is, meC := by k_is, sup := by ks_is, opq := by k_is, gS := PySem.W.mg_none_of X N (by k_is), tS := by first | rfl | decide +kernel, fn := ⟨_, _, _, _, _, _, _, _, _, _, _, _, _, _, _, _, _, _, _, _, _, _, _, _, _, _, _, _, _, _, _, _, _, by k_is, by k_is, by k_is, by rfl, by first | rfl | decide +kernel, by k_is, fun L => ⟨_, rfl⟩⟩ }⟩
theorem dc_ORDER (w : World) : ∃ p, PySem.W.nsIn (head.heap_39 w.params) mainGlobals "ORDER" = some (some (.ref p)) ∧ KDct (head.heap_39 w.params) w p "ring" (.int (0)) ∧ KDct (head.heap_39 w.params) w p "whole" (.int (1)) ∧ KDct (head.heap_39 w.params) w p "fraction" (.int (2)) ∧ KDct (head.heap_39 w.params) w p "tower" (.int (3)) := ⟨_, by k_is, ⟨_, _, _, by k_is, by exact ⟨⟨_, _, rfl, rfl⟩, ⟨_, _, rfl, rfl⟩, ⟨_, _, rfl, rfl⟩, ⟨_, _, rfl, rfl⟩, trivial⟩, by k_is, by exact ⟨_, rfl⟩⟩, ⟨_, _, _, by k_is, by exact ⟨⟨_, _, rfl, rfl⟩, ⟨_, _, rfl, rfl⟩, ⟨_, _, rfl, rfl⟩, ⟨_, _, rfl, rfl⟩, trivial⟩, by k_is, by exact ⟨_, rfl⟩⟩, ⟨_, _, _, by k_is, by exact ⟨⟨_, _, rfl, rfl⟩, ⟨_, _, rfl, rfl⟩, ⟨_, _, rfl, rfl⟩, ⟨_, _, rfl, rfl⟩, trivial⟩, by k_is, by exact ⟨_, rfl⟩⟩, ⟨_, _, _, by k_is, by exact ⟨⟨_, _, rfl, rfl⟩, ⟨_, _, rfl, rfl⟩, ⟨_, _, rfl, rfl⟩, ⟨_, _, rfl, rfl⟩, trivial⟩, by k_is, by exact ⟨_, rfl⟩⟩⟩
theorem no_abs (w : World) : PySem.W.nsIn (head.heap_39 w.params) mainGlobals "abs" = some none := by k_is
theorem no_all (w : World) : PySem.W.nsIn (head.heap_39 w.params) mainGlobals "all" = some none := by k_is
theorem no_any (w : World) : PySem.W.nsIn (head.heap_39 w.params) mainGlobals "any" = some none := by k_is
theorem no_bool (w : World) : PySem.W.nsIn (head.heap_39 w.params) mainGlobals "bool" = some none := by k_is
theorem no_int (w : World) : PySem.W.nsIn (head.heap_39 w.params) mainGlobals "int" = some none := by k_is
theorem no_isinstance (w : World) : PySem.W.nsIn (head.heap_39 w.params) mainGlobals "isinstance" = some none := by k_is
theorem no_len (w : World) : PySem.W.nsIn (head.heap_39 w.params) mainGlobals "len" = some none := by k_is
theorem no_list (w : World) : PySem.W.nsIn (head.heap_39 w.params) mainGlobals "list" = some none := by k_is
theorem no_max (w : World) : PySem.W.nsIn (head.heap_39 w.params) mainGlobals "max" = some none := by k_is
theorem no_min (w : World) : PySem.W.nsIn (head.heap_39 w.params) mainGlobals "min" = some none := by k_is
theorem no_range (w : World) : PySem.W.nsIn (head.heap_39 w.params) mainGlobals "range" = some none := by k_is
theorem no_repr (w : World) : PySem.W.nsIn (head.heap_39 w.params) mainGlobals "repr" = some none := by k_is
theorem no_sorted (w : World) : PySem.W.nsIn (head.heap_39 w.params) mainGlobals "sorted" = some none := by k_is
theorem no_str (w : World) : PySem.W.nsIn (head.heap_39 w.params) mainGlobals "str" = some none := by k_is
theorem no_tuple (w : World) : PySem.W.nsIn (head.heap_39 w.params) mainGlobals "tuple" = some none := by k_is
theorem no_zip (w : World) : PySem.W.nsIn (head.heap_39 w.params) mainGlobals "zip" = some none := by k_is
theorem cs_t_ENDLESS (w : World) : ∃ t, PySem.W.nsIn (head.heap_39 w.params) mainGlobals "ENDLESS" = some (some (.str (Str.ofString "many") t)) := ⟨_, by k_is⟩
theorem cs_t_MOST_COPIES (w : World) : ∃ t, PySem.W.nsIn (head.heap_39 w.params) mainGlobals "MOST_COPIES" = some (some (.int 1000 t)) := ⟨_, by k_is⟩
theorem cs_t_MOST_ELEMENTS (w : World) : ∃ t, PySem.W.nsIn (head.heap_39 w.params) mainGlobals "MOST_ELEMENTS" = some (some (.int 100000 t)) := ⟨_, by k_is⟩
theorem cs_t_MOST_FACTOR (w : World) : ∃ t, PySem.W.nsIn (head.heap_39 w.params) mainGlobals "MOST_FACTOR" = some (some (.int 1000000000000 t)) := ⟨_, by k_is⟩
theorem cs_t_MOST_PLACE (w : World) : ∃ t, PySem.W.nsIn (head.heap_39 w.params) mainGlobals "MOST_PLACE" = some (some (.int 1000000000000000000 t)) := ⟨_, by k_is⟩
theorem cs_t_MOST_PLACES (w : World) : ∃ t, PySem.W.nsIn (head.heap_39 w.params) mainGlobals "MOST_PLACES" = some (some (.int 1000 t)) := ⟨_, by k_is⟩
theorem cs_t_MOST_PRIME (w : World) : ∃ t, PySem.W.nsIn (head.heap_39 w.params) mainGlobals "MOST_PRIME" = some (some (.int 1000 t)) := ⟨_, by k_is⟩
theorem cs_t_MOST_RING (w : World) : ∃ t, PySem.W.nsIn (head.heap_39 w.params) mainGlobals "MOST_RING" = some (some (.int 1000000 t)) := ⟨_, by k_is⟩
theorem cs_t_MOST_SUMMANDS (w : World) : ∃ t, PySem.W.nsIn (head.heap_39 w.params) mainGlobals "MOST_SUMMANDS" = some (some (.int 12 t)) := ⟨_, by k_is⟩
theorem bi_c_gcd (w : World) : PySem.W.nsIn (head.heap_39 w.params) mainGlobals "gcd" = some (some (.builtin "math.gcd")) := by k_is
theorem ce_BadShape (w : World) : ∃ C CE, PySem.W.nsIn (head.heap_39 w.params) mainGlobals "BadShape" = some (some (.ref C)) ∧ PySem.W.nsIn (head.heap_39 w.params) mainGlobals "AddingError" = some (some (.ref CE)) ∧ PySem.W.exmOne (head.heap_39 w.params) (.ref C) (.ref CE) = some true ∧ ErrIs (head.heap_39 w.params) C ∧ PySem.W.kitOne (head.heap_39 w.params) (.ref C) (.ref C) = some true ∧ XfC (head.heap_39 w.params) C ∧ PySem.W.findIn (head.heap_39 w.params) (.ref C) "value" = some none := by
  exact ⟨_, _, by k_is, by k_is, by kts_exm, ⟨by kernel_rfl, by k_is, by k_is, by k_is, by k_is, by k_is, by k_is, by k_is⟩, by kit_is, ⟨by k_is, by k_is, by k_is, by k_is⟩, by k_is⟩
noncomputable def adF (w : World) (i : Nat) : Addr := open Classical in if h : i < 55 then (all_defs w i h).choose else 0
noncomputable def fdF (w : World) (i : Nat) : FuncData := open Classical in if h : i < 55 then (all_defs w i h).choose_spec.choose else (all_defs w 0 (by decide)).choose_spec.choose
theorem adF_spec (w : World) (i : Nat) (h : i < 55) : PySem.W.nsIn (head.heap_39 w.params) mainGlobals (nm i) = some (some (.ref (adF w i))) ∧ L2.Fun (head.heap_39 w.params) (nm i) (nm i) (topS (atL.getD i 0)) (adF w i) (fdF w i) := by
  unfold adF fdF
  rw [dif_pos h, dif_pos h]
  exact (all_defs w i h).choose_spec.choose_spec
theorem fx_all (w : World) : Fx (head.heap_39 w.params) (adF w) (fdF w) := ⟨fun i h => (adF_spec w i h).2⟩
theorem tx_all (w : World) {h : Heap} {mg : Str → Option Value} (X : PySem.W.Frag.In (head.heap_39 w.params) h) (N : h.Ns mainGlobals mg) : ∃ cA : Nat → Addr, Tx (PySem.Challenge.rw_saidofadding_k03_whole_indices.prog) w (head.heap_39 w.params) mg (adF w) (fdF w) cA ∧ ∀ C, PySem.W.nsIn (head.heap_39 w.params) mainGlobals "BadShape" = some (some (.ref C)) → cA 2 = C := by
  obtain ⟨C0, I0, n0, E0⟩ := er_BadGroup w X N
  obtain ⟨C1, I1, n1, E1⟩ := er_BadElement w X N
  obtain ⟨C2, I2, n2, E2⟩ := er_BadShape w X N
  obtain ⟨C3, I3, n3, E3⟩ := er_BadNumber w X N
  obtain ⟨C4, I4, n4, E4⟩ := er_TooMany w X N
  refine ⟨fun c => if c = 0 then C0 else if c = 1 then C1 else if c = 2 then C2 else if c = 3 then C3 else if c = 4 then C4 else 0, {
    g := fun f hf => PySem.W.mg_of X N (adF_spec w f hf).1
    kp := fun f hf => (adF_spec w f hf).2.kp
    b := fun f hf => all_binds f hf (adF_spec w f hf).2
    e_BadGroup := ⟨I0, E0⟩
    e_BadElement := ⟨I1, E1⟩
    e_BadShape := ⟨I2, E2⟩
    e_BadNumber := ⟨I3, E3⟩
    e_TooMany := ⟨I4, E4⟩
    d_ORDER := by
      obtain ⟨p, q, k0, k1, k2, k3⟩ := dc_ORDER w
      refine ⟨p, PySem.W.mg_of X N q, fun kv hkv => ?_⟩
      simp only [tab_ORDER, List.mem_cons, List.not_mem_nil, or_false] at hkv
      rcases hkv with rfl | rfl | rfl | rfl
      · exact k0
      · exact k1
      · exact k2
      · exact k3
    abs := PySem.W.mg_none_of X N (no_abs w)
    all := PySem.W.mg_none_of X N (no_all w)
    any := PySem.W.mg_none_of X N (no_any w)
    bool := PySem.W.mg_none_of X N (no_bool w)
    int := PySem.W.mg_none_of X N (no_int w)
    isinstance := PySem.W.mg_none_of X N (no_isinstance w)
    len := PySem.W.mg_none_of X N (no_len w)
    list := PySem.W.mg_none_of X N (no_list w)
    max := PySem.W.mg_none_of X N (no_max w)
    min := PySem.W.mg_none_of X N (no_min w)
    range := PySem.W.mg_none_of X N (no_range w)
    repr := PySem.W.mg_none_of X N (no_repr w)
    sorted := PySem.W.mg_none_of X N (no_sorted w)
    str := PySem.W.mg_none_of X N (no_str w)
    tuple := PySem.W.mg_none_of X N (no_tuple w)
    zip := PySem.W.mg_none_of X N (no_zip w)
    t_ENDLESS := (cs_t_ENDLESS w).imp fun t q => PySem.W.mg_of X N q
    t_MOST_COPIES := (cs_t_MOST_COPIES w).imp fun t q => PySem.W.mg_of X N q
    t_MOST_ELEMENTS := (cs_t_MOST_ELEMENTS w).imp fun t q => PySem.W.mg_of X N q
    t_MOST_FACTOR := (cs_t_MOST_FACTOR w).imp fun t q => PySem.W.mg_of X N q
    t_MOST_PLACE := (cs_t_MOST_PLACE w).imp fun t q => PySem.W.mg_of X N q
    t_MOST_PLACES := (cs_t_MOST_PLACES w).imp fun t q => PySem.W.mg_of X N q
    t_MOST_PRIME := (cs_t_MOST_PRIME w).imp fun t q => PySem.W.mg_of X N q
    t_MOST_RING := (cs_t_MOST_RING w).imp fun t q => PySem.W.mg_of X N q
    t_MOST_SUMMANDS := (cs_t_MOST_SUMMANDS w).imp fun t q => PySem.W.mg_of X N q
    c_gcd := PySem.W.mg_of X N (bi_c_gcd w) }, fun C q => ?_⟩
  rw [n2] at q
  exact (Value.ref.inj (Option.some.inj (Option.some.inj q)))
theorem lx_sum_of_groups (w : World) : ∃ cS PS, (∃ (oc : Value) (od : Option Addr) (kV doc pm : Value) (an : Option Addr) (ct : Value) (osl : Array (Option Value)), fdF w 10 = PySem.W.fnOf "sum_of_groups" "sum_of_groups" (defArgs s_sum_of_groups) (defBody s_sum_of_groups) (defScope s_sum_of_groups) .none kV doc pm an (.ref cS) ct ∧ (head.heap_39 w.params).lookup (adF w 10) = some ⟨oc, od, .func (fdF w 10), osl⟩ ∧ PySem.W.codeIn (head.heap_39 w.params) (.ref cS) "sum_of_groups" = true) ∧
    LamAt (head.heap_39 w.params) PS ((PyProof.Rows.envOfC "sum_of_groups" (defScope s_sum_of_groups) 0 0 .none).qual ++ "<lambda>") ∧ (∀ q2, LamAt (head.heap_39 w.params) PS q2 → q2 = ((PyProof.Rows.envOfC "sum_of_groups" (defScope s_sum_of_groups) 0 0 .none).qual ++ "<lambda>")) ∧ (∀ P q2, LamAt (head.heap_39 w.params) P q2 → P = PS) ∧ PySem.W.codeHdIn (head.heap_39 w.params) cS PS = true ∧ (head.heap_39 w.params).lookup PS = none ∧ PS ∈ ([229] : List Addr) := by
  obtain ⟨f, cS, PS, oc, od, kV, doc, pm, an, ct, osl, e, dd, vs, sl, h1, h2, h3, h4, h5, h6, h7, h8, h9⟩ := fd_sum_of_groups w
  have sp := adF_spec w 10 (by decide)
  have ea : adF w 10 = f := by
    have := sp.1.symm.trans h1
    exact Value.ref.inj (Option.some.inj (Option.some.inj this))
  have ef : fdF w 10 = PySem.W.fnOf "sum_of_groups" "sum_of_groups" (defArgs s_sum_of_groups) (defBody s_sum_of_groups) (defScope s_sum_of_groups) .none kV doc pm an (.ref cS) ct := by
    obtain ⟨oc', od', kV', doc', pm', an', cdv', ct', osl', e1, e2, e3⟩ := sp.2.ex
    rw [ea, h2] at e2
    exact (Data.func.inj (congrArg Obj.data (Option.some.inj e2))).symm
  have uq : ∀ P q2, LamAt (head.heap_39 w.params) P q2 → P = PS ∧ q2 = ((PyProof.Rows.envOfC "sum_of_groups" (defScope s_sum_of_groups) 0 0 .none).qual ++ "<lambda>") := by
    rintro P q2 ⟨x, f', c', oc', od', fd', osl', e', dd', vs', sl', m1, m2, m3, m4, m5, m6, m7⟩
    obtain rfl : x = Str.ofString "sum_of_groups" := List.mem_singleton.mp m1
    obtain rfl : f' = f := Value.ref.inj (Option.some.inj (Option.some.inj (m2.symm.trans h1)))
    have e1 := Data.func.inj (congrArg Obj.data (Option.some.inj (m3.symm.trans h2)))
    rw [e1] at m4 m7
    obtain rfl : cS = c' := Value.ref.inj m4
    have e2 : vs' = vs := by
      have := congrArg Obj.data (Option.some.inj (m5.symm.trans h5))
      cases this
      rfl
    rw [e2, h6] at m6
    exact ⟨(Value.ref.inj (Option.some.inj m6)).symm, m7⟩
  refine ⟨cS, PS, ⟨oc, od, kV, doc, pm, an, ct, osl, ef, by rw [ea, ef]; exact h2, h3⟩, ⟨Str.ofString "sum_of_groups", f, cS, oc, od, _, osl, e, dd, vs, sl, List.mem_singleton.mpr rfl, h1, h2, rfl, h5, h6, rfl⟩, fun q2 l => (uq _ _ l).2, fun P q2 l => (uq _ _ l).1, h7, h8, h9⟩
end Mini
namespace Mini
open PySem L2 Evl
theorem law_at (w : World) {mg : Str → Option Value} {fa : Addr} {h : Heap} (X : PySem.W.Frag.In (head.heap_39 w.params) h) (N : h.Ns mainGlobals mg) (hmg : mg "law" = some (.ref fa)) (T : ∀ P ∈ ([229] : List Addr), h.get? P = some (PySem.W.tabObj #[])) :
    LawAtC PySem.Challenge.rw_saidofadding_k03_whole_indices w (head.heap_39 w.params) (L2.CX (PySem.Challenge.rw_saidofadding_k03_whole_indices.prog) w) 63 "script" mg fa h := by
  obtain ⟨cA, tx, hcA⟩ := tx_all w X N
  obtain ⟨cS, PS, l1, l2, l3, l4, l5, l6, l7⟩ := lx_sum_of_groups w
  obtain ⟨C, CE, b1, b2, b3, b4, b5, b6, b7⟩ := ce_BadShape w
  have hC := hcA C b1
  have ea : fa = adF w 54 := by
    have := hmg.symm.trans (PySem.W.mg_of X N (adF_spec w 54 (by decide)).1)
    exact Value.ref.inj (Option.some.inj this)
  refine ⟨fdF w 54, [(cS, PS)], spLaw (head.heap_39 w.params) (callK tabK WW 8) WW, fun p hp => ?_, fun p hp => ?_, fun p hp => ?_, fun s u => ?_, fun H a ns hl hb hT hS => ?_, fun base hK hN hTB => ?_⟩
  · obtain rfl := List.mem_singleton.mp hp
    exact T _ l7
  · obtain rfl := List.mem_singleton.mp hp
    exact l6
  · obtain rfl := List.mem_singleton.mp hp
    exact PySem.W.codeHd_of_K X l5
  · obtain ⟨oc, od, kV, doc, pm, an, cdv, ct, osl, e1, e2, e3⟩ := (adF_spec w 54 (by decide)).2.ex
    rw [e1]
    exact .of_eq rfl
  · have hP := hT (cS, PS) (List.mem_singleton.mpr rfl)
    obtain ⟨ρ', g', he⟩ := law_plain 0 ns
    refine ⟨fun b => if b = PS then none else H b, a, ns, ρ', g', rfl, fun b o e => ?_, ⟨rfl, fun P q l => ?_, fun P q l => ?_⟩, ?_, he, fun H' => rfl⟩
    · have e : (if b = PS then none else H b) = some o := e
      by_cases q : b = PS
      · rw [if_pos q] at e
        cases e
      · rw [if_neg q] at e
        exact e
    · rw [l4 P q l]
      exact LamX.TabS.nil hP
    · show (if P = PS then none else H P) = none
      rw [if_pos (l4 P q l)]
    · rcases hS with hS | hS
      · left
        have na : a ≠ PS := fun q => by
          rcases hS with hS | ⟨o, hS⟩ <;> (rw [q, hP] at hS; cases hS)
        rcases hS with hS | ⟨o, hS⟩
        · exact .inl (by show (if a = PS then none else H a) = _; rw [if_neg na]; exact hS)
        · exact .inr ⟨o, by show (if a = PS then none else H a) = _; rw [if_neg na]; exact hS⟩
      · exact .inr hS
  · rw [ea]
    have L : Lx_sum_of_groups (head.heap_39 w.params) mg base (adF w) (fdF w) := ⟨cS, PS, l1, hTB (cS, PS) (List.mem_singleton.mpr rfl), l2, l3⟩
    have hroom : Room 33 callerA := ⟨rfl, by decide, by decide⟩
    exact run_law (k := 7) (W := WW) tx (fx_all w) L hroom (fun _ => rfl) (fun env => by have := (hroom.deeper (k := 32) env).un; omega) (PySem.W.mg_of X N b2) (by rw [hC]; exact b3) (by rw [hC]; exact b4) (by rw [hC]; exact b5) (by rw [hC]; exact b6) (by rw [hC]; exact b7)
end Mini
open PySem PySem.W PyProof.Rows in
set_option maxRecDepth 100000 in
set_option maxHeartbeats 0 in
theorem PySem.Challenge.cw_saidofadding_k03_whole_indices_holds : PySem.Challenge.rw_saidofadding_k03_whole_indices.Holds :=
  head (by
    k_fill
    exact Mini.walk_ofC (l := PySem.Challenge.rw_saidofadding_k03_whole_indices) (n := 63) (x := "script") (CX := fun w => L2.CX PySem.Challenge.rw_saidofadding_k03_whole_indices.prog w) rfl (by decide) rfl (fun w h Y => PySem.W.km_in_of Y)
      (fun w s0 mg mb fa h G Y KX N hmg => Mini.law_at w KX N hmg (PySem.W.km_tabs_of Y))
      (fun w H s e s' z => by obtain ⟨_, _, _, _, _, _, _, _, _, _, _, _, f⟩ := z; exact f))
