import PyProof.Rows.All
import Wide.All
import OpenK.AllK
import Wide.FinOn
import HandS.ForMost
import HandS.Deep
import HandS.TupAny
import HandS.TupMul
import HandS.IsInst
import HandS.Zip
import HandS.Strs
import HandS.Flow
import HandS.RaiseMore
import KE.KDictZip
import KE.KDictItemsList
import KE.GoesEnum
import HandS.Defaults
import HandS.Head0
import HandS.Head1
import HandS.Head2
import HandS.HeadEnd
import HandS.HeadHook1
import HandS.HeadHook2
import PySem.Challenge.RW_copyshapes_k80_inlined
set_option Elab.async false
set_option linter.all false
set_option maxRecDepth 100000
set_option maxHeartbeats 4000000
/-! ZA: data in the heap (Rp), worlds (Ext, Rep), what an expression denotes (DE, DT) -/
namespace Z
open PySem L2

abbrev D := PyData
/-- a dict's key as data -/
def kD : Key → D
  | .inl i => .int i
  | .inr x => .str x

mutual
/-- in the frozen part G the value v is the data d -/
inductive Rp (K : PySem.W.Frag) (G : Hp) : V → PyData → Prop
  | non : Rp K G .non .none
  | bl (b : Bool) : Rp K G (.bl b) (.bool b)
  | int (i : Int) : Rp K G (.int i) (.int i)
  | str (x : Str) : Rp K G (.str x) (.str x)
  | lst {a : Addr} {xs : List V} {ds : List PyData} : Rd G a (.lst xs) → RpA K G xs ds → Rp K G (.ref a) (.list ds)
  | tup {a : Addr} {xs : List V} {ds : List PyData} : SqT K G a xs → RpA K G xs ds → Rp K G (.ref a) (.tuple ds)
  | dic {a : Addr} {kvs : List (Key × V)} {ds : List (PyData × PyData)} : G a = some (.dK kvs) → RpD K G kvs ds → Rp K G (.ref a) (.dict ds)
inductive RpA (K : PySem.W.Frag) (G : Hp) : List V → List PyData → Prop
  | nil : RpA K G [] []
  | cons {v : V} {vs : List V} {d : PyData} {ds : List PyData} : Rp K G v d → RpA K G vs ds → RpA K G (v :: vs) (d :: ds)
inductive RpD (K : PySem.W.Frag) (G : Hp) : List (Key × V) → List (PyData × PyData) → Prop
  | nil : RpD K G [] []
  | cons {k : Key} {v : V} {kvs : List (Key × V)} {d : PyData} {ds : List (PyData × PyData)} : Rp K G v d → RpD K G kvs ds → RpD K G ((k, v) :: kvs) ((kD k, d) :: ds)
end

theorem Same.rd {H H' : Hp} {a : Addr} {u : HO} (e : Same H H') (h : Rd H a u) : Rd H' a u := by
  rcases h with h | ⟨o, h⟩
  · exact .inl (e _ _ h)
  · exact .inr ⟨o, e _ _ h⟩
theorem Same.sqt {K : PySem.W.Frag} {H H' : Hp} {a : Addr} {xs : List V} (e : Same H H') (h : SqT K H a xs) : SqT K H' a xs := by
  rcases h with h | h
  · exact .inl (Same.rd e h)
  · exact .inr h

section
variable {K : PySem.W.Frag} {G G' : Hp}
mutual
theorem Rp.mono (e : Same G G') : ∀ {v : V} {d : PyData}, Rp K G v d → Rp K G' v d
  | _, _, .non => .non
  | _, _, .bl b => .bl b
  | _, _, .int b => .int b
  | _, _, .str b => .str b
  | _, _, .lst h r => .lst (Same.rd e h) (RpA.mono e r)
  | _, _, .tup h r => .tup (Same.sqt e h) (RpA.mono e r)
  | _, _, .dic h r => .dic (e _ _ h) (RpD.mono e r)
theorem RpA.mono (e : Same G G') : ∀ {v : List V} {d : List PyData}, RpA K G v d → RpA K G' v d
  | _, _, .nil => .nil
  | _, _, .cons h r => .cons (Rp.mono e h) (RpA.mono e r)
theorem RpD.mono (e : Same G G') : ∀ {v : List (Key × V)} {d : List (PyData × PyData)}, RpD K G v d → RpD K G' v d
  | _, _, .nil => .nil
  | _, _, .cons h r => .cons (Rp.mono e h) (RpD.mono e r)
end
theorem RpA.length : ∀ {vs : List V} {ds : List PyData}, RpA K G vs ds → vs.length = ds.length
  | _, _, .nil => rfl
  | _, _, .cons _ r => by rw [List.length_cons, List.length_cons, RpA.length r]
theorem RpD.length : ∀ {vs : List (Key × V)} {ds : List (PyData × PyData)}, RpD K G vs ds → vs.length = ds.length
  | _, _, .nil => rfl
  | _, _, .cons _ r => by rw [List.length_cons, List.length_cons, RpD.length r]
theorem RpA.get : ∀ {vs : List V} {ds : List PyData} {i : Nat} {d : PyData}, RpA K G vs ds → ds[i]? = some d → ∃ v, vs[i]? = some v ∧ Rp K G v d
  | _, _, _, _, .nil, e => by simp at e
  | _, _, 0, _, .cons h _, e => by simp at e; subst e; exact ⟨_, rfl, h⟩
  | _, _, i + 1, d, .cons _ r, e => by
    obtain ⟨v, h1, h2⟩ := RpA.get (i := i) (d := d) r (by simpa using e)
    exact ⟨v, by simpa using h1, h2⟩
theorem RpA.app : ∀ {vs ws : List V} {ds es : List PyData}, RpA K G vs ds → RpA K G ws es → RpA K G (vs ++ ws) (ds ++ es)
  | _, _, _, _, .nil, s => s
  | _, _, _, _, .cons h r, s => .cons h (RpA.app r s)
theorem RpA.take : ∀ {vs : List V} {ds : List PyData} (n : Nat), RpA K G vs ds → RpA K G (vs.take n) (ds.take n)
  | _, _, 0, _ => .nil
  | _, _, _ + 1, .nil => .nil
  | _, _, n + 1, .cons h r => .cons h (RpA.take n r)
theorem RpA.drop : ∀ {vs : List V} {ds : List PyData} (n : Nat), RpA K G vs ds → RpA K G (vs.drop n) (ds.drop n)
  | _, _, 0, r => r
  | _, _, _ + 1, .nil => .nil
  | _, _, n + 1, .cons _ r => RpA.drop n r
theorem RpA.rep {vs : List V} {ds : List PyData} (h : RpA K G vs ds) : ∀ n : Nat, RpA K G (List.replicate n vs).flatten (List.replicate n ds).flatten
  | 0 => .nil
  | n + 1 => by
    rw [List.replicate_succ, List.replicate_succ, List.flatten_cons, List.flatten_cons]
    exact RpA.app h (RpA.rep h n)
theorem RpA.ints : ∀ (ns : List Int), RpA K G (ns.map V.int) (ns.map PyData.int)
  | [] => .nil
  | n :: r => .cons (.int n) (RpA.ints r)
end

/-! ### worlds -/
/-- G, H ahead; G', H' behind: all stands, what is newly frozen is new -/
structure Ext (G H G' H' : Hp) : Prop where
  g : Same G G'
  h : Same H H'
  s : Same G' H'
  n : ∀ a, G' a ≠ none → G a ≠ none ∨ H a = none
theorem Ext.refl {G H : Hp} (s : Same G H) : Ext G H G H := ⟨.refl _, .refl _, s, fun _ h => .inl h⟩
theorem Ext.trans {G H G1 H1 G2 H2 : Hp} (a : Ext G H G1 H1) (b : Ext G1 H1 G2 H2) : Ext G H G2 H2 :=
  ⟨a.g.trans b.g, a.h.trans b.h, b.s, fun x hx => by
    rcases b.n x hx with q | q
    · exact a.n x q
    · exact .inr (a.h.free q)⟩
theorem Ext.old {G H G' H' : Hp} (a : Ext G H G' H') {p : Addr} {o : HO} (h1 : G p = none) (h2 : H p = some o) : G' p = none := by
  cases q : G' p with
  | none => rfl
  | some u =>
    rcases a.n p (by rw [q]; exact fun z => nomatch z) with z | z
    · exact absurd h1 z
    · rw [h2] at z; cases z
theorem same_new {H : Hp} {p : Addr} {o : HO} (h : H p = none) : Same H (upd H p o) := fun b u q => by
  rw [upd_ne (ne_of_none q h)]; exact q
theorem Same.upd2 {G H : Hp} (s : Same G H) (p : Addr) (o : HO) : Same (upd G p o) (upd H p o) := fun b u q => by
  by_cases hb : b = p
  · subst hb; rw [upd_same] at q ⊢; exact q
  · rw [upd_ne hb] at q ⊢; exact s b u q
/-- a new object, frozen at once -/
theorem Ext.new {G H : Hp} (s : Same G H) {p : Addr} (o : HO) (h : H p = none) : Ext G H (upd G p o) (upd H p o) :=
  ⟨same_new (s.free h), same_new h, Same.upd2 s p o, fun a ha => by
    by_cases e : a = p
    · subst e; exact .inr h
    · rw [upd_ne e] at ha; exact .inl ha⟩
/-- a new object, not frozen -/
theorem Ext.newO {G H : Hp} (s : Same G H) {p : Addr} (o : HO) (h : H p = none) : Ext G H G (upd H p o) :=
  ⟨.refl _, same_new h, s.trans (same_new h), fun _ ha => .inl ha⟩

/-! ### what stands at the top of a list or dict that is read -/
/-- at p a list or dict of frozen things -/
inductive Top (K : PySem.W.Frag) (G H : Hp) : Addr → PyData → Prop
  | lst {p : Addr} {xs : List V} {ds : List PyData} : H p = some (.lst xs) → RpA K G xs ds → Top K G H p (.list ds)
  | dic {p : Addr} {kvs : List (Key × V)} {ds : List (PyData × PyData)} : H p = some (.dK kvs) → RpD K G kvs ds → Top K G H p (.dict ds)
theorem Top.ext {K : PySem.W.Frag} {G H G' H' : Hp} {p : Addr} {d : PyData} (e : Ext G H G' H') (h : Top K G H p d) : Top K G' H' p d := by
  cases h with
  | lst h r => exact .lst (e.h _ _ h) (r.mono e.g)
  | dic h r => exact .dic (e.h _ _ h) (r.mono e.g)
theorem Top.there {K : PySem.W.Frag} {G H : Hp} {p : Addr} {d : PyData} (h : Top K G H p d) : ∃ o, H p = some o := by
  cases h with
  | lst h r => exact ⟨_, h⟩
  | dic h r => exact ⟨_, h⟩
theorem Top.rp {K : PySem.W.Frag} {G H : Hp} {p : Addr} {d : PyData} (h : Top K G H p d) : ∃ o, H p = some o ∧ ∀ G', Same G G' → G' p = some o → Rp K G' (.ref p) d := by
  cases h with
  | lst h r => exact ⟨_, h, fun G' s q => .lst (.inl q) (r.mono s)⟩
  | dic h r => exact ⟨_, h, fun G' s q => .dic q (r.mono s)⟩
/-- what is new is frozen -/
theorem Ext.frz {G H G' H' : Hp} {p : Addr} {o : HO} (e : Ext G H G' H') (gp : G' p = none) (hp : H p = none) (h1 : H' p = some o) : Ext G H (upd G' p o) H' := by
  refine ⟨e.g.trans (same_new gp), e.h, fun b u hb => ?_, fun a ha => ?_⟩
  · by_cases hbp : b = p
    · subst hbp; rw [upd_same] at hb; cases hb; exact h1
    · rw [upd_ne hbp] at hb; exact e.s _ _ hb
  · by_cases hap : a = p
    · subst hap; exact .inr hp
    · rw [upd_ne hap] at ha; exact e.n a ha
/-- readable now -/
def Rt (K : PySem.W.Frag) (G H : Hp) (v : V) (d : PyData) : Prop := Rp K G v d ∨ ∃ p, v = .ref p ∧ Top K G H p d
theorem Rt.ext {K : PySem.W.Frag} {G H G' H' : Hp} {v : V} {d : PyData} (e : Ext G H G' H') (h : Rt K G H v d) : Rt K G' H' v d := by
  rcases h with h | ⟨p, e1, h⟩
  · exact .inl (h.mono e.g)
  · exact .inr ⟨p, e1, h.ext e⟩
section
variable {K : PySem.W.Frag} {G H : Hp} {v : V}
theorem Rt.int {i : Int} (h : Rt K G H v (.int i)) : v = .int i := by
  rcases h with h | ⟨p, e1, h⟩
  · cases h; rfl
  · cases h
theorem Rt.str {i : Str} (h : Rt K G H v (.str i)) : v = .str i := by
  rcases h with h | ⟨p, e1, h⟩
  · cases h; rfl
  · cases h
theorem Rt.bool {i : Bool} (h : Rt K G H v (.bool i)) : v = .bl i := by
  rcases h with h | ⟨p, e1, h⟩
  · cases h; rfl
  · cases h
theorem Rt.none (h : Rt K G H v .none) : v = .non := by
  rcases h with h | ⟨p, e1, h⟩
  · cases h; rfl
  · cases h
theorem Rt.tuple {ds : List D} (s : Same G H) (h : Rt K G H v (.tuple ds)) : ∃ a xs, v = .ref a ∧ SqT K H a xs ∧ SqT K G a xs ∧ RpA K G xs ds := by
  rcases h with h | ⟨p, e1, h⟩
  · cases h with
    | tup h r => exact ⟨_, _, rfl, Same.sqt s h, h, r⟩
  · cases h
theorem Rt.list {ds : List D} (s : Same G H) (h : Rt K G H v (.list ds)) : ∃ a xs, v = .ref a ∧ Rd H a (.lst xs) ∧ RpA K G xs ds := by
  rcases h with h | ⟨p, e1, h⟩
  · cases h with
    | lst h r => exact ⟨_, _, rfl, Same.rd s h, r⟩
  · cases h with
    | lst h r => exact ⟨_, _, e1, .inl h, r⟩
theorem Rt.dict {ds : List (D × D)} (s : Same G H) (h : Rt K G H v (.dict ds)) : ∃ a xs, v = .ref a ∧ H a = some (.dK xs) ∧ RpD K G xs ds := by
  rcases h with h | ⟨p, e1, h⟩
  · cases h with
    | dic h r => exact ⟨_, _, rfl, s _ _ h, r⟩
  · cases h with
    | dic h r => exact ⟨_, _, e1, h, r⟩
theorem SqL.rd {a : Addr} {xs : List V} (h : Rd H a (.lst xs)) : SqL K H a xs := .inl h
end

mutual
/-- without dicts it is the library's data -/
def plain : PyData → Bool
  | .dict _ => false
  | .list ds => plainAll ds
  | .tuple ds => plainAll ds
  | _ => true
def plainAll : List PyData → Bool
  | [] => true
  | d :: ds => plain d && plainAll ds
end
section
variable {K : PySem.W.Frag} {G H : Hp}
mutual
theorem Rp.dp (s : Same G H) : ∀ {v : V} {d : PyData}, Rp K G v d → plain d = true → Dp K H v d
  | _, _, .non, _ => .non
  | _, _, .bl b, _ => .bl b
  | _, _, .int b, _ => .int b
  | _, _, .str b, _ => .str b
  | _, _, .lst h r, q => .lst (.inl (Same.rd s h)) (RpA.dp s r (by simpa [plain] using q))
  | _, _, .tup h r, q => .tup (Same.sqt s h) (RpA.dp s r (by simpa [plain] using q))
  | _, _, .dic h r, q => by simp [plain] at q
theorem RpA.dp (s : Same G H) : ∀ {v : List V} {d : List PyData}, RpA K G v d → plainAll d = true → DpAll K H v d
  | _, _, .nil, _ => .nil
  | _, _, .cons h r, q => by
    have q' := Bool.and_eq_true_iff.mp (show (plain _ && plainAll _) = true from q)
    exact .cons (Rp.dp s h q'.1) (RpA.dp s r q'.2)
end
theorem Rt.dp {v : V} {d : PyData} (s : Same G H) (h : Rt K G H v d) (q : plain d = true) : Dp K H v d := by
  rcases h with h | ⟨p, e1, h⟩
  · exact h.dp s q
  · cases h with
    | lst h r => subst e1; exact .lst (.inl (.inl h)) (r.dp s (by simpa [plain] using q))
    | dic h r => simp [plain] at q
end

/-! ### environments -/
inductive Sl where
  | no
  /-- frozen -/
  | im (d : PyData)
  /-- a list or dict of the frame's own, that may be changed -/
  | ow (d : PyData)
abbrev En := List Sl

structure Rep (K : PySem.W.Frag) (G0 H0 G H : Hp) (σ : L2.St) (env : En) : Prop where
  g : Same G0 G
  s : Same G H
  h : Same H0 H
  n : ∀ a, G a ≠ none → G0 a ≠ none ∨ H0 a = none
  len : σ.length = env.length
  im : ∀ (i : Nat) d, env[i]? = some (.im d) → ∃ v, σ[i]? = some (some v) ∧ Rp K G v d
  ow : ∀ (i : Nat) d, env[i]? = some (.ow d) → ∃ p, σ[i]? = some (some (.ref p)) ∧ G p = none ∧ H0 p = none ∧ Top K G H p d
  dj : ∀ (i j : Nat) d e p, i ≠ j → env[i]? = some (.ow d) → env[j]? = some (.ow e) → σ[i]? = some (some (.ref p)) → σ[j]? ≠ some (some (.ref p))
section
variable {K : PySem.W.Frag} {G0 H0 G H G' H' : Hp} {σ : L2.St} {env : En}
theorem Rep.ext (r : Rep K G0 H0 G H σ env) (e : Ext G H G' H') : Rep K G0 H0 G' H' σ env where
  g := r.g.trans e.g
  s := e.s
  h := r.h.trans e.h
  n := fun a ha => by
    rcases e.n a ha with q | q
    · exact r.n a q
    · exact .inr (r.h.free q)
  len := r.len
  im := fun i d q => let ⟨v, a, b⟩ := r.im i d q; ⟨v, a, b.mono e.g⟩
  ow := fun i d q => by
    obtain ⟨p, a, b, c, t⟩ := r.ow i d q
    obtain ⟨o, ho⟩ := t.there
    exact ⟨p, a, e.old b ho, c, t.ext e⟩
  dj := r.dj
end

/-! ### what a reading computes -/
def SE (K : PySem.W.Frag) (t : TE) (f : En → Option D) : Prop := ∀ G0 H0 G H σ env d, Rep K G0 H0 G H σ env → f env = some d → ∀ Q : VK, (∀ v G' H', Ext G H G' H' → Rp K G' v d → Q v H') → t σ H Q
/-- .. only to be read -/
def SR (K : PySem.W.Frag) (t : TE) (f : En → Option D) : Prop := ∀ G0 H0 G H σ env d, Rep K G0 H0 G H σ env → f env = some d → ∀ Q : VK, (∀ v G' H', Ext G H G' H' → Rt K G' H' v d → Q v H') → t σ H Q
/-- .. a new list or dict of one's own -/
def SO (K : PySem.W.Frag) (t : TE) (f : En → Option D) : Prop := ∀ G0 H0 G H σ env d, Rep K G0 H0 G H σ env → f env = some d → ∀ Q : VK, (∀ p G' H', Ext G H G' H' → G' p = none → H p = none → Top K G' H' p d → Q (.ref p) H') → t σ H Q
def SB (K : PySem.W.Frag) (t : TT) (f : En → Option Bool) : Prop := ∀ G0 H0 G H σ env b, Rep K G0 H0 G H σ env → f env = some b → ∀ Q : Bool → Hp → Prop, (∀ G' H', Ext G H G' H' → Q b H') → t σ H Q
def SA (K : PySem.W.Frag) (t : TA) (f : En → Option (List D)) : Prop := ∀ G0 H0 G H σ env ds, Rep K G0 H0 G H σ env → f env = some ds → ∀ Q : List V → Hp → Prop, (∀ vs G' H', Ext G H G' H' → RpA K G' vs ds → Q vs H') → t σ H Q
inductive RtA (K : PySem.W.Frag) (G H : Hp) : List V → List PyData → Prop
  | nil : RtA K G H [] []
  | cons {v : V} {vs : List V} {d : PyData} {ds : List PyData} : Rt K G H v d → RtA K G H vs ds → RtA K G H (v :: vs) (d :: ds)
theorem RtA.ext {K : PySem.W.Frag} {G H G' H' : Hp} (e : Ext G H G' H') : ∀ {vs : List V} {ds : List PyData}, RtA K G H vs ds → RtA K G' H' vs ds
  | _, _, .nil => .nil
  | _, _, .cons h r => .cons (h.ext e) (RtA.ext e r)
def SAR (K : PySem.W.Frag) (t : TA) (f : En → Option (List D)) : Prop := ∀ G0 H0 G H σ env ds, Rep K G0 H0 G H σ env → f env = some ds → ∀ Q : List V → Hp → Prop, (∀ vs G' H', Ext G H G' H' → RtA K G' H' vs ds → Q vs H') → t σ H Q

structure DE (X : Cx) (e : Expr) (t : TE) (f : En → Option D) : Prop where
  pe : PE X e t
  se : SE X.K t f
structure DR (X : Cx) (e : Expr) (t : TE) (f : En → Option D) : Prop where
  pe : PE X e t
  se : SR X.K t f
structure DO (X : Cx) (e : Expr) (t : TE) (f : En → Option D) : Prop where
  pe : PE X e t
  se : SO X.K t f
structure DB (X : Cx) (e : Expr) (t : TT) (f : En → Option Bool) : Prop where
  pt : PT X e t
  sb : SB X.K t f
structure DW (X : Cx) (e : Expr) (t : TT) (f : En → Option Bool) : Prop where
  pw : PW X e t
  sb : SB X.K t f
structure DA (X : Cx) (es : List Expr) (t : TA) (f : En → Option (List D)) : Prop where
  pa : PA X es t
  sa : SA X.K t f
  ln : ∀ env ds, f env = some ds → ds.length = es.length
structure DAR (X : Cx) (es : List Expr) (t : TA) (f : En → Option (List D)) : Prop where
  pa : PA X es t
  sa : SAR X.K t f
section
variable {X : Cx} {ex : Expr} {t : TE} {f : En → Option D}
theorem DE.r (h : DE X ex t f) : DR X ex t f := ⟨h.pe, fun G0 H0 G H σ env d r q Q k => h.se G0 H0 G H σ env d r q Q fun v G' H' e p => k v G' H' e (.inl p)⟩
theorem DO.e (h : DO X ex t f) : DE X ex t f := ⟨h.pe, fun G0 H0 G H σ env d r q Q k => h.se G0 H0 G H σ env d r q Q fun p G' H' e gp hp tp => by
  obtain ⟨o, ho, hr⟩ := tp.rp
  exact k (.ref p) (upd G' p o) H' (e.frz gp hp ho) (hr _ (same_new gp) upd_same)⟩
end

/-! ### names and constants -/
def dVar (i : Nat) (env : En) : Option D := match env[i]? with
  | some (.im d) => some d
  | _ => none
def dVarT (i : Nat) (env : En) : Option D := match env[i]? with
  | some (.im d) => some d
  | some (.ow d) => some d
  | _ => none
def dC (d : D) (_ : En) : Option D := some d
section
variable {X : Cx}
theorem de_v (i : Nat) {x : Str} {pos : Pos} (hN : X.N[i]? = some x := by rfl) (hv : Vis X.env.scope x := by first | exact Or.inl rfl | exact Or.inr (Or.inl rfl) | exact Or.inr (Or.inr rfl)) (hd : (x == ("__debug__" : Str)) = false := by decide)
    (hcd : (x == ("__classdict__" : Str)) = false := by decide) : DE X (.Name x pos) (tVar i) (dVar i) := by
  refine ⟨pe_var hN hv hd hcd, fun G0 H0 G H σ env d r q Q k => ?_⟩
  unfold dVar at q
  split at q
  · rename_i d' e
    cases q
    obtain ⟨v, hv, hr⟩ := r.im i _ e
    exact ⟨v, hv, k v G H (.refl r.s) hr⟩
  · cases q
theorem dr_v (i : Nat) {x : Str} {pos : Pos} (hN : X.N[i]? = some x := by rfl) (hv : Vis X.env.scope x := by first | exact Or.inl rfl | exact Or.inr (Or.inl rfl) | exact Or.inr (Or.inr rfl)) (hd : (x == ("__debug__" : Str)) = false := by decide)
    (hcd : (x == ("__classdict__" : Str)) = false := by decide) : DR X (.Name x pos) (tVar i) (dVarT i) := by
  refine ⟨pe_var hN hv hd hcd, fun G0 H0 G H σ env d r q Q k => ?_⟩
  unfold dVarT at q
  split at q
  · rename_i d' e
    cases q
    obtain ⟨v, hv, hr⟩ := r.im i _ e
    exact ⟨v, hv, k v G H (.refl r.s) (.inl hr)⟩
  · rename_i d' e
    cases q
    obtain ⟨p, hv, _, _, ht⟩ := r.ow i _ e
    exact ⟨_, hv, k _ G H (.refl r.s) (.inr ⟨p, rfl, ht⟩)⟩
  · cases q
theorem de_int {i j pos} : DE X (.Constant (.int i) j pos) (tC (.int i)) (dC (.int i)) := ⟨pe_int, fun G0 H0 G H σ env d r q Q k => by cases q; exact k _ G H (.refl r.s) (.int i)⟩
theorem de_str {x j pos} : DE X (.Constant (.str x) j pos) (tC (.str x)) (dC (.str x)) := ⟨pe_str, fun G0 H0 G H σ env d r q Q k => by cases q; exact k _ G H (.refl r.s) (.str x)⟩
theorem de_bl {b j pos} : DE X (.Constant (.bool b) j pos) (tC (.bl b)) (dC (.bool b)) := ⟨pe_bl, fun G0 H0 G H σ env d r q Q k => by cases q; exact k _ G H (.refl r.s) (.bl b)⟩
theorem de_non {j pos} : DE X (.Constant .none j pos) (tC .non) (dC .none) := ⟨pe_non, fun G0 H0 G H σ env d r q Q k => by cases q; exact k _ G H (.refl r.s) .non⟩
/-- a module's constant -/
theorem de_glob {x : Str} {v : V} {u : Value} {d : D} {pos : Pos} (hg : Gl X x) (hm : X.mg x = some u) (r : RelV v u) (hp : ∀ G, Rp X.K G v d) (hd : (x == ("__debug__" : Str)) = false := by decide) : DE X (.Name x pos) (tC v) (dC d) :=
  ⟨pe_glob hg hm r hd, fun G0 H0 G H σ env d r q Q k => by cases q; exact k _ G H (.refl r.s) (hp G)⟩
end

/-! ### two operands -/
def dOp2 (o : D → D → Option D) (fa fb : En → Option D) (env : En) : Option D := (fa env).bind fun x => (fb env).bind fun y => o x y
def RZ (K : PySem.W.Frag) (r : R2) (o : D → D → Option D) : Prop := ∀ G H x y dx dy d, Same G H → Rt K G H x dx → Rt K G H y dy → o dx dy = some d → ∀ Q : VK, (∀ v G' H', Ext G H G' H' → Rp K G' v d → Q v H') → r x y H Q
theorem RZ.or1 {K : PySem.W.Frag} {r r' : R2} {o : D → D → Option D} (h : RZ K r o) : RZ K (fun x y H Q => r x y H Q ∨ r' x y H Q) o := fun G H x y dx dy d s a b c Q k => .inl (h G H x y dx dy d s a b c Q k)
/-- by the first where it says something, else by the second -/
def orO (o o' : D → D → Option D) (x y : D) : Option D := match o x y with
  | some d => some d
  | none => o' x y
theorem RZ.or {K : PySem.W.Frag} {r r' : R2} {o o' : D → D → Option D} (h : RZ K r o) (h' : RZ K r' o') : RZ K (fun x y H Q => r x y H Q ∨ r' x y H Q) (orO o o') := fun G H x y dx dy d s a b c Q k => by
  unfold orO at c
  split at c
  · rename_i e
    cases c
    exact .inl (h G H x y dx dy _ s a b e Q k)
  · exact .inr (h' G H x y dx dy _ s a b c Q k)
theorem se_op {K : PySem.W.Frag} {r : R2} {o : D → D → Option D} {ta tb : TE} {fa fb : En → Option D} (hr : RZ K r o) (ha : SR K ta fa) (hb : SR K tb fb) : SE K (tOp r ta tb) (dOp2 o fa fb) := fun G0 H0 G H σ env d rp q Q k => by
  unfold dOp2 at q
  obtain ⟨x, qx, q⟩ := Option.bind_eq_some_iff.mp q
  obtain ⟨y, qy, q⟩ := Option.bind_eq_some_iff.mp q
  refine ha G0 H0 G H σ env x rp qx _ fun v G1 H1 e1 r1 => ?_
  have rp1 := rp.ext e1
  refine hb G0 H0 G1 H1 σ env y rp1 qy _ fun w G2 H2 e2 r2 => ?_
  exact hr G2 H2 v w x y d e2.s (r1.ext e2) r2 q Q fun z G3 H3 e3 r3 => k z G3 H3 ((e1.trans e2).trans e3) r3
section
variable {X : Cx} {a b : Expr} {ta tb : TE} {fa fb : En → Option D} {pos : Pos} {r : R2} {o : D → D → Option D}
theorem de_op {op : Operator} (ho : OpR X (binaryOp op) r) (hr : RZ X.K r o) (ha : DR X a ta fa) (hb : DR X b tb fb) : DE X (.BinOp a op b pos) (tOp r ta tb) (dOp2 o fa fb) := ⟨pe_op ho ha.pe hb.pe, se_op hr ha.se hb.se⟩
theorem de_cmp {op : CmpOp} (ho : OpR X (compareOp op) r) (hr : RZ X.K r o) (ha : DR X a ta fa) (hb : DR X b tb fb) (hm : behindInMarks op b = false) : DE X (.Compare a [op] [b] pos) (tOp r ta tb) (dOp2 o fa fb) := ⟨pe_cmpR ho ha.pe hb.pe hm, se_op hr ha.se hb.se⟩
def bOf (f : En → Option D) (env : En) : Option Bool := (f env).bind fun d => match d with
  | .bool b => some b
  | _ => none
theorem sb_test {K : PySem.W.Frag} {t : TE} {f : En → Option D} (h : SE K t f) : SB K (tTest t) (bOf f) := fun G0 H0 G H σ env b rp q Q k => by
  unfold bOf at q
  obtain ⟨x, qx, q⟩ := Option.bind_eq_some_iff.mp q
  refine h G0 H0 G H σ env x rp qx _ fun v G1 H1 e1 r1 => ?_
  split at q
  · cases q
    cases r1
    exact ⟨_, rfl, k G1 H1 e1⟩
  · cases q
theorem db_cmp {op : CmpOp} (ho : OpR X (compareOp op) r) (hr : RZ X.K r o) (ha : DR X a ta fa) (hb : DR X b tb fb) (hm : behindInMarks op b = false) : DB X (.Compare a [op] [b] pos) (tTest (tOp r ta tb)) (bOf (dOp2 o fa fb)) :=
  ⟨pt_cmpR ho ha.pe hb.pe hm, sb_test (se_op hr ha.se hb.se)⟩
/-- a bool as a test -/
theorem db_val {e : Expr} {t : TE} {f : En → Option D} (h : DE X e t f) (he : ∀ whole, isTrue e X.env whole = (do let v ← whole; standAt e.pos; holding [v] (truthy v)) := by intro _; rfl) : DB X e (tB t) (bOf f) :=
  ⟨pt_val h.pe he, sb_test h.se⟩
end
end Z

set_option Elab.async false
set_option linter.all false
set_option maxRecDepth 100000
set_option maxHeartbeats 4000000
/-! ZB: the operations on data: what each gives, and that the machine gives it -/
namespace Z
open PySem L2

section
variable {K : PySem.W.Frag} {G : Hp}
theorem RpA.atI {vs : List V} {ds : List D} {i : Int} {d : D} (r : RpA K G vs ds) (h : atI ds i = some d) : ∃ v, atI vs i = some v ∧ Rp K G v d := by
  unfold L2.atI at h ⊢
  rw [r.length]
  obtain ⟨j, e, h⟩ := Option.bind_eq_some_iff.mp h
  obtain ⟨v, h1, h2⟩ := r.get h
  rw [e]
  exact ⟨v, h1, h2⟩
def cutD (ds : List D) (lo hi : Option Int) : List D := (ds.drop (HT.sIx ds.length 0 lo)).take (HT.sIx ds.length ds.length hi - HT.sIx ds.length 0 lo)
theorem RpA.cut {vs : List V} {ds : List D} (r : RpA K G vs ds) (lo hi : Option Int) : RpA K G (cutV vs lo hi) (cutD ds lo hi) := by
  unfold cutV cutD
  rw [r.length]
  exact (r.drop _).take _
theorem cutD_whole {ds : List D} {lo hi : Option Int} (h1 : HT.sIx ds.length 0 lo = 0) (h2 : HT.sIx ds.length ds.length hi = ds.length) : cutD ds lo hi = ds := by
  unfold cutD
  rw [h1, h2]
  simp
/-- what a key of data is -/
def keyOf : D → Option Key
  | .int i => some (.inl i)
  | .str x => some (.inr x)
  | _ => none
theorem keyOf_kD (k : Key) : keyOf (kD k) = some k := by cases k <;> rfl
def dLook : List (D × D) → Key → Option D
  | [], _ => none
  | p :: r, k => if keyOf p.1 = some k then some p.2 else dLook r k
theorem RpD.look : ∀ {kvs : List (Key × V)} {ds : List (D × D)}, RpD K G kvs ds → ∀ k : Key, (∀ d, dLook ds k = some d → ∃ v, valV kvs k = some v ∧ Rp K G v d) ∧ (dLook ds k = none → valV kvs k = none)
  | _, _, .nil, k => ⟨fun d h => (nomatch h), fun _ => rfl⟩
  | _, _, .cons (k := k') h r, k => by
    by_cases e : k' = k
    · subst e
      refine ⟨fun d q => ?_, fun q => ?_⟩
      · simp only [dLook, keyOf_kD] at q
        cases q
        exact ⟨_, valV_pos rfl, h⟩
      · simp [dLook, keyOf_kD] at q
    · have e' : ¬ some k' = some k := fun z => e (Option.some.inj z)
      refine ⟨fun d q => ?_, fun q => ?_⟩
      · simp only [dLook, keyOf_kD, if_neg e'] at q
        obtain ⟨v, h1, h2⟩ := (RpD.look r k).1 d q
        exact ⟨v, (valV_neg e).trans h1, h2⟩
      · simp only [dLook, keyOf_kD, if_neg e'] at q
        exact (valV_neg e).trans ((RpD.look r k).2 q)
end

/-! ### + -/
def oAdd : D → D → Option D
  | .int a, .int b => some (.int (a + b))
  | .str a, .str b => if a.length + b.length ≤ sizeLine then some (.str (a ++ b)) else none
  | .list a, .list b => if a.length + b.length ≤ sizeLine then some (.list (a ++ b)) else none
  | .tuple a, .tuple b => if a.length + b.length ≤ sizeLine then some (.tuple (a ++ b)) else none
  | _, _ => none
section
variable {X : Cx}
/-- a list as it lies in the heap -/
theorem rd_lst {pins : List (Addr × Obj)} {σ : L2.St} {H : Hp} {s : Shared} {l : Addr} {xs : List V} (I : Inv X pins σ H s) (h : Rd H l (.lst xs)) :
    xs.length ≤ sizeLine ∧ ∃ (its : List Value) (n : Nat), Vals xs its ∧ xs.length = its.length ∧ s.heap.get? l = some { cls := .type "list", data := .seq its.toArray n } := by
  obtain ⟨z, its, n, r, e⟩ := h.ok I.hok
  exact ⟨z, its, n, r, r.length, e⟩
def rCatR : R2 := fun x y H Q => ∃ l b xs zs, x = .ref l ∧ y = .ref b ∧ Rd H l (.lst xs) ∧ Rd H b (.lst zs) ∧ xs.length + zs.length ≤ sizeLine ∧ ∀ p, H p = none → Q (.ref p) (upd H p (.lst (xs ++ zs)))
theorem op_catR : OpR X (binaryOp .Add) rCatR := by
  intro pins s σ H x y v u Q I rx ry h
  obtain ⟨l, b, xs, zs, rfl, rfl, h1, h2, hz, q⟩ := h
  cases rx
  cases ry
  obtain ⟨_, i1, n1, r1, l1, e1⟩ := rd_lst I h1
  obtain ⟨_, i2, n2, r2, l2, e2⟩ := rd_lst I h2
  refine PySem.P.add_list e1 e2 ?_ (by rw [List.size_toArray, List.size_toArray]; omega)
  have ea : i1.toArray ++ i2.toArray = (i1 ++ i2).toArray := by simp
  rw [ea]
  exact ⟨.ref _, _, I.lnew (t' := s.toks) (r1.append r2) (by rw [List.length_append]; omega), rfl, q _ I.fresh⟩
def rAddS : R2 := fun x y H Q => ∃ i j, x = .str i ∧ y = .str j ∧ i.length + j.length ≤ sizeLine ∧ Q (.str (i ++ j)) H
def rAddZ (K : PySem.W.Frag) : R2 := fun x y H Q => (rI0 fun i j => .int (i + j)) x y H Q ∨ rAddS x y H Q ∨ rCatR x y H Q ∨ rCatA K x y H Q
theorem op_addZ : OpR X (binaryOp .Add) (rAddZ X.K) := op_add.or (op_add_str.or (op_catR.or op_catA))
theorem rz_add {K : PySem.W.Frag} : RZ K (rAddZ K) oAdd := by
  intro G H x y dx dy d s a b c Q k
  unfold oAdd at c
  split at c
  · cases c
    exact .inl ⟨_, _, a.int, b.int, k _ G H (.refl s) (.int _)⟩
  · split at c
    · rename_i h
      cases c
      exact .inr (.inl ⟨_, _, a.str, b.str, h, k _ G H (.refl s) (.str _)⟩)
    · cases c
  · split at c
    · rename_i h
      cases c
      obtain ⟨p1, x1, e1, h1, r1⟩ := a.list s
      obtain ⟨p2, x2, e2, h2, r2⟩ := b.list s
      refine .inr (.inr (.inl ⟨p1, p2, x1, x2, e1, e2, h1, h2, by rw [r1.length, r2.length]; exact h, fun p hp => ?_⟩))
      exact k _ _ _ (Ext.new s _ hp) (.lst (.inl upd_same) ((r1.app r2).mono (same_new (s.free hp))))
    · cases c
  · split at c
    · rename_i h
      cases c
      obtain ⟨p1, x1, e1, h1, g1, r1⟩ := a.tuple s
      obtain ⟨p2, x2, e2, h2, g2, r2⟩ := b.tuple s
      refine .inr (.inr (.inr ⟨p1, p2, x1, x2, e1, e2, h1, h2, by rw [r1.length, r2.length]; exact h, fun q => ?_, fun _ q => ?_, fun _ _ p hp => ?_⟩))
      · subst q
        cases r1
        exact k _ G H (.refl s) (.tup g2 r2)
      · subst q
        cases r2
        exact k _ G H (.refl s) (by rw [List.append_nil]; exact .tup g1 r1)
      · exact k _ _ _ (Ext.new s _ hp) (.tup (SqT.of upd_same) ((r1.app r2).mono (same_new (s.free hp))))
    · cases c
  · cases c

/-! ### -, *, //, % -/
def oSub : D → D → Option D
  | .int a, .int b => some (.int (a - b))
  | _, _ => none
theorem rz_sub {K : PySem.W.Frag} : RZ K (rI0 fun i j => .int (i - j)) oSub := by
  intro G H x y dx dy d s a b c Q k
  unfold oSub at c
  split at c
  · cases c
    exact ⟨_, _, a.int, b.int, k _ G H (.refl s) (.int _)⟩
  · cases c
def rRepR : R2 := fun x y H Q => ∃ l k xs, x = .ref l ∧ y = .int k ∧ H l = some (.lst xs) ∧ -(2 ^ 63) ≤ k ∧ k < 2 ^ 63 ∧ xs.length * k.toNat ≤ sizeLine ∧
  ∀ p, H p = none → Q (.ref p) (upd H p (.lst (List.replicate k.toNat xs).flatten))
def oMul : D → D → Option D
  | .int a, .int b => if (-(2 ^ 64) < a ∧ a < 2 ^ 64) ∨ (-(2 ^ 64) < b ∧ b < 2 ^ 64) then some (.int (a * b)) else none
  | _, _ => none
theorem rz_mul {K : PySem.W.Frag} : RZ K (rI CMul fun i j => .int (i * j)) oMul := by
  intro G H x y dx dy d s a b c Q k
  unfold oMul at c
  split at c
  · split at c
    · rename_i h
      cases c
      exact ⟨_, _, a.int, b.int, h, k _ G H (.refl s) (.int _)⟩
    · cases c
  · cases c
def oDiv : D → D → Option D
  | .int a, .int b => if 0 < b ∧ b < 1073741824 then some (.int (a / b)) else none
  | _, _ => none
theorem rz_div {K : PySem.W.Frag} : RZ K (rI CDiv fun i j => .int (i / j)) oDiv := by
  intro G H x y dx dy d s a b c Q k
  unfold oDiv at c
  split at c
  · split at c
    · rename_i h
      cases c
      exact ⟨_, _, a.int, b.int, h, k _ G H (.refl s) (.int _)⟩
    · cases c
  · cases c
def oMod : D → D → Option D
  | .int a, .int b => if 0 < b then some (.int (a % b)) else none
  | _, _ => none
theorem rz_mod {K : PySem.W.Frag} : RZ K (rI (fun _ j => 0 < j) fun i j => .int (i % j)) oMod := by
  intro G H x y dx dy d s a b c Q k
  unfold oMod at c
  split at c
  · split at c
    · rename_i h
      cases c
      exact ⟨_, _, a.int, b.int, h, k _ G H (.refl s) (.int _)⟩
    · cases c
  · cases c

/-! ### ==, != -/
def okD (d : D) : Bool := plain d && SeqAt.shaped d
def oEq : D → D → Option D
  | .int a, .int b => some (.bool (decide (a = b)))
  | .str a, .str b => some (.bool (decide (a = b)))
  | x, y => if (okD x && okD y) = true then some (.bool (PyData.eqv x y)) else none
def oNe (x y : D) : Option D := match oEq x y with
  | some (.bool b) => some (.bool (!b))
  | _ => none
theorem okD_and {x y : D} (h : (okD x && okD y) = true) : plain x = true ∧ SeqAt.shaped x = true ∧ plain y = true ∧ SeqAt.shaped y = true := by
  unfold okD at h
  simp only [Bool.and_eq_true] at h
  exact ⟨h.1.1, h.1.2, h.2.1, h.2.2⟩
def rEqZ (K : PySem.W.Frag) : R2 := fun x y H Q => rEq x y H Q ∨ rEqD K x y H Q
def rNeZ (K : PySem.W.Frag) : R2 := fun x y H Q => rNe x y H Q ∨ rNeD K x y H Q
theorem op_eqZ (hu : X.A.units + 64 < cLine) : OpR X (compareOp .Eq) (rEqZ X.K) := op_eq.or (op_eqD hu)
theorem op_neZ (hu : X.A.units + 64 < cLine) : OpR X (compareOp .NotEq) (rNeZ X.K) := op_ne.or (op_neD hu)
theorem dec_iff {p q : Prop} [Decidable p] [Decidable q] (h : p ↔ q) : decide p = decide q := by
  by_cases e : p
  · rw [decide_eq_true e, decide_eq_true (h.mp e)]
  · rw [decide_eq_false e, decide_eq_false (fun z => e (h.mpr z))]
theorem rz_eq {K : PySem.W.Frag} : RZ K (rEqZ K) oEq := by
  intro G H x y dx dy d s a b c Q k
  unfold oEq at c
  split at c
  · cases c
    refine .inl ⟨by rw [a.int, b.int]; rfl, ?_⟩
    rw [a.int, b.int, dec_iff (q := _ = _) ⟨fun z => V.int.inj z, fun z => congrArg V.int z⟩]
    exact k _ G H (.refl s) (.bl _)
  · cases c
    refine .inl ⟨by rw [a.str, b.str]; rfl, ?_⟩
    rw [a.str, b.str, dec_iff (q := _ = _) ⟨fun z => V.str.inj z, fun z => congrArg V.str z⟩]
    exact k _ G H (.refl s) (.bl _)
  · split at c
    · rename_i h
      cases c
      obtain ⟨p1, s1, p2, s2⟩ := okD_and h
      exact .inr ⟨_, _, a.dp s p1, b.dp s p2, s1, s2, k _ G H (.refl s) (.bl _)⟩
    · cases c
theorem rz_ne {K : PySem.W.Frag} : RZ K (rNeZ K) oNe := by
  intro G H x y dx dy d s a b c Q k
  unfold oNe at c
  split at c
  · rename_i b' e
    cases c
    unfold oEq at e
    split at e
    · cases e
      refine .inl ⟨by rw [a.int, b.int]; rfl, ?_⟩
      rw [a.int, b.int, dec_iff (q := _ = _) ⟨fun z => V.int.inj z, fun z => congrArg V.int z⟩]
      exact k _ G H (.refl s) (.bl _)
    · cases e
      refine .inl ⟨by rw [a.str, b.str]; rfl, ?_⟩
      rw [a.str, b.str, dec_iff (q := _ = _) ⟨fun z => V.str.inj z, fun z => congrArg V.str z⟩]
      exact k _ G H (.refl s) (.bl _)
    · split at e
      · rename_i h
        cases e
        obtain ⟨p1, s1, p2, s2⟩ := okD_and h
        exact .inr ⟨_, _, a.dp s p1, b.dp s p2, s1, s2, k _ G H (.refl s) (.bl _)⟩
      · cases e
  · cases c

/-! ### order -/
def oLt : D → D → Option D
  | .int a, .int b => some (.bool (decide (a < b)))
  | _, _ => none
def oLe : D → D → Option D
  | .int a, .int b => some (.bool (decide (a ≤ b)))
  | .str a, .str b => some (.bool (!decide (b.cps.toList < a.cps.toList)))
  | _, _ => none
def oGt : D → D → Option D
  | .int a, .int b => some (.bool (decide (b < a)))
  | _, _ => none
def oGe : D → D → Option D
  | .int a, .int b => some (.bool (decide (b ≤ a)))
  | _, _ => none
theorem rz_lt {K : PySem.W.Frag} : RZ K (rI0 fun i j => .bl (decide (i < j))) oLt := by
  intro G H x y dx dy d s a b c Q k
  unfold oLt at c
  split at c
  · cases c
    exact ⟨_, _, a.int, b.int, k _ G H (.refl s) (.bl _)⟩
  · cases c
theorem rz_gt {K : PySem.W.Frag} : RZ K (rI0 fun i j => .bl (decide (j < i))) oGt := by
  intro G H x y dx dy d s a b c Q k
  unfold oGt at c
  split at c
  · cases c
    exact ⟨_, _, a.int, b.int, k _ G H (.refl s) (.bl _)⟩
  · cases c
theorem rz_ge {K : PySem.W.Frag} : RZ K (rI0 fun i j => .bl (decide (j ≤ i))) oGe := by
  intro G H x y dx dy d s a b c Q k
  unfold oGe at c
  split at c
  · cases c
    exact ⟨_, _, a.int, b.int, k _ G H (.refl s) (.bl _)⟩
  · cases c
def rLeZ : R2 := fun x y H Q => (rI0 fun i j => .bl (decide (i ≤ j))) x y H Q ∨ ∃ i j, x = .str i ∧ y = .str j ∧ Q (.bl (!decide (j.cps.toList < i.cps.toList))) H
theorem op_leZ : OpR X (compareOp .LtE) rLeZ := op_le.or op_le_str
theorem rz_le {K : PySem.W.Frag} : RZ K rLeZ oLe := by
  intro G H x y dx dy d s a b c Q k
  unfold oLe at c
  split at c
  · cases c
    exact .inl ⟨_, _, a.int, b.int, k _ G H (.refl s) (.bl _)⟩
  · cases c
    exact .inr ⟨_, _, a.str, b.str, k _ G H (.refl s) (.bl _)⟩
  · cases c

/-! ### is None -/
def isNoneD : D → Bool
  | .none => true
  | _ => false
def oIs : D → D → Option D
  | x, .none => some (.bool (isNoneD x))
  | _, _ => none
def oIsNot : D → D → Option D
  | x, .none => some (.bool (!isNoneD x))
  | _, _ => none
theorem Rt.isNone {K : PySem.W.Frag} {G H : Hp} {v : V} {d : D} (h : Rt K G H v d) : decide (v = .non) = isNoneD d := by
  rcases h with h | ⟨p, e, h⟩
  · cases h <;> simp [isNoneD]
  · subst e
    cases h <;> simp [isNoneD]
theorem rz_is {K : PySem.W.Frag} : RZ K (fun x y H Q => y = .non ∧ Q (.bl (decide (x = .non))) H) oIs := by
  intro G H x y dx dy d s a b c Q k
  unfold oIs at c
  split at c
  · cases c
    rw [a.isNone]
    exact ⟨b.none, k _ G H (.refl s) (.bl _)⟩
  · cases c
theorem rz_isnot {K : PySem.W.Frag} : RZ K (fun x y H Q => y = .non ∧ Q (.bl (!decide (x = .non))) H) oIsNot := by
  intro G H x y dx dy d s a b c Q k
  unfold oIsNot at c
  split at c
  · cases c
    rw [a.isNone]
    exact ⟨b.none, k _ G H (.refl s) (.bl _)⟩
  · cases c

/-! ### in -/
def strsOf : List D → Option (List Str)
  | [] => some []
  | .str x :: r => (strsOf r).map (x :: ·)
  | _ :: _ => none
theorem RpA.strs {K : PySem.W.Frag} {G : Hp} : ∀ {vs : List V} {ds : List D} {xs : List Str}, RpA K G vs ds → strsOf ds = some xs → vs = xs.map V.str
  | _, _, _, .nil, e => by cases e; rfl
  | _, _, _, .cons h r, e => by
    cases h with
    | str x =>
      obtain ⟨ys, q, e⟩ := Option.map_eq_some_iff.mp (show (strsOf _).map (x :: ·) = some _ from e)
      subst e
      rw [List.map_cons, RpA.strs r q]
    | _ => cases e
def oIn : D → D → Option D
  | .str x, .tuple ds => (strsOf ds).bind fun ys => some (.bool (decide (x ∈ ys)))
  | x, .list ds => if (okD x && okD (.list ds)) = true then some (.bool (ds.any fun z => PyData.eqv z x)) else none
  | .str x, .str t => if x.cps.size = 1 then some (.bool (decide (x.cps.getD 0 0 ∈ t.cps.toList))) else none
  | x, .dict kvs => (keyOf x).bind fun k => some (.bool (dLook kvs k).isSome)
  | _, _ => none
def oNotIn (x y : D) : Option D := match oIn x y with
  | some (.bool b) => some (.bool (!b))
  | _ => none
theorem inV_strs (x : Str) (ys : List Str) : inV (.str x) (ys.map V.str) = decide (x ∈ ys) := by
  unfold inV
  induction ys with
  | nil => simp
  | cons y r ih =>
    rw [List.map_cons, List.any_cons, ih]
    by_cases e : y = x
    · subst e; simp [eqV]
    · have e' : ¬ x = y := fun z => e z.symm
      simp [eqV, e, e']
theorem flat_strs (ys : List Str) : (ys.map V.str).all flatV = true := by
  rw [List.all_eq_true]
  intro v hv
  obtain ⟨y, _, rfl⟩ := List.mem_map.mp hv
  rfl
def rInDi (b : Bool) : R2 := fun x y H Q => ∃ a o, y = .ref a ∧ DGet H a x o ∧ Q (.bl (if b then !o.isSome else o.isSome)) H
theorem op_inDi (hu : X.A.units + 1 < cLine) : OpR X (compareOp .In) (rInDi false) := by
  intro pins s σ H x y v u Q I rx ry h
  obtain ⟨a, o, rfl, g, q⟩ := h
  cases ry
  exact d_in hu I g rx fun s3 I3 => ⟨.bl o.isSome, H, I3, rfl, q⟩
theorem op_notInDi (hu : X.A.units + 1 < cLine) : OpR X (compareOp .NotIn) (rInDi true) := by
  intro pins s σ H x y v u Q I rx ry h
  obtain ⟨a, o, rfl, g, q⟩ := h
  cases ry
  exact d_notIn hu I g rx fun s3 I3 => ⟨.bl (!o.isSome), H, I3, rfl, q⟩
def rInSg (b : Bool) : R2 := fun x y H Q => ∃ (c : Nat) (z : Str), x = .str ⟨#[c]⟩ ∧ y = .str z ∧ Q (.bl (if b then !decide (c ∈ z.cps.toList) else decide (c ∈ z.cps.toList))) H
theorem op_inSg : OpR X (compareOp .In) (rInSg false) := op_in_sign
theorem op_notInSg : OpR X (compareOp .NotIn) (rInSg true) := op_notIn_sign
def rInZ (K : PySem.W.Frag) : R2 := fun x y H Q => rInD K x y H Q ∨ rIn K false x y H Q ∨ rInSg false x y H Q ∨ rInDi false x y H Q
def rNotInZ (K : PySem.W.Frag) : R2 := fun x y H Q => rNotInD K x y H Q ∨ rIn K true x y H Q ∨ rInSg true x y H Q ∨ rInDi true x y H Q
theorem op_inZ (hu : X.A.units + 65 < cLine) : OpR X (compareOp .In) (rInZ X.K) := (op_inD hu).or (op_in_seq.or (op_inSg.or (op_inDi (by omega))))
theorem op_notInZ (hu : X.A.units + 65 < cLine) : OpR X (compareOp .NotIn) (rNotInZ X.K) := (op_notInD hu).or (op_notIn_seq.or (op_notInSg.or (op_notInDi (by omega))))
theorem kV_of {K : PySem.W.Frag} {G H : Hp} {x : V} {d : D} {k : Key} (h : Rt K G H x d) (e : keyOf d = some k) : x = kV k := by
  unfold keyOf at e
  split at e
  · cases e; exact h.int
  · cases e; exact h.str
  · cases e
theorem RpD.get {K : PySem.W.Frag} {G H : Hp} {a : Addr} {kvs : List (Key × V)} {ds : List (D × D)} (r : RpD K G kvs ds) (h : H a = some (.dK kvs)) (k : Key) : ∃ o, DGet H a (kV k) o ∧ o.isSome = (dLook ds k).isSome ∧ ∀ d, dLook ds k = some d → ∃ v, o = some v ∧ Rp K G v d := by
  refine ⟨valV kvs k, DGet.k h, ?_, fun d q => (r.look k).1 d q⟩
  cases q : dLook ds k with
  | none => rw [(r.look k).2 q]; rfl
  | some d =>
    obtain ⟨v, e, _⟩ := (r.look k).1 d q
    rw [e]; rfl
theorem one_sign {x : Str} (h : x.cps.size = 1) : x = ⟨#[x.cps.getD 0 0]⟩ := by
  obtain ⟨⟨l⟩⟩ := x
  match l, h with
  | [c], _ => rfl
theorem rz_in {K : PySem.W.Frag} : RZ K (rInZ K) oIn := by
  intro G H x y dx dy d s a b c Q k
  unfold oIn at c
  split at c
  · rename_i z ds
    obtain ⟨ys, e, c⟩ := Option.bind_eq_some_iff.mp c
    cases c
    obtain ⟨p, xs, e1, h1, _, r1⟩ := b.tuple s
    have e2 := r1.strs e
    subst e2
    refine .inr (.inl ⟨p, _, e1, .inr h1, by rw [a.str]; rfl, flat_strs ys, ?_⟩)
    rw [a.str]
    show Q (.bl (inV (.str z) (ys.map V.str))) H
    rw [inV_strs]
    exact k _ G H (.refl s) (.bl _)
  · split at c
    · rename_i h
      cases c
      obtain ⟨p1, s1, p2, s2⟩ := okD_and h
      exact .inl ⟨_, _, a.dp s p1, b.dp s p2, s1, s2, k _ G H (.refl s) (.bl _)⟩
    · cases c
  · rename_i z t
    split at c
    · rename_i h
      cases c
      refine .inr (.inr (.inl ⟨z.cps.getD 0 0, t, by rw [a.str, ← one_sign h], b.str, k _ G H (.refl s) (.bl _)⟩))
    · cases c
  · obtain ⟨ky, e, c⟩ := Option.bind_eq_some_iff.mp c
    cases c
    obtain ⟨p, kvs, e1, h1, r1⟩ := b.dict s
    obtain ⟨o, g, e2, _⟩ := r1.get h1 ky
    refine .inr (.inr (.inr ⟨p, o, e1, by rw [kV_of a e]; exact g, ?_⟩))
    show Q (.bl o.isSome) H
    rw [e2]
    exact k _ G H (.refl s) (.bl _)
  · cases c
theorem rz_notin {K : PySem.W.Frag} : RZ K (rNotInZ K) oNotIn := by
  intro G H x y dx dy d s a b c Q k
  unfold oNotIn at c
  split at c
  · rename_i bb e0
    cases c
    unfold oIn at e0
    split at e0
    · rename_i z ds
      obtain ⟨ys, e, c⟩ := Option.bind_eq_some_iff.mp e0
      cases c
      obtain ⟨p, xs, e1, h1, _, r1⟩ := b.tuple s
      have e2 := r1.strs e
      subst e2
      refine .inr (.inl ⟨p, _, e1, .inr h1, by rw [a.str]; rfl, flat_strs ys, ?_⟩)
      rw [a.str]
      show Q (.bl (!inV (.str z) (ys.map V.str))) H
      rw [inV_strs]
      exact k _ G H (.refl s) (.bl _)
    · split at e0
      · rename_i h
        cases e0
        obtain ⟨p1, s1, p2, s2⟩ := okD_and h
        exact .inl ⟨_, _, a.dp s p1, b.dp s p2, s1, s2, k _ G H (.refl s) (.bl _)⟩
      · cases e0
    · rename_i z t
      split at e0
      · rename_i h
        cases e0
        refine .inr (.inr (.inl ⟨z.cps.getD 0 0, t, by rw [a.str, ← one_sign h], b.str, k _ G H (.refl s) (.bl _)⟩))
      · cases e0
    · obtain ⟨ky, e, c⟩ := Option.bind_eq_some_iff.mp e0
      cases c
      obtain ⟨p, kvs, e1, h1, r1⟩ := b.dict s
      obtain ⟨o, g, e2, _⟩ := r1.get h1 ky
      refine .inr (.inr (.inr ⟨p, o, e1, by rw [kV_of a e]; exact g, ?_⟩))
      show Q (.bl (!o.isSome)) H
      rw [e2]
      exact k _ G H (.refl s) (.bl _)
    · cases e0
  · cases c

/-! ### a[i] -/
def tAlt (t t' : TE) : TE := fun σ H Q => t σ H Q ∨ t' σ H Q
theorem pe_alt {e : Expr} {t t' : TE} (h : PE X e t) (h' : PE X e t') : PE X e (tAlt t t') := ⟨fun pins s σ H Q I q => q.elim (h.run pins s σ H Q I) (h'.run pins s σ H Q I)⟩
def oIx : D → D → Option D
  | .list ds, .int i => atI ds i
  | .tuple ds, .int i => atI ds i
  | .str z, .int i => if z.length ≤ sizeLine then (atI z.cps.toList i).map (fun c => .str ⟨#[c]⟩) else none
  | .dict kvs, x => (keyOf x).bind (dLook kvs)
  | _, _ => none
theorem rz_ix {K : PySem.W.Frag} : ∀ G H x y dx dy d, Same G H → Rt K G H x dx → Rt K G H y dy → oIx dx dy = some d → (∀ ds, dx ≠ .dict ds) → ∀ Q : VK, (∀ v G' H', Ext G H G' H' → Rp K G' v d → Q v H') → rIx K x y H Q := by
  intro G H x y dx dy d s a b c nd Q k
  unfold oIx at c
  split at c
  · obtain ⟨p, xs, e1, h1, r1⟩ := a.list s
    obtain ⟨v, e, r⟩ := r1.atI c
    exact .inl ⟨p, xs, _, v, e1, b.int, .inl h1, e, k _ G H (.refl s) r⟩
  · obtain ⟨p, xs, e1, h1, _, r1⟩ := a.tuple s
    obtain ⟨v, e, r⟩ := r1.atI c
    exact .inr (.inl ⟨p, xs, _, v, e1, b.int, h1, e, k _ G H (.refl s) r⟩)
  · split at c
    · rename_i h
      obtain ⟨cc, e, c⟩ := Option.map_eq_some_iff.mp c
      subst c
      exact .inr (.inr ⟨_, _, cc, a.str, b.int, h, e, k _ G H (.refl s) (.str _)⟩)
    · cases c
  · exact absurd rfl (nd _)
  · cases c
variable {a b : Expr} {ta tb : TE} {fa fb : En → Option D} {pos : Pos}
theorem de_ix (hu : X.A.units + 1 < cLine) (ha : DR X a ta fa) (hb : DR X b tb fb) (hs : PlainIx b := by exact fun _ _ => rfl) : DE X (.Subscript a b pos) (tAlt (tOp (rIx X.K) ta tb) (tDGet ta tb)) (dOp2 oIx fa fb) := by
  refine ⟨pe_alt (pe_ix ix_seq ha.pe hb.pe hs) (pe_dget hu ha.pe hb.pe hs), fun G0 H0 G H σ env d rp q Q k => ?_⟩
  unfold dOp2 at q
  obtain ⟨x, qx, q⟩ := Option.bind_eq_some_iff.mp q
  obtain ⟨y, qy, q⟩ := Option.bind_eq_some_iff.mp q
  by_cases hd : ∃ ds, x = .dict ds
  · obtain ⟨ds, rfl⟩ := hd
    refine .inr (ha.se G0 H0 G H σ env _ rp qx _ fun v G1 H1 e1 r1 => hb.se G0 H0 G1 H1 σ env y (rp.ext e1) qy _ fun w G2 H2 e2 r2 => ?_)
    obtain ⟨ky, e, q⟩ := Option.bind_eq_some_iff.mp (show (keyOf y).bind (dLook ds) = some d by cases y <;> exact q)
    obtain ⟨p, kvs, e3, h1, r3⟩ := (r1.ext e2).dict e2.s
    obtain ⟨o, g, _, g2⟩ := r3.get h1 ky
    obtain ⟨z, rfl, rz⟩ := g2 d q
    exact ⟨p, z, e3, by rw [kV_of r2 e]; exact g, k _ G2 H2 (e1.trans e2) rz⟩
  · refine .inl (ha.se G0 H0 G H σ env _ rp qx _ fun v G1 H1 e1 r1 => hb.se G0 H0 G1 H1 σ env y (rp.ext e1) qy _ fun w G2 H2 e2 r2 => ?_)
    exact rz_ix G2 H2 v w x y d e2.s (r1.ext e2) r2 q (fun ds e => hd ⟨ds, e⟩) Q fun z G3 H3 e3 r3 => k z G3 H3 ((e1.trans e2).trans e3) r3
end
end Z

set_option Elab.async false
set_option linter.all false
set_option maxRecDepth 100000
set_option maxHeartbeats 4000000
/-! ZC: slices, displays, calls of built-ins, and, or, not -/
namespace Z
open PySem L2

/-! ### slices -/
def SPo (K : PySem.W.Frag) (t : TO) (f : En → Option (Option Int)) : Prop := ∀ G0 H0 G H σ env o, Rep K G0 H0 G H σ env → f env = some o → ∀ Q : Option Int → Hp → Prop, (∀ G' H', Ext G H G' H' → Q o H') → t σ H Q
structure DPo (X : Cx) (e : Option Expr) (t : TO) (f : En → Option (Option Int)) : Prop where
  po : PO X e t
  so : SPo X.K t f
def pNone (_ : En) : Option (Option Int) := some none
def pInt (f : En → Option D) (env : En) : Option (Option Int) := (f env).bind fun d => match d with
  | .int i => some (some i)
  | _ => none
section
variable {X : Cx}
theorem dpo_none : DPo X none tNoPart pNone := ⟨po_none, fun G0 H0 G H σ env o rp q Q k => by cases q; exact k G H (.refl rp.s)⟩
theorem dpo_some {e : Expr} {t : TE} {f : En → Option D} (h : DE X e t f) : DPo X (some e) (tPart t) (pInt f) := ⟨po_some h.pe, fun G0 H0 G H σ env o rp q Q k => by
  obtain ⟨d, e1, q⟩ := Option.bind_eq_some_iff.mp q
  refine h.se G0 H0 G H σ env d rp e1 _ fun v G1 H1 x1 r1 => ?_
  split at q
  · cases q
    cases r1
    exact ⟨_, rfl, k G1 H1 x1⟩
  · cases q⟩
def oSl (x : D) (lo hi : Option Int) : Option D := match x with
  | .list ds => some (.list (cutD ds lo hi))
  | .tuple ds => some (.tuple (cutD ds lo hi))
  | .str z => if z.length ≤ sizeLine then some (.str (cutS z lo hi)) else none
  | _ => none
def dSl (fa : En → Option D) (fl fh : En → Option (Option Int)) (env : En) : Option D := (fa env).bind fun x => (fl env).bind fun l => (fh env).bind fun h => oSl x l h
def rSlZ (K : PySem.W.Frag) : V → Option Int → Option Int → Hp → VK → Prop := fun x lo hi H Q => rSlL K x lo hi H Q ∨ rSlA K x lo hi H Q ∨ rSlS x lo hi H Q
theorem sl_Z : SlR X (rSlZ X.K) := sl_list.or (sl_tupA.or sl_str)
theorem de_sl {e : Expr} {lo hi : Option Expr} {te : TE} {tl th : TO} {fa : En → Option D} {fl fh : En → Option (Option Int)} {p2 pos : Pos} (he : DR X e te fa) (hl : DPo X lo tl fl) (hh : DPo X hi th fh) :
    DE X (.Subscript e (.Slice lo hi none p2) pos) (tSl (rSlZ X.K) te tl th) (dSl fa fl fh) := by
  refine ⟨pe_slice sl_Z he.pe hl.po hh.po, fun G0 H0 G H σ env d rp q Q k => ?_⟩
  obtain ⟨x, e1, q⟩ := Option.bind_eq_some_iff.mp q
  obtain ⟨l, e2, q⟩ := Option.bind_eq_some_iff.mp q
  obtain ⟨h, e3, q⟩ := Option.bind_eq_some_iff.mp q
  refine he.se G0 H0 G H σ env x rp e1 _ fun v G1 H1 x1 r1 => ?_
  refine hl.so G0 H0 G1 H1 σ env l (rp.ext x1) e2 _ fun G2 H2 x2 => ?_
  refine hh.so G0 H0 G2 H2 σ env h ((rp.ext x1).ext x2) e3 _ fun G3 H3 x3 => ?_
  have x13 := (x1.trans x2).trans x3
  have r3 := (r1.ext x2).ext x3
  have s3 := x3.s
  unfold oSl at q
  split at q
  · cases q
    obtain ⟨p, xs, ev, hv, rv⟩ := r3.list s3
    refine .inl ⟨p, xs, ev, .inl hv, fun p' hp => ?_⟩
    exact k _ _ _ (x13.trans (Ext.new s3 _ hp)) (.lst (.inl upd_same) ((rv.cut l h).mono (same_new (s3.free hp))))
  · cases q
    obtain ⟨p, xs, ev, hv, gv, rv⟩ := r3.tuple s3
    refine .inr (.inl ⟨p, xs, ev, hv, fun hw => ?_, fun _ p' hp => ?_⟩)
    · rw [rv.length] at hw
      exact k _ _ _ x13 (by rw [cutD_whole hw.1 hw.2]; exact .tup gv rv)
    · exact k _ _ _ (x13.trans (Ext.new s3 _ hp)) (.tup (SqT.of upd_same) ((rv.cut l h).mono (same_new (s3.free hp))))
  · split at q
    · rename_i hz
      cases q
      exact .inr (.inr ⟨_, r3.str, hz, k _ _ _ x13 (.str _)⟩)
    · cases q
  · cases q

/-! ### arguments and displays -/
def dNil (_ : En) : Option (List D) := some []
def dCons (fa : En → Option D) (fr : En → Option (List D)) (env : En) : Option (List D) := (fa env).bind fun x => (fr env).bind fun r => some (x :: r)
theorem da_nil : DA X [] tNil dNil := ⟨pa_nil, fun G0 H0 G H σ env ds rp q Q k => by cases q; exact k _ G H (.refl rp.s) .nil, fun env ds q => by cases q; rfl⟩
theorem dar_nil : DAR X [] tNil dNil := ⟨pa_nil, fun G0 H0 G H σ env ds rp q Q k => by cases q; exact k _ G H (.refl rp.s) .nil⟩
theorem da_cons {e : Expr} {es : List Expr} {te : TE} {t : TA} {fa : En → Option D} {fr : En → Option (List D)} (ha : DE X e te fa) (hr : DA X es t fr) (hs : starEach (e :: es) X.env = (false, eval e X.env) :: starEach es X.env := by rfl) :
    DA X (e :: es) (tCons te t) (dCons fa fr) := ⟨pa_cons ha.pe hr.pa hs, fun G0 H0 G H σ env ds rp q Q k => by
  obtain ⟨x, e1, q⟩ := Option.bind_eq_some_iff.mp q
  obtain ⟨r, e2, q⟩ := Option.bind_eq_some_iff.mp q
  cases q
  refine ha.se G0 H0 G H σ env x rp e1 _ fun v G1 H1 x1 r1 => ?_
  refine hr.sa G0 H0 G1 H1 σ env r (rp.ext x1) e2 _ fun vs G2 H2 x2 r2 => ?_
  exact k _ G2 H2 (x1.trans x2) (.cons (r1.mono x2.g) r2), fun env ds q => by
  obtain ⟨x, e1, q⟩ := Option.bind_eq_some_iff.mp q
  obtain ⟨r, e2, q⟩ := Option.bind_eq_some_iff.mp q
  cases q
  rw [List.length_cons, List.length_cons, hr.ln env r e2]⟩
theorem dar_cons {e : Expr} {es : List Expr} {te : TE} {t : TA} {fa : En → Option D} {fr : En → Option (List D)} (ha : DR X e te fa) (hr : DAR X es t fr) (hs : starEach (e :: es) X.env = (false, eval e X.env) :: starEach es X.env := by rfl) :
    DAR X (e :: es) (tCons te t) (dCons fa fr) := ⟨pa_cons ha.pe hr.pa hs, fun G0 H0 G H σ env ds rp q Q k => by
  obtain ⟨x, e1, q⟩ := Option.bind_eq_some_iff.mp q
  obtain ⟨r, e2, q⟩ := Option.bind_eq_some_iff.mp q
  cases q
  refine ha.se G0 H0 G H σ env x rp e1 _ fun v G1 H1 x1 r1 => ?_
  refine hr.sa G0 H0 G1 H1 σ env r (rp.ext x1) e2 _ fun vs G2 H2 x2 r2 => ?_
  exact k _ G2 H2 (x1.trans x2) (.cons (r1.ext x2) r2)⟩
def dTup (f : En → Option (List D)) (env : En) : Option D := (f env).bind fun ds => if ds.length ≤ sizeLine then some (.tuple ds) else none
def dLst (f : En → Option (List D)) (env : En) : Option D := (f env).bind fun ds => if ds.length ≤ sizeLine then some (.list ds) else none
theorem de_tup {es : List Expr} {t : TA} {f : En → Option (List D)} {x1 : Nat} {pos : Pos} (h : DA X es t f) : DE X (.Tuple es x1 pos) (tTup t) (dTup f) := ⟨pe_tup h.pa, fun G0 H0 G H σ env d rp q Q k => by
  obtain ⟨ds, e1, q⟩ := Option.bind_eq_some_iff.mp q
  split at q
  · rename_i hz
    cases q
    refine h.sa G0 H0 G H σ env ds rp e1 _ fun vs G1 H1 x1 r1 => ⟨by rw [r1.length]; exact hz, fun p hp => ?_⟩
    exact k _ _ _ (x1.trans (Ext.new x1.s _ hp)) (.tup (SqT.of upd_same) (r1.mono (same_new (x1.s.free hp))))
  · cases q⟩
theorem do_lst {es : List Expr} {t : TA} {f : En → Option (List D)} {pos : Pos} (h : DA X es t f) : DO X (.List es pos) (tLst t) (dLst f) := ⟨pe_lst h.pa, fun G0 H0 G H σ env d rp q Q k => by
  obtain ⟨ds, e1, q⟩ := Option.bind_eq_some_iff.mp q
  split at q
  · rename_i hz
    cases q
    refine h.sa G0 H0 G H σ env ds rp e1 _ fun vs G1 H1 x1 r1 => ⟨by rw [r1.length]; exact hz, fun p hp => ?_⟩
    exact k p G1 _ (x1.trans (Ext.newO x1.s _ hp)) (x1.s.free hp) (x1.h.free hp) (.lst upd_same r1)
  · cases q⟩
def dDict0 (_ : En) : Option D := some (.dict [])
theorem do_dict0 {pos : Pos} : DO X (.Dict [] [] pos) tDNewK dDict0 := ⟨pe_dnewK, fun G0 H0 G H σ env d rp q Q k => by
  cases q
  intro p hp
  exact k p G _ (Ext.newO rp.s _ hp) (rp.s.free hp) hp (.dic upd_same .nil)⟩

/-! ### calls of built-ins -/
def CZ (K : PySem.W.Frag) (r : List V → Hp → VK → Prop) (o : List D → Option D) : Prop := ∀ G H vs ds d, Same G H → RtA K G H vs ds → o ds = some d → ∀ Q : VK, (∀ v G' H', Ext G H G' H' → Rp K G' v d → Q v H') → r vs H Q
def dCB (o : List D → Option D) (f : En → Option (List D)) (env : En) : Option D := (f env).bind o
theorem se_cb {K : PySem.W.Frag} {r : List V → Hp → VK → Prop} {o : List D → Option D} {t : TA} {f : En → Option (List D)} (hz : CZ K r o) (h : SAR K t f) : SE K (tCB r t) (dCB o f) := fun G0 H0 G H σ env d rp q Q k => by
  obtain ⟨ds, e1, q⟩ := Option.bind_eq_some_iff.mp q
  refine h G0 H0 G H σ env ds rp e1 _ fun vs G1 H1 x1 r1 => ?_
  exact hz G1 H1 vs ds d x1.s r1 q Q fun v G2 H2 x2 r2 => k v G2 H2 (x1.trans x2) r2
variable {x : Str} {p pos : Pos} {e : Expr} {es : List Expr} {t : TA} {id T : String} {r : List V → Hp → VK → Prop} {o : List D → Option D} {f : En → Option (List D)}
theorem de_callB (hz : CZ X.K r o) (hc : CallR X (.builtin id) r) (hg : Gl X x) (hm : X.mg x = none) (hv : bootBuiltins x = some (.builtin id)) (ha : DAR X (e :: es) t f) (hn : x ≠ "__name__" := by decide) (hdb : (x == ("__debug__" : Str)) = false := by decide)
    (he : starEach (e :: es) X.env = (false, eval e X.env) :: starEach es X.env := by rfl) (hpl : (backTo pos (starEach es X.env)).any (·.1) = false := by rfl) : DE X (.Call (.Name x p) (e :: es) [] pos) (tCB r t) (dCB o f) :=
  ⟨pe_callB hc hg hm hv ha.pa hn hdb he hpl, se_cb hz ha.sa⟩
theorem de_callTy (hz : CZ X.K r o) (hc : CallR X (.type T) r) (hg : Gl X x) (hm : X.mg x = none) (hv : bootBuiltins x = some (.type T)) (ha : DAR X (e :: es) t f) (hn : x ≠ "__name__" := by decide) (hdb : (x == ("__debug__" : Str)) = false := by decide)
    (he : starEach (e :: es) X.env = (false, eval e X.env) :: starEach es X.env := by rfl) (hpl : (backTo pos (starEach es X.env)).any (·.1) = false := by rfl) : DE X (.Call (.Name x p) (e :: es) [] pos) (tCB r t) (dCB o f) :=
  ⟨pe_callTy hc hg hm hv ha.pa hn hdb he hpl, se_cb hz ha.sa⟩
/-- len -/
def oLen : List D → Option D
  | [.list ds] => some (.int ds.length)
  | [.tuple ds] => some (.int ds.length)
  | [.str z] => if z.length ≤ sizeLine then some (.int z.length) else none
  | [.dict ds] => some (.int ds.length)
  | _ => none
def rLenZ (K : PySem.W.Frag) : List V → Hp → VK → Prop := fun xs H Q => (∃ x n, xs = [x] ∧ LenV K x H n ∧ Q (.int n) H) ∨ ∃ a kvs, xs = [V.ref a] ∧ H a = some (.dK kvs) ∧ Q (.int kvs.length) H
theorem call_lenZ : CallR X (.builtin "len") (rLenZ X.K) := call_len.or call_lenD
theorem cz_len {K : PySem.W.Frag} : CZ K (rLenZ K) oLen := by
  intro G H vs ds d s a q Q k
  unfold oLen at q
  split at q
  · cases q
    cases a with
    | cons h1 h2 =>
      cases h2
      obtain ⟨p, xs, e1, h3, r1⟩ := h1.list s
      subst e1
      refine .inl ⟨_, xs.length, rfl, .inl ⟨xs, .inl h3, rfl⟩, ?_⟩
      rw [r1.length]
      exact k _ G H (.refl s) (.int _)
  · cases q
    cases a with
    | cons h1 h2 =>
      cases h2
      obtain ⟨p, xs, e1, h3, _, r1⟩ := h1.tuple s
      subst e1
      refine .inl ⟨_, xs.length, rfl, .inr ⟨xs, h3, rfl⟩, ?_⟩
      rw [r1.length]
      exact k _ G H (.refl s) (.int _)
  · split at q
    · rename_i hz
      cases q
      cases a with
      | cons h1 h2 =>
        cases h2
        have e1 := h1.str
        subst e1
        exact .inl ⟨_, _, rfl, ⟨hz, rfl⟩, k _ G H (.refl s) (.int _)⟩
    · cases q
  · cases q
    cases a with
    | cons h1 h2 =>
      cases h2
      obtain ⟨p, xs, e1, h3, r1⟩ := h1.dict s
      subst e1
      refine .inr ⟨p, xs, rfl, h3, ?_⟩
      rw [r1.length]
      exact k _ G H (.refl s) (.int _)
  · cases q
/-- str -/
def oStr : List D → Option D
  | [.int i] => if i.natAbs < 10 ^ 20 then some (.str (toString i)) else none
  | [.str x] => some (.str x)
  | _ => none
def rStrZ : List V → Hp → VK → Prop := fun xs H Q => (∃ i, xs = [.int i] ∧ i.natAbs.log2 < 1920 ∧ Q (.str (toString i)) H) ∨ ∃ a, xs = [.str a] ∧ Q (.str a) H
theorem call_strZ : CallR X (.type "str") rStrZ := call_str_int.or SkE.call_str_str
theorem log_small {n : Nat} (h : n < 10 ^ 20) : n.log2 < 1920 := by
  by_cases e : n = 0
  · subst e; decide
  · exact (Nat.log2_lt e).mpr (Nat.lt_of_lt_of_le h (Nat.le_trans (show 10 ^ 20 ≤ 2 ^ 100 by decide) (Nat.pow_le_pow_right (by decide) (by decide))))
theorem cz_str {K : PySem.W.Frag} : CZ K rStrZ oStr := by
  intro G H vs ds d s a q Q k
  unfold oStr at q
  split at q
  · split at q
    · rename_i hz
      cases q
      cases a with
      | cons h1 h2 =>
        cases h2
        have e1 := h1.int
        subst e1
        exact .inl ⟨_, rfl, log_small hz, k _ G H (.refl s) (.str _)⟩
    · cases q
  · cases q
    cases a with
    | cons h1 h2 =>
      cases h2
      have e1 := h1.str
      subst e1
      exact .inr ⟨_, rfl, k _ G H (.refl s) (.str _)⟩
  · cases q
/-- int -/
def oInt : List D → Option D
  | [.int i] => some (.int i)
  | [.bool b] => some (.int (if b then 1 else 0))
  | [.str x] => if x.length ≤ 640 then (intText? x).map .int else none
  | _ => none
def rIntZ : List V → Hp → VK → Prop := fun xs H Q => ((∃ i, xs = [.int i] ∧ Q (.int i) H) ∨ ∃ k, xs = [.bl k] ∧ Q (.int (if k then 1 else 0)) H) ∨ ∃ a n, xs = [.str a] ∧ PySem.intText? a = some n ∧ a.length ≤ 640 ∧ Q (.int n) H
theorem call_intZ : CallR X (.type "int") rIntZ := call_int1.or call_int_str
theorem cz_int {K : PySem.W.Frag} : CZ K rIntZ oInt := by
  intro G H vs ds d s a q Q k
  unfold oInt at q
  split at q
  · cases q
    cases a with
    | cons h1 h2 =>
      cases h2
      have e1 := h1.int
      subst e1
      exact .inl (.inl ⟨_, rfl, k _ G H (.refl s) (.int _)⟩)
  · cases q
    cases a with
    | cons h1 h2 =>
      cases h2
      have e1 := h1.bool
      subst e1
      exact .inl (.inr ⟨_, rfl, k _ G H (.refl s) (.int _)⟩)
  · split at q
    · rename_i hz
      obtain ⟨n, e2, q⟩ := Option.map_eq_some_iff.mp q
      subst q
      cases a with
      | cons h1 h2 =>
        cases h2
        have e1 := h1.str
        subst e1
        exact .inr ⟨_, n, rfl, e2, hz, k _ G H (.refl s) (.int _)⟩
    · cases q
  · cases q
/-- list, tuple -/
def oList : List D → Option D
  | [.list ds] => some (.list ds)
  | [.tuple ds] => some (.list ds)
  | _ => none
def rListZ (K : PySem.W.Frag) : List V → Hp → VK → Prop := fun xs H Q => ∃ p ys, xs = [.ref p] ∧ (SqL K H p ys ∨ SqT K H p ys) ∧ ∀ l, H l = none → Q (.ref l) (upd H l (.lst ys))
theorem call_listZ : CallR X (.type "list") (rListZ X.K) := call_list_of
theorem cz_list {K : PySem.W.Frag} : CZ K (rListZ K) oList := by
  intro G H vs ds d s a q Q k
  unfold oList at q
  split at q
  · cases q
    cases a with
    | cons h1 h2 =>
      cases h2
      obtain ⟨p, xs, e1, h3, r1⟩ := h1.list s
      subst e1
      refine ⟨p, xs, rfl, .inl (.inl h3), fun l hl => ?_⟩
      exact k _ _ _ (Ext.new s _ hl) (.lst (.inl upd_same) (r1.mono (same_new (s.free hl))))
  · cases q
    cases a with
    | cons h1 h2 =>
      cases h2
      obtain ⟨p, xs, e1, h3, _, r1⟩ := h1.tuple s
      subst e1
      refine ⟨p, xs, rfl, .inr h3, fun l hl => ?_⟩
      exact k _ _ _ (Ext.new s _ hl) (.lst (.inl upd_same) (r1.mono (same_new (s.free hl))))
  · cases q
def oTuple : List D → Option D
  | [.list ds] => some (.tuple ds)
  | [.tuple ds] => some (.tuple ds)
  | _ => none
def rTupleZ (K : PySem.W.Frag) : List V → Hp → VK → Prop := fun xs H Q => ∃ p ys, xs = [.ref p] ∧ ((SqL K H p ys ∧ ∀ l, H l = none → Q (.ref l) (upd H l (.tup ys))) ∨ (SqT K H p ys ∧ Q (.ref p) H))
theorem call_tupleZ : CallR X (.type "tuple") (rTupleZ X.K) := call_tuple_of
theorem cz_tuple {K : PySem.W.Frag} : CZ K (rTupleZ K) oTuple := by
  intro G H vs ds d s a q Q k
  unfold oTuple at q
  split at q
  · cases q
    cases a with
    | cons h1 h2 =>
      cases h2
      obtain ⟨p, xs, e1, h3, r1⟩ := h1.list s
      subst e1
      refine ⟨p, xs, rfl, .inl ⟨.inl h3, fun l hl => ?_⟩⟩
      exact k _ _ _ (Ext.new s _ hl) (.tup (SqT.of upd_same) (r1.mono (same_new (s.free hl))))
  · cases q
    cases a with
    | cons h1 h2 =>
      cases h2
      obtain ⟨p, xs, e1, h3, g3, r1⟩ := h1.tuple s
      subst e1
      exact ⟨p, xs, rfl, .inr ⟨h3, k _ G H (.refl s) (.tup g3 r1)⟩⟩
  · cases q
/-- all, sum -/
def boolsOf : List D → Option (List Bool)
  | [] => some []
  | .bool x :: r => (boolsOf r).map (x :: ·)
  | _ :: _ => none
theorem RpA.bools {K : PySem.W.Frag} {G : Hp} : ∀ {vs : List V} {ds : List D} {xs : List Bool}, RpA K G vs ds → boolsOf ds = some xs → vs = xs.map V.bl
  | _, _, _, .nil, e => by cases e; rfl
  | _, _, _, .cons h r, e => by
    cases h with
    | bl x =>
      obtain ⟨ys, q, e⟩ := Option.map_eq_some_iff.mp (show (boolsOf _).map (x :: ·) = some _ from e)
      subst e
      rw [List.map_cons, RpA.bools r q]
    | _ => cases e
def intsOf : List D → Option (List Int)
  | [] => some []
  | .int x :: r => (intsOf r).map (x :: ·)
  | _ :: _ => none
theorem RpA.intsOf {K : PySem.W.Frag} {G : Hp} : ∀ {vs : List V} {ds : List D} {xs : List Int}, RpA K G vs ds → Z.intsOf ds = some xs → vs = xs.map V.int
  | _, _, _, .nil, e => by cases e; rfl
  | _, _, _, .cons h r, e => by
    cases h with
    | int x =>
      obtain ⟨ys, q, e⟩ := Option.map_eq_some_iff.mp (show (Z.intsOf _).map (x :: ·) = some _ from e)
      subst e
      rw [List.map_cons, RpA.intsOf r q]
    | _ => cases e
def oAll : List D → Option D
  | [.list ds] => (boolsOf ds).map fun bs => .bool (bs.all fun b => b)
  | _ => none
theorem cz_all {K : PySem.W.Frag} : CZ K (rAll K) oAll := by
  intro G H vs ds d s a q Q k
  unfold oAll at q
  split at q
  · obtain ⟨bs, e2, q⟩ := Option.map_eq_some_iff.mp q
    subst q
    cases a with
    | cons h1 h2 =>
      cases h2
      obtain ⟨p, xs, e1, h3, r1⟩ := h1.list s
      subst e1
      have e3 := r1.bools e2
      subst e3
      exact ⟨p, bs, rfl, .inl h3, k _ G H (.refl s) (.bl _)⟩
  · cases q
def oSum : List D → Option D
  | [.list ds] => (intsOf ds).map fun bs => .int bs.sum
  | _ => none
theorem cz_sum {K : PySem.W.Frag} : CZ K (rSum K) oSum := by
  intro G H vs ds d s a q Q k
  unfold oSum at q
  split at q
  · obtain ⟨bs, e2, q⟩ := Option.map_eq_some_iff.mp q
    subst q
    cases a with
    | cons h1 h2 =>
      cases h2
      obtain ⟨p, xs, e1, h3, r1⟩ := h1.list s
      subst e1
      have e3 := r1.intsOf e2
      subst e3
      exact ⟨p, bs, rfl, .inl h3, k _ G H (.refl s) (.int _)⟩
  · cases q

/-! ### isinstance -/
def tyN : D → String
  | .none => "NoneType"
  | .bool _ => "bool"
  | .int _ => "int"
  | .str _ => "str"
  | .list _ => "list"
  | .tuple _ => "tuple"
  | .dict _ => "dict"
theorem Rt.ty {K : PySem.W.Frag} {G H : Hp} {v : V} {d : D} (s : Same G H) (h : Rt K G H v d) : TyX K H v (.type (tyN d)) := by
  cases d with
  | none => rw [h.none]; exact .base .non
  | bool b => rw [h.bool]; exact .base (.bl b)
  | int b => rw [h.int]; exact .base (.int b)
  | str b => rw [h.str]; exact .base (.str b)
  | list ds =>
    obtain ⟨p, xs, e1, h3, r1⟩ := h.list s
    subst e1
    rcases h3 with h3 | ⟨o, h3⟩
    · exact .base (.lst h3)
    · exact .base (.frz h3)
  | tuple ds =>
    obtain ⟨p, xs, e1, h3, _, r1⟩ := h.tuple s
    subst e1
    rcases h3 with (h3 | ⟨o, h3⟩) | ⟨o, its, n, h3, hc, _⟩
    · exact .base (.tup h3)
    · exact .fTuple h3
    · exact .kTuple h3 hc
  | dict ds =>
    obtain ⟨p, xs, e1, h3, r1⟩ := h.dict s
    subst e1
    exact .base (.dK h3)
def isInt : D → Bool
  | .int _ => true
  | .bool _ => true
  | _ => false
def isBool : D → Bool
  | .bool _ => true
  | _ => false
def isStr : D → Bool
  | .str _ => true
  | _ => false
def isTup : D → Bool
  | .tuple _ => true
  | _ => false
def isLst : D → Bool
  | .list _ => true
  | _ => false
theorem kit_all : ∀ U ∈ (["int", "bool", "str", "tuple", "list"] : List String), ∀ n ∈ (["NoneType", "bool", "int", "str", "list", "tuple", "dict"] : List String), kitB n U = some (n == U || (n == "bool" && U == "int")) := by decide +kernel
theorem tyN_mem (d : D) : tyN d ∈ (["NoneType", "bool", "int", "str", "list", "tuple", "dict"] : List String) := by cases d <;> simp [tyN]
theorem kit_int (d : D) : kitB (tyN d) "int" = some (isInt d) := by rw [kit_all "int" (by simp) _ (tyN_mem d)]; cases d <;> rfl
theorem kit_bool (d : D) : kitB (tyN d) "bool" = some (isBool d) := by rw [kit_all "bool" (by simp) _ (tyN_mem d)]; cases d <;> rfl
theorem kit_str (d : D) : kitB (tyN d) "str" = some (isStr d) := by rw [kit_all "str" (by simp) _ (tyN_mem d)]; cases d <;> rfl
theorem kit_tup (d : D) : kitB (tyN d) "tuple" = some (isTup d) := by rw [kit_all "tuple" (by simp) _ (tyN_mem d)]; cases d <;> rfl
theorem kit_lst (d : D) : kitB (tyN d) "list" = some (isLst d) := by rw [kit_all "list" (by simp) _ (tyN_mem d)]; cases d <;> rfl
def dIsi (pf : D → Bool) (fa : En → Option D) (env : En) : Option D := (fa env).bind fun d => some (.bool (pf d))
theorem de_isi {y : Str} {U : String} {pf : D → Bool} {a : Expr} {ta : TE} {fa : En → Option D} {p1 p2 : Pos} (hk : ∀ d, kitB (tyN d) U = some (pf d)) (hv2 : bootBuiltins y = some (.type U)) (hg : Gl X "isinstance") (hm : X.mg "isinstance" = none) (hg2 : Gl X y) (hm2 : X.mg y = none) (ha : DR X a ta fa)
    (hn : y ≠ "__name__" := by decide) (hdb : (y == ("__debug__" : Str)) = false := by decide)
    (he : starEach [a, .Name y p1] X.env = (false, eval a X.env) :: starEach [.Name y p1] X.env := by rfl) (he2 : starEach [.Name y p1] X.env = (false, eval (.Name y p1) X.env) :: starEach [] X.env := by rfl) (hpl : (backTo pos (starEach [.Name y p1] X.env)).any (·.1) = false := by rfl) :
    DE X (.Call (.Name "isinstance" p2) [a, .Name y p1] [] pos) (tCB (rIsi X.K) (tCons ta (tCons (tC (.ty U)) tNil))) (dIsi pf fa) := by
  refine ⟨pe_callB call_isi hg hm PyProof.Rows.boot_isinstance (pa_cons ha.pe (pa_cons (pe_bltn hg2 hm2 hv2 rfl hn hdb) pa_nil he2) he) (by decide) (by decide) he hpl, fun G0 H0 G H σ env d rp q Q k => ?_⟩
  obtain ⟨x, e1, q⟩ := Option.bind_eq_some_iff.mp q
  cases q
  refine ha.se G0 H0 G H σ env x rp e1 _ fun v G1 H1 x1 r1 => ?_
  exact ⟨v, .ty U, .type (tyN x), .type U, pf x, rfl, .ty U, r1.ty x1.s, kit_ty (hk x), k _ _ _ x1 (.bl _)⟩

/-! ### and, or, not -/
def dAndV (fa fb : En → Option D) (env : En) : Option D := (fa env).bind fun d => match d with
  | .bool true => fb env
  | .bool false => some (.bool false)
  | _ => none
def dOrV (fa fb : En → Option D) (env : En) : Option D := (fa env).bind fun d => match d with
  | .bool false => fb env
  | .bool true => some (.bool true)
  | _ => none
def dNotV (fa : En → Option D) (env : En) : Option D := (fa env).bind fun d => match d with
  | .bool b => some (.bool (!b))
  | _ => none
variable {a b : Expr} {rest : List Expr} {ta tb : TE} {fa fb : En → Option D}
theorem de_one {op : BoolOp} (h : DE X a ta fa) : DE X (.BoolOp op [a] pos) ta fa := ⟨pe_one h.pe, h.se⟩
theorem de_and (ha : DE X a ta fa) (hb : DE X (.BoolOp .And (b :: rest) pos) tb fb) : DE X (.BoolOp .And (a :: b :: rest) pos) (tAndV ta tb) (dAndV fa fb) := ⟨pe_and ha.pe hb.pe, fun G0 H0 G H σ env d rp q Q k => by
  obtain ⟨x, e1, q⟩ := Option.bind_eq_some_iff.mp q
  refine ha.se G0 H0 G H σ env x rp e1 _ fun v G1 H1 x1 r1 => ?_
  split at q
  · cases r1
    exact ⟨true, rfl, iteT (hb.se G0 H0 G1 H1 σ env d (rp.ext x1) q Q fun w G2 H2 x2 r2 => k w G2 H2 (x1.trans x2) r2)⟩
  · cases r1
    cases q
    exact ⟨false, rfl, iteF (k _ G1 H1 x1 (.bl _))⟩
  · cases q⟩
theorem de_or (ha : DE X a ta fa) (hb : DE X (.BoolOp .Or (b :: rest) pos) tb fb) : DE X (.BoolOp .Or (a :: b :: rest) pos) (tOrV ta tb) (dOrV fa fb) := ⟨pe_or ha.pe hb.pe, fun G0 H0 G H σ env d rp q Q k => by
  obtain ⟨x, e1, q⟩ := Option.bind_eq_some_iff.mp q
  refine ha.se G0 H0 G H σ env x rp e1 _ fun v G1 H1 x1 r1 => ?_
  split at q
  · cases r1
    exact ⟨false, rfl, iteF (hb.se G0 H0 G1 H1 σ env d (rp.ext x1) q Q fun w G2 H2 x2 r2 => k w G2 H2 (x1.trans x2) r2)⟩
  · cases r1
    cases q
    exact ⟨true, rfl, iteT (k _ G1 H1 x1 (.bl _))⟩
  · cases q⟩
theorem de_not (ha : DE X a ta fa) : DE X (.UnaryOp .Not a pos) (tNotV ta) (dNotV fa) := ⟨pe_not ha.pe, fun G0 H0 G H σ env d rp q Q k => by
  obtain ⟨x, e1, q⟩ := Option.bind_eq_some_iff.mp q
  refine ha.se G0 H0 G H σ env x rp e1 _ fun v G1 H1 x1 r1 => ?_
  split at q
  · cases r1
    cases q
    exact ⟨_, rfl, k _ G1 H1 x1 (.bl _)⟩
  · cases q⟩
def dNeg (fa : En → Option D) (env : En) : Option D := (fa env).bind fun d => match d with
  | .int i => some (.int (-i))
  | _ => none
theorem de_neg (ha : DE X a ta fa) : DE X (.UnaryOp .USub a pos) (tUn (rU fun i => .int (-i)) ta) (dNeg fa) := ⟨pe_un un_neg ha.pe, fun G0 H0 G H σ env d rp q Q k => by
  obtain ⟨x, e1, q⟩ := Option.bind_eq_some_iff.mp q
  refine ha.se G0 H0 G H σ env x rp e1 _ fun v G1 H1 x1 r1 => ?_
  split at q
  · cases r1
    cases q
    exact ⟨_, rfl, k _ G1 H1 x1 (.int _)⟩
  · cases q⟩
/-- tests -/
def bAnd (fa fb : En → Option Bool) (env : En) : Option Bool := (fa env).bind fun b => if b then fb env else some false
def bOr (fa fb : En → Option Bool) (env : En) : Option Bool := (fa env).bind fun b => if b then some true else fb env
def bNot (fa : En → Option Bool) (env : En) : Option Bool := (fa env).map fun b => !b
variable {tA tB' : TT} {gA gB : En → Option Bool}
theorem DW.tst (h : DW X a tA gA) : DB X a tA gA := ⟨h.pw.pt, h.sb⟩
theorem dw_and1 (ha : DB X a tA gA) : DW X (.BoolOp .And [a] pos) tA gA := ⟨pw_and1 ha.pt, ha.sb⟩
theorem dw_or1 (ha : DB X a tA gA) : DW X (.BoolOp .Or [a] pos) tA gA := ⟨pw_or1 ha.pt, ha.sb⟩
theorem dw_and (ha : DB X a tA gA) (hb : DW X (.BoolOp .And (b :: rest) pos) tB' gB) : DW X (.BoolOp .And (a :: b :: rest) pos) (tAnd tA tB') (bAnd gA gB) := ⟨pw_and ha.pt hb.pw, fun G0 H0 G H σ env d rp q Q k => by
  obtain ⟨x, e1, q⟩ := Option.bind_eq_some_iff.mp q
  refine ha.sb G0 H0 G H σ env x rp e1 _ fun G1 H1 x1 => ?_
  cases x with
  | true => exact iteT (hb.sb G0 H0 G1 H1 σ env d (rp.ext x1) q Q fun G2 H2 x2 => k G2 H2 (x1.trans x2))
  | false => cases q; exact iteF (k G1 H1 x1)⟩
theorem dw_or (ha : DB X a tA gA) (hb : DW X (.BoolOp .Or (b :: rest) pos) tB' gB) : DW X (.BoolOp .Or (a :: b :: rest) pos) (tOr tA tB') (bOr gA gB) := ⟨pw_or ha.pt hb.pw, fun G0 H0 G H σ env d rp q Q k => by
  obtain ⟨x, e1, q⟩ := Option.bind_eq_some_iff.mp q
  refine ha.sb G0 H0 G H σ env x rp e1 _ fun G1 H1 x1 => ?_
  cases x with
  | false => exact iteF (hb.sb G0 H0 G1 H1 σ env d (rp.ext x1) q Q fun G2 H2 x2 => k G2 H2 (x1.trans x2))
  | true => cases q; exact iteT (k G1 H1 x1)⟩
theorem db_not (ha : DB X a tA gA) : DB X (.UnaryOp .Not a pos) (tNot tA) (bNot gA) := ⟨pt_not ha.pt, fun G0 H0 G H σ env d rp q Q k => by
  obtain ⟨x, e1, q⟩ := Option.map_eq_some_iff.mp q
  subst q
  exact ha.sb G0 H0 G H σ env x rp e1 _ fun G1 H1 x1 => k G1 H1 x1⟩
/-- a < b < c -/
def dChain (o o' : D → D → Option D) (fa fb fc : En → Option D) (env : En) : Option D := (fa env).bind fun x => (fb env).bind fun y => (o x y).bind fun z => match z with
  | .bool true => (fc env).bind fun w => o' y w
  | .bool false => some (.bool false)
  | _ => none
variable {c : Expr} {tc : TE} {fc : En → Option D} {r1 r2 : R2} {o1 o2 : D → D → Option D}
theorem se_chain {K : PySem.W.Frag} (hz : RZ K r1 o1) (hz' : RZ K r2 o2) (ha : SR K ta fa) (hb : SR K tb fb) (hc : SR K tc fc) : SE K (tChain r1 r2 ta tb tc) (dChain o1 o2 fa fb fc) := fun G0 H0 G H σ env d rp q Q k => by
  obtain ⟨x, e1, q⟩ := Option.bind_eq_some_iff.mp q
  obtain ⟨y, e2, q⟩ := Option.bind_eq_some_iff.mp q
  obtain ⟨z, e3, q⟩ := Option.bind_eq_some_iff.mp q
  refine ha G0 H0 G H σ env x rp e1 _ fun v G1 H1 x1 q1 => ?_
  refine hb G0 H0 G1 H1 σ env y (rp.ext x1) e2 _ fun w G2 H2 x2 q2 => ?_
  refine hz G2 H2 v w x y z x2.s (q1.ext x2) q2 e3 _ fun u G3 H3 x3 q3 => ?_
  split at q
  · cases q3
    obtain ⟨t, e4, q⟩ := Option.bind_eq_some_iff.mp q
    refine ⟨true, rfl, iteT (hc G0 H0 G3 H3 σ env t (((rp.ext x1).ext x2).ext x3) e4 _ fun u2 G4 H4 x4 q4 => ?_)⟩
    exact hz' G4 H4 w u2 y t d x4.s ((q2.ext x3).ext x4) q4 q Q fun u3 G5 H5 x5 q5 => k u3 G5 H5 ((((x1.trans x2).trans x3).trans x4).trans x5) q5
  · cases q3
    cases q
    exact ⟨false, rfl, iteF (k _ G3 H3 ((x1.trans x2).trans x3) (.bl _))⟩
  · cases q
theorem de_chain {op op' : CmpOp} (hz : RZ X.K r1 o1) (hz' : RZ X.K r2 o2) (ho : OpR X (compareOp op) r1) (ho' : OpR X (compareOp op') r2) (ha : DR X a ta fa) (hb : DR X b tb fb) (hc : DR X c tc fc) (hm : lastMarks [op, op'] [b, c] = false := by with_unfolding_all rfl) :
    DE X (.Compare a [op, op'] [b, c] pos) (tChain r1 r2 ta tb tc) (dChain o1 o2 fa fb fc) := ⟨pe_chain ho ho' ha.pe hb.pe hc.pe hm, se_chain hz hz' ha.se hb.se hc.se⟩
theorem db_chain {op op' : CmpOp} (hz : RZ X.K r1 o1) (hz' : RZ X.K r2 o2) (ho : OpR X (compareOp op) r1) (ho' : OpR X (compareOp op') r2) (ha : DR X a ta fa) (hb : DR X b tb fb) (hc : DR X c tc fc) (hm : lastMarks [op, op'] [b, c] = false := by with_unfolding_all rfl) :
    DB X (.Compare a [op, op'] [b, c] pos) (tTest (tChain r1 r2 ta tb tc)) (bOf (dChain o1 o2 fa fb fc)) := ⟨pt_chain ho ho' ha.pe hb.pe hc.pe hm, sb_test (se_chain hz hz' ha.se hb.se hc.se)⟩

/-! ### join -/
def oJoin : D → D → Option D
  | .str a, .list ds => (strsOf ds).bind fun ys => if (ys.map (·.length)).sum + ys.length * a.length ≤ 16777216 then some (.str (Txt.join a ys)) else none
  | _, _ => none
theorem de_join {apos : Pos} (ha : DR X a ta fa) (hb : DR X b tb fb) (hs : starEach [b] X.env = [(false, eval b X.env)] := by rfl) (hbase : attributeBase a "join" X.env (eval a X.env) = eval a X.env := by rfl) (hline : (apos.endLine == pos.line) = true := by rfl) :
    DE X (.Call (.Attribute a "join" apos) [b] [] pos) (tM1 (fun x xs H Q => ∃ a p, ∃ ys : List Str, x = .str a ∧ xs = [.ref p] ∧ (SqL X.K H p (ys.map V.str) ∨ SqT X.K H p (ys.map V.str)) ∧ (ys.map (·.length)).sum + ys.length * a.length ≤ 16777216 ∧ Q (.str (Txt.join a ys)) H) ta tb) (dOp2 oJoin fa fb) := by
  refine ⟨pe_join ha.pe hb.pe hs hbase hline, fun G0 H0 G H σ env d rp q Q k => ?_⟩
  obtain ⟨x, e1, q⟩ := Option.bind_eq_some_iff.mp q
  obtain ⟨y, e2, q⟩ := Option.bind_eq_some_iff.mp q
  refine ha.se G0 H0 G H σ env x rp e1 _ fun v G1 H1 x1 q1 => ?_
  unfold oJoin at q
  split at q
  · obtain ⟨ys, e3, q⟩ := Option.bind_eq_some_iff.mp q
    split at q
    · rename_i hz
      cases q
      refine ⟨⟨_, q1.str⟩, hb.se G0 H0 G1 H1 σ env _ (rp.ext x1) e2 _ fun w G2 H2 x2 q2 => ?_⟩
      obtain ⟨p, xs, e4, h3, r3⟩ := q2.list x2.s
      subst e4
      have e5 := r3.strs e3
      subst e5
      exact ⟨_, p, ys, q1.str, rfl, .inl (.inl h3), hz, k _ _ _ (x1.trans x2) (.str _)⟩
    · cases q
  · cases q
end
end Z

set_option Elab.async false
set_option linter.all false
set_option maxRecDepth 100000
set_option maxHeartbeats 4000000
/-! ZS: statements, targets, loops, comprehensions -/
namespace Z
open PySem L2

inductive Re where
  | nx (env : En)
  | rt (d : D)
section
variable {K : PySem.W.Frag} {G0 H0 G H : Hp} {σ : L2.St} {env : En}
theorem Rep.ex (r : Rep K G0 H0 G H σ env) : Ext G0 H0 G H := ⟨r.g, r.h, r.s, r.n⟩
theorem getset {α : Type} {l : List α} {i j : Nat} {x y : α} (h : (l.set i x)[j]? = some y) : (j = i ∧ y = x) ∨ (j ≠ i ∧ l[j]? = some y) := by
  by_cases e : j = i
  · subst e
    by_cases hl : j < l.length
    · rw [List.getElem?_set_self hl] at h
      cases h
      exact .inl ⟨rfl, rfl⟩
    · rw [List.getElem?_eq_none (by rw [List.length_set]; omega)] at h
      cases h
  · rw [List.getElem?_set_ne (Ne.symm e)] at h
    exact .inr ⟨e, h⟩
theorem getset_self {α β : Type} {l : List α} {m : List β} {i : Nat} {x : α} {y z : β} (hl : l.length = m.length) (h : (m.set i y)[i]? = some z) : (l.set i x)[i]? = some x := by
  have h2 : i < (m.set i y).length := (List.getElem?_eq_some_iff.mp h).1
  rw [List.length_set] at h2
  exact List.getElem?_set_self (by omega)
theorem Rep.set (r : Rep K G0 H0 G H σ env) (i : Nat) {x : V} {d : D} (h : Rp K G x d) : Rep K G0 H0 G H (σ.set i (some x)) (env.set i (.im d)) where
  g := r.g
  s := r.s
  h := r.h
  n := r.n
  len := by rw [List.length_set, List.length_set, r.len]
  im := fun j d' q => by
    rcases getset q with ⟨e, q'⟩ | ⟨e, q'⟩
    · subst e
      cases q'
      exact ⟨x, getset_self r.len q, h⟩
    · rw [List.getElem?_set_ne (Ne.symm e)]
      exact r.im j d' q'
  ow := fun j d' q => by
    rcases getset q with ⟨e, q'⟩ | ⟨e, q'⟩
    · cases q'
    · rw [List.getElem?_set_ne (Ne.symm e)]
      exact r.ow j d' q'
  dj := fun j j' d' e' p ne q q' => by
    rcases getset q with ⟨e, z⟩ | ⟨e, q⟩
    · cases z
    · rcases getset q' with ⟨e2, z⟩ | ⟨e2, q'⟩
      · cases z
      · rw [List.getElem?_set_ne (Ne.symm e), List.getElem?_set_ne (Ne.symm e2)]
        exact r.dj j j' d' e' p ne q q'
/-- a slot of one's own: new, or changed -/
theorem Rep.setO {H' : Hp} (r : Rep K G0 H0 G H σ env) (i : Nat) {p : Addr} {d : D} (gp : G p = none) (h0 : H0 p = none) (hh : ∀ a, a ≠ p → H' a = H a) (t : Top K G H' p d)
    (hd : ∀ j e, j ≠ i → env[j]? = some (.ow e) → σ[j]? ≠ some (some (.ref p))) : Rep K G0 H0 G H' (σ.set i (some (.ref p))) (env.set i (.ow d)) where
  g := r.g
  s := fun a o q => by
    have : a ≠ p := fun z => by rw [z, gp] at q; cases q
    rw [hh a this]
    exact r.s a o q
  h := fun a o q => by
    have : a ≠ p := fun z => by rw [z, h0] at q; cases q
    rw [hh a this]
    exact r.h a o q
  n := r.n
  len := by rw [List.length_set, List.length_set, r.len]
  im := fun j d' q => by
    rcases getset q with ⟨e, q'⟩ | ⟨e, q'⟩
    · cases q'
    · rw [List.getElem?_set_ne (Ne.symm e)]
      exact r.im j d' q'
  ow := fun j d' q => by
    rcases getset q with ⟨e, q'⟩ | ⟨e, q'⟩
    · subst e
      cases q'
      exact ⟨p, getset_self r.len q, gp, h0, t⟩
    · rw [List.getElem?_set_ne (Ne.symm e)]
      obtain ⟨p', a, b, c, t'⟩ := r.ow j d' q'
      have ne : p' ≠ p := fun z => hd j d' e q' (by rw [← z]; exact a)
      refine ⟨p', a, b, c, ?_⟩
      cases t' with
      | lst h1 h2 => exact .lst ((hh p' ne).trans h1) h2
      | dic h1 h2 => exact .dic ((hh p' ne).trans h1) h2
  dj := fun j j' d' e' p' ne q q' => by
    rcases getset q with ⟨e, z⟩ | ⟨e, q1⟩
    · subst e
      rcases getset q' with ⟨e2, z2⟩ | ⟨e2, q2⟩
      · exact absurd e2.symm ne
      · intro h1 h2
        rw [getset_self r.len q] at h1
        cases h1
        rw [List.getElem?_set_ne (Ne.symm e2)] at h2
        exact hd j' e' e2 q2 h2
    · rcases getset q' with ⟨e2, z2⟩ | ⟨e2, q2⟩
      · subst e2
        intro h1 h2
        rw [List.getElem?_set_ne (Ne.symm e)] at h1
        rw [getset_self r.len q'] at h2
        cases h2
        exact hd j d' e q1 h1
      · rw [List.getElem?_set_ne (Ne.symm e), List.getElem?_set_ne (Ne.symm e2)]
        exact r.dj j j' d' e' p' ne q1 q2
/-- an own slot is frozen -/
def frzS : Sl → Sl
  | .ow d => .im d
  | s => s
def frz (i : Nat) (env : En) : En := env.modify i frzS
theorem Rep.frz (r : Rep K G0 H0 G H σ env) (i : Nat) : ∃ G', Same G G' ∧ Rep K G0 H0 G' H σ (Z.frz i env) := by
  cases q : env[i]? with
  | none =>
    have : Z.frz i env = env := by
      unfold Z.frz
      exact List.modify_eq_self (List.getElem?_eq_none_iff.mp q)
    rw [this]
    exact ⟨G, .refl _, r⟩
  | some sl =>
    have hlen : (Z.frz i env).length = env.length := by simp [Z.frz]
    have hget : ∀ j, (Z.frz i env)[j]? = if i = j then (env[j]?).map frzS else env[j]? := fun j => by
      unfold Z.frz
      rw [List.getElem?_modify]
      by_cases e : i = j <;> simp [e]
    cases sl with
    | no =>
      have : Z.frz i env = env := by
        apply List.ext_getElem?
        intro j
        rw [hget]
        by_cases e : i = j
        · subst e; rw [if_pos rfl, q]; rfl
        · rw [if_neg e]
      rw [this]
      exact ⟨G, .refl _, r⟩
    | im d =>
      have : Z.frz i env = env := by
        apply List.ext_getElem?
        intro j
        rw [hget]
        by_cases e : i = j
        · subst e; rw [if_pos rfl, q]; rfl
        · rw [if_neg e]
      rw [this]
      exact ⟨G, .refl _, r⟩
    | ow d =>
      obtain ⟨p, sp, gp, h0, tp⟩ := r.ow i d q
      obtain ⟨o, ho, hr⟩ := tp.rp
      have sn : Same G (upd G p o) := same_new gp
      refine ⟨upd G p o, sn, ?_⟩
      have hx := r.ex.frz gp h0 ho
      refine ⟨hx.g, hx.s, hx.h, hx.n, by rw [hlen]; exact r.len, fun j d' z => ?_, fun j d' z => ?_, fun j j' d' e' p' ne z z' => ?_⟩
      · rw [hget] at z
        by_cases e : i = j
        · subst e
          rw [if_pos rfl, q] at z
          cases z
          exact ⟨_, sp, hr _ sn upd_same⟩
        · rw [if_neg e] at z
          obtain ⟨v, a, b⟩ := r.im j d' z
          exact ⟨v, a, b.mono sn⟩
      · rw [hget] at z
        by_cases e : i = j
        · subst e
          rw [if_pos rfl, q] at z
          cases z
        · rw [if_neg e] at z
          obtain ⟨p', a, b, c, t⟩ := r.ow j d' z
          have ne : p' ≠ p := fun y => r.dj i j d d' p e q z sp (by rw [← y]; exact a)
          refine ⟨p', a, by rw [upd_ne ne]; exact b, c, ?_⟩
          cases t with
          | lst h1 h2 => exact .lst h1 (h2.mono sn)
          | dic h1 h2 => exact .dic h1 (h2.mono sn)
      · rw [hget] at z z'
        by_cases e : i = j
        · subst e
          rw [if_pos rfl, q] at z
          cases z
        · rw [if_neg e] at z
          by_cases e2 : i = j'
          · subst e2
            rw [if_pos rfl, q] at z'
            cases z'
          · rw [if_neg e2] at z'
            exact r.dj j j' d' e' p' ne z z'
/-- slots forgotten -/
def wipeE (env : En) : List Nat → En
  | [] => env
  | v :: vs => (wipeE env vs).set v .no
end

def Wish (K : PySem.W.Frag) (G0 H0 G : Hp) (r : Re) (D : Ends) : Prop := match r with
  | .nx env' => ∀ σ' G' H', Same G G' → Rep K G0 H0 G' H' σ' env' → D.nx σ' H'
  | .rt d => ∀ v G' H', Same G G' → Ext G0 H0 G' H' → Rp K G' v d → D.rt v H'
theorem Wish.mono {K : PySem.W.Frag} {G0 H0 G G' : Hp} {r : Re} {D : Ends} (s : Same G G') (h : Wish K G0 H0 G r D) : Wish K G0 H0 G' r D := by
  cases r with
  | nx e => exact fun σ' G'' H' q => h σ' G'' H' (s.trans q)
  | rt d => exact fun v G'' H' q => h v G'' H' (s.trans q)
def SS (K : PySem.W.Frag) (t : TS) (f : En → Option Re) : Prop := ∀ G0 H0 G H σ env r, Rep K G0 H0 G H σ env → f env = some r → ∀ D : Ends, Wish K G0 H0 G r D → t D σ H
structure DS (X : Cx) (st : Stmt) (t : TS) (f : En → Option Re) : Prop where
  ps : PS X st t
  ss : SS X.K t f
structure DSs (X : Cx) (sts : List Stmt) (t : TS) (f : En → Option Re) : Prop where
  ps : PSs X sts t
  ss : SS X.K t f

/-! ### blocks, return, if -/
def sNil (env : En) : Option Re := some (.nx env)
def sSeq (f g : En → Option Re) (env : En) : Option Re := (f env).bind fun r => match r with
  | .nx e => g e
  | .rt d => some (.rt d)
def sRet (f : En → Option D) (env : En) : Option Re := (f env).map .rt
def sIf (c : En → Option Bool) (f g : En → Option Re) (env : En) : Option Re := (c env).bind fun b => if b then f env else g env
def sAsg (f : En → Option D) (g : D → En → Option En) (env : En) : Option Re := (f env).bind fun d => (g d env).map .nx
def sFrz (i : Nat) (f : En → Option Re) (env : En) : Option Re := f (frz i env)
section
variable {X : Cx} {st : Stmt} {rest : List Stmt} {t u : TS} {f g : En → Option Re} {pos : Pos}
theorem dss_nil : DSs X [] tNext sNil := ⟨pss_nil, fun G0 H0 G H σ env r rp q D k => by cases q; exact k σ G H (.refl _) rp⟩
theorem ss_seq {K : PySem.W.Frag} (h1 : SS K t f) (h2 : SS K u g) : SS K (tSeq t u) (sSeq f g) := fun G0 H0 G H σ env r rp q D k => by
  obtain ⟨x, e1, q⟩ := Option.bind_eq_some_iff.mp q
  refine h1 G0 H0 G H σ env x rp e1 { D with nx := u D } ?_
  cases x with
  | nx e => exact fun σ' G' H' s rp' => h2 G0 H0 G' H' σ' e r rp' q D (k.mono s)
  | rt d => cases q; exact k
theorem dss_cons (h1 : DS X st t f) (h2 : DSs X rest u g) : DSs X (st :: rest) (tSeq t u) (sSeq f g) := ⟨pss_cons h1.ps h2.ps, ss_seq h1.ss h2.ss⟩
theorem dss_one (h1 : DS X st t f) : DSs X [st] t f := ⟨pss_one h1.ps, h1.ss⟩
/-- code that is not come to -/
theorem dss_never {sts : List Stmt} : DSs X sts tNever (fun _ => none) := ⟨pss_never, fun _ _ _ _ _ _ _ _ q => nomatch q⟩
theorem dss_frz (i : Nat) {sts : List Stmt} (h : DSs X sts t f) : DSs X sts t (sFrz i f) := ⟨h.ps, fun G0 H0 G H σ env r rp q D k => by
  obtain ⟨G', s, rp'⟩ := rp.frz i
  exact h.ss G0 H0 G' H σ _ r rp' q D (k.mono s)⟩
theorem ds_ret {e : Expr} {te : TE} {fe : En → Option PyData} (h : DE X e te fe) : DS X (.Return (some e) pos) (tRet te) (sRet fe) := ⟨ps_ret h.pe, fun G0 H0 G H σ env r rp q D k => by
  obtain ⟨d, e1, q⟩ := Option.map_eq_some_iff.mp q
  subst q
  exact h.se G0 H0 G H σ env d rp e1 _ fun v G' H' x r1 => k v G' H' x.g (rp.ex.trans x) r1⟩
theorem ds_if {c : Expr} {a b : List Stmt} {tc : TT} {gc : En → Option Bool} (hc : DB X c tc gc) (ha : DSs X a t f) (hb : DSs X b u g) : DS X (.If c a b pos) (tIfS tc t u) (sIf gc f g) := ⟨ps_if hc.pt ha.ps hb.ps, fun G0 H0 G H σ env r rp q D k => by
  obtain ⟨x, e1, q⟩ := Option.bind_eq_some_iff.mp q
  refine hc.sb G0 H0 G H σ env x rp e1 _ fun G1 H1 x1 => ?_
  cases x with
  | true => exact iteT (ha.ss G0 H0 G1 H1 σ env r (rp.ext x1) q D (k.mono x1.g))
  | false => exact iteF (hb.ss G0 H0 G1 H1 σ env r (rp.ext x1) q D (k.mono x1.g))⟩
end

/-! ### targets -/
theorem wipe_comm (i : Nat) (v : Option V) : ∀ (vs : List Nat) (σ : L2.St), i ∉ vs → wipe (σ.set i v) vs = (wipe σ vs).set i v
  | [], _, _ => rfl
  | w :: vs, σ, h => by
    have h1 : i ≠ w := fun e => h (by simp [e])
    have h2 : i ∉ vs := fun e => h (by simp [e])
    show (wipe (σ.set i v) vs).set w none = ((wipe σ vs).set w none).set i v
    rw [wipe_comm i v vs σ h2, List.set_comm _ _ h1]
theorem wipe_set (i : Nat) (v : Option V) : ∀ (vs : List Nat) (σ : L2.St), i ∈ vs → wipe (σ.set i v) vs = wipe σ vs
  | [], _, h => nomatch h
  | w :: vs, σ, h => by
    show (wipe (σ.set i v) vs).set w none = (wipe σ vs).set w none
    by_cases e : i ∈ vs
    · rw [wipe_set i v vs σ e]
    · rcases List.mem_cons.mp h with z | z
      · subst z
        rw [wipe_comm i v vs σ e, List.set_set]
      · exact absurd z e
def SG (K : PySem.W.Frag) (g : TG) (vs : List Nat) (f : D → En → Option En) : Prop := ∀ G0 H0 G H σ env x d env', Rep K G0 H0 G H σ env → Rp K G x d → f d env = some env' → ∀ Q : L2.St → Hp → Prop, (∀ σ', Rep K G0 H0 G H σ' env' → wipe σ' vs = wipe σ vs → Q σ' H) → g x σ H Q
def SGs (K : PySem.W.Frag) (g : TGs) (vs : List Nat) (f : List D → En → Option En) : Prop := ∀ G0 H0 G H σ env xs ds env', Rep K G0 H0 G H σ env → RpA K G xs ds → f ds env = some env' → ∀ Q : L2.St → Hp → Prop, (∀ σ', Rep K G0 H0 G H σ' env' → wipe σ' vs = wipe σ vs → Q σ' H) → g xs σ H Q
structure DG (X : Cx) (tg : Expr) (g : TG) (vs : List Nat) (f : D → En → Option En) : Prop where
  pg : PG X tg g
  sg : SG X.K g vs f
structure DGs (X : Cx) (tg : List Expr) (g : TGs) (vs : List Nat) (f : List D → En → Option En) : Prop where
  pg : PGs X tg g
  sg : SGs X.K g vs f
def gNm (i : Nat) (d : D) (env : En) : Option En := some (env.set i (.im d))
def gsNil : List D → En → Option En
  | [], env => some env
  | _, _ => none
def gsCons (f : D → En → Option En) (r : List D → En → Option En) : List D → En → Option En
  | d :: ds, env => (f d env).bind (r ds)
  | [], _ => none
def gTp (n : Nat) (r : List D → En → Option En) : D → En → Option En
  | .tuple ds, env => if ds.length = n then r ds env else none
  | _, _ => none
section
variable {X : Cx} {pos : Pos}
theorem dg_name (i : Nat) {vs : List Nat} {x : Str} (hN : X.N.Nodup) (hi : X.N[i]? = some x := by rfl) (hx : Loc X.env.scope x := by first | exact Or.inl rfl | exact Or.inr rfl) (hv : i ∈ vs := by decide) (hf : X.fn x = true ∨ X.env.scope.names.lookup x = some .local := by first | exact .inl rfl | exact .inr rfl) : DG X (.Name x pos) (gName i) vs (gNm i) :=
  ⟨pg_name hN hi hx hf, fun G0 H0 G H σ env x d env' rp r q Q k => by
    cases q
    exact k _ (rp.set i r) (wipe_set i _ vs σ hv)⟩
theorem dgs_nil {vs : List Nat} : DGs X [] gNil vs gsNil := ⟨pgs_nil, fun G0 H0 G H σ env xs ds env' rp r q Q k => by
  unfold gsNil at q
  split at q
  · cases q
    cases r
    exact ⟨rfl, k _ rp rfl⟩
  · cases q⟩
theorem dgs_cons {e : Expr} {es : List Expr} {t : TG} {u : TGs} {vs : List Nat} {f : D → En → Option En} {r : List D → En → Option En} (h1 : DG X e t vs f) (h2 : DGs X es u vs r)
    (hs : (assignEach (e :: es) X.env).map (·.2) = assign e X.env :: (assignEach es X.env).map (·.2) := by rfl) : DGs X (e :: es) (gCons t u) vs (gsCons f r) := ⟨pgs_cons h1.pg h2.pg hs, fun G0 H0 G H σ env xs ds env' rp ra q Q k => by
  cases ra with
  | nil => cases q
  | cons a b =>
    obtain ⟨e1, q1, q⟩ := Option.bind_eq_some_iff.mp q
    refine ⟨_, _, rfl, h1.sg G0 H0 G H σ env _ _ e1 rp a q1 _ fun σ1 rp1 w1 => ?_⟩
    exact h2.sg G0 H0 G H σ1 e1 _ _ env' rp1 b q Q fun σ2 rp2 w2 => k σ2 rp2 (w2.trans w1)⟩
theorem dg_tup {es : List Expr} {k : Nat} {t : TGs} {n : Nat} {vs : List Nat} {r : List D → En → Option En} (hc : X.calm = true) (h : DGs X es t vs r)
    (hn : (assignEach es X.env).length = n := by rfl) (hst : (assignEach es X.env).findIdx? (·.1) = none := by rfl) : DG X (.Tuple es k pos) (gTup X.K n t) vs (gTp n r) := ⟨pg_tup hc h.pg hn hst, fun G0 H0 G H σ env x d env' rp rx q Q k => by
  unfold gTp at q
  split at q
  · split at q
    · rename_i hl
      cases rx with
      | tup h1 h2 => exact ⟨_, _, rfl, Same.sqt rp.s h1, by rw [h2.length]; exact hl, h.sg G0 H0 G H σ env _ _ env' rp h2 q Q k⟩
    · cases q
  · cases q⟩

/-! ### assignments -/
theorem ss_asg {K : PySem.W.Frag} {te : TE} {g : TG} {vs : List Nat} {f : En → Option PyData} {gf : D → En → Option En} (he : SE K te f) (hg : SG K g vs gf) : SS K (tAsg te g) (sAsg f gf) := fun G0 H0 G H σ env r rp q D k => by
  obtain ⟨d, e1, q⟩ := Option.bind_eq_some_iff.mp q
  obtain ⟨env', e2, q⟩ := Option.map_eq_some_iff.mp q
  subst q
  refine he G0 H0 G H σ env d rp e1 _ fun v G1 H1 x1 r1 => ?_
  exact hg G0 H0 G1 H1 σ env v d env' (rp.ext x1) r1 e2 _ fun σ' rp' _ => k σ' G1 H1 x1.g rp'
theorem ds_asg {tg e : Expr} {te : TE} {g : TG} {vs : List Nat} {f : En → Option PyData} {gf : D → En → Option En} (he : DE X e te f) (hg : DG X tg g vs gf) (hs : swapsWithSole [tg] e pos.line X.env = pure false := by rfl) (hw : swappedStores [tg] e X.env = pure none := by rfl)
    (h1 : (assignEach [tg] X.env).map (·.2) = [assign tg X.env] := by rfl) : DS X (.Assign [tg] e pos) (tAsg te g) (sAsg f gf) := ⟨ps_asg he.pe hg.pg hs hw h1, ss_asg he.se hg.sg⟩
theorem ds_set (i : Nat) {x : Str} {e : Expr} {te : TE} {f : En → Option PyData} {pos' : Pos} (hN : X.N.Nodup) (he : DE X e te f) (hi : X.N[i]? = some x := by rfl) (hx : Loc X.env.scope x := by first | exact Or.inl rfl | exact Or.inr rfl) (hs : swapsWith e (some (.Name x pos')) pos.line X.env = pure false := by rfl)
    (hf : X.fn x = true ∨ X.env.scope.names.lookup x = some .local := by first | exact .inl rfl | exact .inr rfl) : DS X (.Assign [.Name x pos'] e pos) (tAsg te (gName i)) (sAsg f (gNm i)) :=
  ⟨ps_set hN hi hx he.pe hs hf, ss_asg (vs := [i]) he.se (dg_name (vs := [i]) (pos := pos) i hN hi hx (by simp) hf).sg⟩
/-- .. to a slot of one's own -/
def sOwn (f : En → Option D) (i : Nat) (env : En) : Option Re := (f env).map fun d => .nx (env.set i (.ow d))
theorem ss_own {K : PySem.W.Frag} {te : TE} {f : En → Option PyData} (i : Nat) (he : SO K te f) : SS K (tAsg te (gName i)) (sOwn f i) := fun G0 H0 G H σ env r rp q D k => by
  obtain ⟨d, e1, q⟩ := Option.map_eq_some_iff.mp q
  subst q
  refine he G0 H0 G H σ env d rp e1 _ fun p G1 H1 x1 gp hp tp => ?_
  have rp1 := rp.ext x1
  refine k _ G1 H1 x1.g (rp1.setO i gp (rp.h.free hp) (fun _ _ => rfl) tp fun j e hj q z => ?_)
  obtain ⟨p', a, _, _, t⟩ := rp.ow j e q
  rw [a] at z
  cases z
  obtain ⟨o, ho⟩ := t.there
  rw [hp] at ho
  cases ho
theorem ds_setO (i : Nat) {x : Str} {e : Expr} {te : TE} {f : En → Option PyData} {pos' : Pos} (hN : X.N.Nodup) (he : DO X e te f) (hi : X.N[i]? = some x := by rfl) (hx : Loc X.env.scope x := by first | exact Or.inl rfl | exact Or.inr rfl) (hs : swapsWith e (some (.Name x pos')) pos.line X.env = pure false := by rfl)
    (hf : X.fn x = true ∨ X.env.scope.names.lookup x = some .local := by first | exact .inl rfl | exact .inr rfl) : DS X (.Assign [.Name x pos'] e pos) (tAsg te (gName i)) (sOwn f i) :=
  ⟨ps_set hN hi hx he.pe hs hf, ss_own i he.se⟩
theorem SO.e {K : PySem.W.Frag} {t : TE} {f : En → Option PyData} (h : SO K t f) : SE K t f := fun G0 H0 G H σ env d r q Q k => h G0 H0 G H σ env d r q Q fun p G' H' e gp hp tp => by
  obtain ⟨o, ho, hr⟩ := tp.rp
  exact k (.ref p) (upd G' p o) H' (e.frz gp hp ho) (hr _ (same_new gp) upd_same)

/-! ### x.append(e), x.extend(e), d[k] = e, for own x, d -/
def sApp (i : Nat) (f : En → Option D) (env : En) : Option Re := (f env).bind fun d => match env[i]? with
  | some (.ow (.list ds)) => if ds.length < sizeLine then some (.nx (env.set i (.ow (.list (ds ++ [d]))))) else none
  | _ => none
theorem ow_there {K : PySem.W.Frag} {G0 H0 G H : Hp} {σ : L2.St} {env : En} (rp : Rep K G0 H0 G H σ env) {i : Nat} {ds : List D} (h : env[i]? = some (.ow (.list ds))) :
    ∃ p xs, σ[i]? = some (some (.ref p)) ∧ G p = none ∧ H0 p = none ∧ H p = some (.lst xs) ∧ RpA K G xs ds := by
  obtain ⟨p, a, b, c, t⟩ := rp.ow i _ h
  cases t with
  | lst h1 h2 => exact ⟨p, _, a, b, c, h1, h2⟩
theorem ow_dic {K : PySem.W.Frag} {G0 H0 G H : Hp} {σ : L2.St} {env : En} (rp : Rep K G0 H0 G H σ env) {i : Nat} {ds : List (D × D)} (h : env[i]? = some (.ow (.dict ds))) :
    ∃ p xs, σ[i]? = some (some (.ref p)) ∧ G p = none ∧ H0 p = none ∧ H p = some (.dK xs) ∧ RpD K G xs ds := by
  obtain ⟨p, a, b, c, t⟩ := rp.ow i _ h
  cases t with
  | dic h1 h2 => exact ⟨p, _, a, b, c, h1, h2⟩
theorem set_same {α : Type} {l : List α} {i : Nat} {x : α} (h : l[i]? = some x) : l.set i x = l := by
  apply List.ext_getElem?
  intro j
  by_cases e : j = i
  · subst e
    rw [List.getElem?_set_self (List.getElem?_eq_some_iff.mp h).1, h]
  · rw [List.getElem?_set_ne (Ne.symm e)]
theorem Rep.change {K : PySem.W.Frag} {G0 H0 G H : Hp} {σ : L2.St} {env : En} {i : Nat} {p : Addr} {d d' : D} {o : HO} (rp : Rep K G0 H0 G H σ env) (h : env[i]? = some (.ow d)) (hs : σ[i]? = some (some (.ref p))) (gp : G p = none) (h0 : H0 p = none) (t : Top K G (upd H p o) p d') :
    Rep K G0 H0 G (upd H p o) σ (env.set i (.ow d')) := by
  have := rp.setO (H' := upd H p o) i gp h0 (fun a ha => upd_ne ha) t fun j e hj q z => rp.dj i j d e p (Ne.symm hj) h q hs z
  rw [set_same hs] at this
  exact this
theorem ds_app (i : Nat) {x : Str} {e : Expr} {te : TE} {f : En → Option PyData} {xp apos cpos : Pos} (he : DE X e te f) (hN : X.N[i]? = some x := by rfl) (hv : Vis X.env.scope x := by first | exact Or.inl rfl | exact Or.inr (Or.inl rfl) | exact Or.inr (Or.inr rfl)) (hd : (x == ("__debug__" : Str)) = false := by decide)
    (hcd : (x == ("__classdict__" : Str)) = false := by decide) (hsw : swapsWith (.Call (.Attribute (.Name x xp) "append" apos) [e] [] cpos) none pos.line X.env = pure false := by rfl)
    (hbase : attributeBase (.Name x xp) "append" X.env (eval (.Name x xp) X.env) = eval (.Name x xp) X.env := by rfl)
    (hfew : ((backTo cpos (starEach [e] X.env)).all (fun x => !x.1) && (backToKw cpos (keywordEach [] X.env)).all (fun x => x.1.isSome) && decide ([e].length + ([] : List Keyword).length + (if ([] : List Keyword).isEmpty then 0 else 1) < 30)) = true := by rfl)
    (hline : (apos.endLine == cpos.line) = true := by rfl) (hs : starEach [e] X.env = (false, eval e X.env) :: starEach [] X.env := by rfl) :
    DS X (.Expr (.Call (.Attribute (.Name x xp) "append" apos) [e] [] cpos) pos) (tDrop (tBM X.K "list" rAppend (tVar i) (tCons te tNil))) (sApp i f) := by
  refine ⟨ps_expr (pe_bm PySem.F.plainAttrs_list PySem.F.slot_list_append PySem.F.type_list_append mt_append (pe_var hN hv hd hcd) (pa_cons he.pe pa_nil hs) hbase hfew hline hs rfl) hsw, fun G0 H0 G H σ env r rp q D k => ?_⟩
  obtain ⟨d, e1, q⟩ := Option.bind_eq_some_iff.mp q
  split at q
  · rename_i ds e2
    split at q
    · rename_i hz
      cases q
      obtain ⟨p, xs, sp, gp, h0, hp, rx⟩ := ow_there rp e2
      refine ⟨_, sp, .inl ⟨rfl, xs, SqL.of hp⟩, he.se G0 H0 G H σ env d rp e1 _ fun v G1 H1 x1 r1 => ?_⟩
      have rp1 := rp.ext x1
      have rx1 := rx.mono x1.g
      have gp1 := x1.old gp hp
      refine ⟨p, xs, v, rfl, rfl, x1.h _ _ hp, by rw [rx.length]; exact hz, ?_⟩
      exact k σ G1 _ x1.g (rp1.change e2 sp gp1 h0 (.lst upd_same (rx1.app (.cons r1 .nil))))
    · cases q
  · cases q
def sExt (i : Nat) (f : En → Option D) (env : En) : Option Re := (f env).bind fun d => match env[i]?, d with
  | some (.ow (.list ds)), .list es => if ds.length + es.length ≤ sizeLine then some (.nx (env.set i (.ow (.list (ds ++ es))))) else none
  | _, _ => none
theorem ds_ext (i : Nat) {x : Str} {e : Expr} {te : TE} {f : En → Option PyData} {xp apos cpos : Pos} (he : DO X e te f) (hN : X.N[i]? = some x := by rfl) (hv : Vis X.env.scope x := by first | exact Or.inl rfl | exact Or.inr (Or.inl rfl) | exact Or.inr (Or.inr rfl)) (hd : (x == ("__debug__" : Str)) = false := by decide)
    (hcd : (x == ("__classdict__" : Str)) = false := by decide) (hsw : swapsWith (.Call (.Attribute (.Name x xp) "extend" apos) [e] [] cpos) none pos.line X.env = pure false := by rfl)
    (hbase : attributeBase (.Name x xp) "extend" X.env (eval (.Name x xp) X.env) = eval (.Name x xp) X.env := by rfl)
    (hfew : ((backTo cpos (starEach [e] X.env)).all (fun x => !x.1) && (backToKw cpos (keywordEach [] X.env)).all (fun x => x.1.isSome) && decide ([e].length + ([] : List Keyword).length + (if ([] : List Keyword).isEmpty then 0 else 1) < 30)) = true := by rfl)
    (hline : (apos.endLine == cpos.line) = true := by rfl) (hs : starEach [e] X.env = (false, eval e X.env) :: starEach [] X.env := by rfl) :
    DS X (.Expr (.Call (.Attribute (.Name x xp) "extend" apos) [e] [] cpos) pos) (tDrop (tBM X.K "list" rExtend (tVar i) (tCons te tNil))) (sExt i f) := by
  refine ⟨ps_expr (pe_bm PySem.F.plainAttrs_list PySem.F.slot_list_extend PySem.F.type_list_extend mt_extend (pe_var hN hv hd hcd) (pa_cons he.pe pa_nil hs) hbase hfew hline hs rfl) hsw, fun G0 H0 G H σ env r rp q D k => ?_⟩
  obtain ⟨d, e1, q⟩ := Option.bind_eq_some_iff.mp q
  split at q
  · rename_i ds es e2
    split at q
    · rename_i hz
      cases q
      obtain ⟨p, xs, sp, gp, h0, hp, rx⟩ := ow_there rp e2
      refine ⟨_, sp, .inl ⟨rfl, xs, SqL.of hp⟩, he.se G0 H0 G H σ env _ rp e1 _ fun b G1 H1 x1 gb hb tb => ?_⟩
      cases tb with
      | lst h1 h2 =>
        have rp1 := rp.ext x1
        have rx1 := rx.mono x1.g
        have gp1 := x1.old gp hp
        refine ⟨p, b, xs, _, rfl, rfl, x1.h _ _ hp, h1, by rw [rx.length, h2.length]; exact hz, ?_⟩
        exact k σ G1 _ x1.g (rp1.change e2 sp gp1 h0 (.lst upd_same (rx1.app h2)))
    · cases q
  · cases q
end
end Z

set_option Elab.async false
set_option linter.all false
set_option maxRecDepth 100000
set_option maxHeartbeats 4000000
/-! ZL: loops and comprehensions -/
namespace Z
open PySem L2

/-! ### what is walked -/
/-- the iterator J hands out ds, while G1 stands -/
def Good (K : PySem.W.Frag) (J : It) (G1 : Hp) (ds : List D) : Prop := ∀ G H, Same G1 G → Same G H →
  (∀ (i : Nat) d, ds[i]? = some d → J.go i H ∧ ∀ x H', J.yld i H x H' → ∃ G', Ext G H G' H' ∧ Rp K G' x d) ∧ J.stop ds.length H
def SI (K : PySem.W.Frag) (wi : TI) (f : En → Option (List D)) : Prop := ∀ G0 H0 G H σ env ds, Rep K G0 H0 G H σ env → f env = some ds → ∀ R : It → Hp → Prop, (∀ J G' H', Ext G H G' H' → Good K J G' ds → R J H') → wi σ H R
structure DI (X : Cx) (tg iter : Expr) (wi : TI) (f : En → Option (List D)) : Prop where
  pi : PI X tg iter wi
  si : SI X.K wi f
def iAlt (w w' : TI) : TI := fun σ H R => w σ H R ∨ w' σ H R
theorem pi_alt {X : Cx} {tg e : Expr} {w w' : TI} (h : PI X tg e w) (h' : PI X tg e w') : PI X tg e (iAlt w w') := ⟨fun pins s σ H R I q => q.elim (h.run pins s σ H R I) (h'.run pins s σ H R I)⟩
def signsOf (z : Str) : List D := z.cps.toList.map fun c => .str ⟨#[c]⟩
def iSeq (f : En → Option D) (env : En) : Option (List D) := (f env).bind fun d => match d with
  | .list ds => some ds
  | .tuple ds => some ds
  | .str z => some (signsOf z)
  | _ => none
section
variable {X : Cx} {tg : Expr}
theorem rd_inj {H : Hp} {a : Addr} {xs ys : List V} (h : Rd H a (.lst xs)) (h' : Rd H a (.lst ys)) : xs = ys := by
  rcases h with h | ⟨o, h⟩ <;> rcases h' with h' | ⟨o', h'⟩
  · rw [h] at h'; cases h'; rfl
  · rw [h] at h'; cases h'
  · rw [h] at h'; cases h'
  · rw [h] at h'; cases h'; rfl
/-- a list that is tracked is not a module's -/
theorem di_seq {e : Expr} {te : TE} {f : En → Option PyData} (h : DE X e te f) : DI X tg e (iAlt (iList X.K te) (iAlt (iTup X.K te) (iStr te))) (iSeq f) := by
  refine ⟨pi_alt (pi_list h.pe) (pi_alt (pi_tup h.pe) (pi_str h.pe)), fun G0 H0 G H σ env ds rp q R k => ?_⟩
  obtain ⟨d, e1, q⟩ := Option.bind_eq_some_iff.mp q
  split at q
  · cases q
    refine .inl (h.se G0 H0 G H σ env _ rp e1 _ fun v G1 H1 x1 r1 => ?_)
    cases r1 with
    | lst h1 h2 =>
      refine ⟨_, rfl, ⟨_, .inl (Same.rd x1.s h1)⟩, k _ G1 H1 x1 fun G2 H2 s1 s2 => ⟨fun i d hd => ?_, ⟨_, .inl (Same.rd s2 (Same.rd s1 h1)), by rw [h2.length]; exact Nat.le_refl _⟩⟩⟩
      obtain ⟨v, hv, rv⟩ := h2.get hd
      refine ⟨⟨_, v, .inl (Same.rd s2 (Same.rd s1 h1)), hv⟩, fun y H' hy => ?_⟩
      obtain ⟨rfl, hy⟩ := hy
      have := hy _ (.inl (Same.rd s2 (Same.rd s1 h1)))
      rw [hv] at this
      cases this
      exact ⟨G2, .refl s2, rv.mono s1⟩
  · cases q
    refine .inr (.inl (h.se G0 H0 G H σ env _ rp e1 _ fun v G1 H1 x1 r1 => ?_))
    cases r1 with
    | tup h1 h2 =>
      refine ⟨_, rfl, ⟨_, Same.sqt x1.s h1⟩, k _ G1 H1 x1 fun G2 H2 s1 s2 => ⟨fun i d hd => ?_, ⟨_, Same.sqt s2 (Same.sqt s1 h1), by rw [h2.length]; exact Nat.le_refl _⟩⟩⟩
      obtain ⟨v, hv, rv⟩ := h2.get hd
      refine ⟨⟨_, v, Same.sqt s2 (Same.sqt s1 h1), hv⟩, fun y H' hy => ?_⟩
      obtain ⟨rfl, hy⟩ := hy
      have := hy _ (Same.sqt s2 (Same.sqt s1 h1))
      rw [hv] at this
      cases this
      exact ⟨G2, .refl s2, rv.mono s1⟩
  · rename_i z
    cases q
    refine .inr (.inr (h.se G0 H0 G H σ env _ rp e1 _ fun v G1 H1 x1 r1 => ?_))
    cases r1
    have hl : (signsOf z).length = z.cps.size := by unfold signsOf; rw [List.length_map, Array.length_toList]
    refine ⟨_, rfl, k _ G1 H1 x1 fun G2 H2 s1 s2 => ⟨fun i d hd => ?_, by show z.cps.size ≤ _; rw [hl]; exact Nat.le_refl _⟩⟩
    unfold signsOf at hd
    rw [List.getElem?_map] at hd
    obtain ⟨c, hc, hd⟩ := Option.map_eq_some_iff.mp hd
    subst hd
    rw [Array.getElem?_toList] at hc
    refine ⟨(Array.getElem?_eq_some_iff.mp hc).1, fun y H' hy => ?_⟩
    obtain ⟨rfl, c', hc', rfl⟩ := hy
    rw [hc] at hc'
    cases hc'
    exact ⟨G2, .refl s2, .str _⟩
  · cases q
/-- range(n), range(a, b) -/
def rangeD (lo : Int) (n : Nat) : List D := (List.range n).map fun i => .int (lo + (i : Nat))
theorem rangeD_get {lo : Int} {n i : Nat} {d : D} (h : (rangeD lo n)[i]? = some d) : i < n ∧ d = .int (lo + (i : Nat)) := by
  unfold rangeD at h
  rw [List.getElem?_map] at h
  obtain ⟨c, hc, hd⟩ := Option.map_eq_some_iff.mp h
  subst hd
  obtain ⟨h1, h2⟩ := List.getElem?_eq_some_iff.mp hc
  rw [List.getElem_range] at h2
  subst h2
  rw [List.length_range] at h1
  exact ⟨h1, rfl⟩
theorem good_range {K : PySem.W.Frag} (lo : Int) (n : Nat) (G : Hp) : Good K (Itr lo n) G (rangeD lo n) := fun G2 H2 s1 s2 => by
  refine ⟨fun i d hd => ?_, by show n ≤ _; unfold rangeD; rw [List.length_map, List.length_range]; exact Nat.le_refl _⟩
  obtain ⟨h1, rfl⟩ := rangeD_get hd
  refine ⟨h1, fun y H' hy => ?_⟩
  obtain ⟨rfl, rfl⟩ := hy
  exact ⟨G2, .refl s2, .int _⟩
def iRange1 (f : En → Option D) (env : En) : Option (List D) := (f env).bind fun d => match d with
  | .int j => if -(2 ^ 62) ≤ j ∧ j < 2 ^ 62 then some (rangeD 0 j.toNat) else none
  | _ => none
def iRange2 (f g : En → Option D) (env : En) : Option (List D) := (f env).bind fun d => (g env).bind fun e => match d, e with
  | .int i, .int j => if -(2 ^ 62) ≤ i ∧ i < 2 ^ 62 ∧ -(2 ^ 62) ≤ j ∧ j < 2 ^ 62 then some (rangeD i (j - i).toNat) else none
  | _, _ => none
theorem di_range1 {a : Expr} {ta : TE} {f : En → Option PyData} {p pos : Pos} (hg : Gl X "range") (hm : X.mg "range" = none) (ha : DE X a ta f) (hs : starEach [a] X.env = [(false, eval a X.env)] := by rfl) : DI X tg (.Call (.Name "range" p) [a] [] pos) (iRng1 (tCons ta tNil)) (iRange1 f) :=
  ⟨pi_range1 hg hm (pa_cons ha.pe pa_nil hs) hs, fun G0 H0 G H σ env ds rp q R k => by
    obtain ⟨d, e1, q⟩ := Option.bind_eq_some_iff.mp q
    split at q
    · split at q
      · rename_i hz
        cases q
        refine ha.se G0 H0 G H σ env _ rp e1 _ fun v G1 H1 x1 r1 => ?_
        cases r1
        exact ⟨_, rfl, hz.1, hz.2, k _ G1 H1 x1 (good_range _ _ _)⟩
      · cases q
    · cases q⟩
theorem di_range2 {a b : Expr} {ta tb : TE} {f g : En → Option PyData} {p pos : Pos} (hg : Gl X "range") (hm : X.mg "range" = none) (ha : DE X a ta f) (hb : DE X b tb g) (hs : starEach [a, b] X.env = [(false, eval a X.env), (false, eval b X.env)] := by rfl) (hs2 : starEach [b] X.env = [(false, eval b X.env)] := by rfl) : DI X tg (.Call (.Name "range" p) [a, b] [] pos) (iRng2 (tCons ta (tCons tb tNil))) (iRange2 f g) :=
  ⟨pi_range2 hg hm (pa_cons ha.pe (pa_cons hb.pe pa_nil hs2) (by rw [hs, hs2])) hs hs2, fun G0 H0 G H σ env ds rp q R k => by
    obtain ⟨d, e1, q⟩ := Option.bind_eq_some_iff.mp q
    obtain ⟨d2, e2, q⟩ := Option.bind_eq_some_iff.mp q
    split at q
    · split at q
      · rename_i hz
        cases q
        refine ha.se G0 H0 G H σ env _ rp e1 _ fun v G1 H1 x1 r1 => ?_
        refine hb.se G0 H0 G1 H1 σ env _ (rp.ext x1) e2 _ fun v2 G2 H2 x2 r2 => ?_
        cases r1
        cases r2
        exact ⟨_, _, rfl, hz, k _ G2 H2 (x1.trans x2) (good_range _ _ _)⟩
      · cases q
    · cases q⟩
/-- enumerate of a list -/
def enumD : Nat → List D → List D
  | _, [] => []
  | n, d :: ds => .tuple [.int n, d] :: enumD (n + 1) ds
theorem enumD_get : ∀ {ds : List D} {n i : Nat} {d : D}, (enumD n ds)[i]? = some d → ∃ e, ds[i]? = some e ∧ d = .tuple [.int ((n + i : Nat) : Int), e]
  | [], _, _, _, h => by simp [enumD] at h
  | e :: r, n, 0, d, h => by
    simp only [enumD, List.getElem?_cons_zero] at h
    cases h
    exact ⟨e, rfl, rfl⟩
  | e :: r, n, i + 1, d, h => by
    simp only [enumD, List.getElem?_cons_succ] at h
    obtain ⟨e', h1, h2⟩ := enumD_get h
    exact ⟨e', by simpa using h1, by rw [h2]; congr 4; omega⟩
theorem enumD_length : ∀ (ds : List D) (n : Nat), (enumD n ds).length = ds.length
  | [], _ => rfl
  | _ :: r, n => by simp [enumD, enumD_length r]
def iEnumD (f : En → Option D) (env : En) : Option (List D) := (f env).bind fun d => match d with
  | .list ds => some (enumD 0 ds)
  | _ => none
theorem di_enum {e : Expr} {te : TE} {f : En → Option PyData} {p pos tpos : Pos} {elts : List Expr} {kk : Nat} (hg : Gl X "enumerate") (hm : X.mg "enumerate" = none) (h : DE X e te f) (hs : starEach [e] X.env = [(false, eval e X.env)] := by rfl) :
    DI X (.Tuple elts kk tpos) (.Call (.Name "enumerate" p) [e] [] pos) (iEnum X.K (tCons te tNil)) (iEnumD f) := by
  refine ⟨pi_enum hg hm (pa_cons h.pe pa_nil hs) hs, fun G0 H0 G H σ env ds rp q R k => ?_⟩
  obtain ⟨d, e1, q⟩ := Option.bind_eq_some_iff.mp q
  split at q
  · rename_i es
    cases q
    refine h.se G0 H0 G H σ env _ rp e1 _ fun v G1 H1 x1 r1 => ?_
    cases r1 with
    | lst h1 h2 =>
      refine ⟨_, _, rfl, .inl (Same.rd x1.s h1), k _ G1 H1 x1 fun G2 H2 s1 s2 => ⟨fun i d hd => ?_, ⟨_, .inl (Same.rd s2 (Same.rd s1 h1)), by rw [h2.length, enumD_length]; exact Nat.le_refl _⟩⟩⟩
      obtain ⟨e, he, rfl⟩ := enumD_get hd
      obtain ⟨v, hv, rv⟩ := h2.get he
      refine ⟨⟨_, v, .inl (Same.rd s2 (Same.rd s1 h1)), hv⟩, fun y H' hy => ?_⟩
      obtain ⟨T, x, rfl, hT, rfl, hy⟩ := hy
      have := hy _ (.inl (Same.rd s2 (Same.rd s1 h1)))
      rw [hv] at this
      cases this
      have gT := s2.free hT
      refine ⟨_, Ext.new s2 _ hT, .tup (SqT.of upd_same) (.cons ?_ (.cons (rv.mono (s1.trans (same_new gT))) .nil))⟩
      rw [Nat.zero_add]
      exact .int _
  · cases q
/-- zip of two lists, or two tuples -/
def zipD : List D → List D → List D
  | a :: as, b :: bs => .tuple [a, b] :: zipD as bs
  | _, _ => []
theorem zipD_get : ∀ {as bs : List D} {i : Nat} {d : D}, (zipD as bs)[i]? = some d → ∃ a b, as[i]? = some a ∧ bs[i]? = some b ∧ d = .tuple [a, b]
  | [], _, _, _, h => by simp [zipD] at h
  | _ :: _, [], _, _, h => by simp [zipD] at h
  | a :: as, b :: bs, 0, d, h => by
    simp only [zipD, List.getElem?_cons_zero] at h
    cases h
    exact ⟨a, b, rfl, rfl, rfl⟩
  | a :: as, b :: bs, i + 1, d, h => by
    simp only [zipD, List.getElem?_cons_succ] at h
    obtain ⟨a', b', h1, h2, h3⟩ := zipD_get h
    exact ⟨a', b', by simpa using h1, by simpa using h2, h3⟩
theorem zipD_end : ∀ (as bs : List D), as.length ≤ (zipD as bs).length ∨ bs.length ≤ (zipD as bs).length
  | [], _ => .inl (Nat.zero_le _)
  | _ :: _, [] => .inr (Nat.zero_le _)
  | a :: as, b :: bs => by
    simp only [zipD, List.length_cons]
    rcases zipD_end as bs with h | h
    · exact .inl (Nat.succ_le_succ h)
    · exact .inr (Nat.succ_le_succ h)
def iZipD (f g : En → Option D) (env : En) : Option (List D) := (f env).bind fun d => (g env).bind fun e => match d, e with
  | .list as, .list bs => some (zipD as bs)
  | .tuple as, .tuple bs => some (zipD as bs)
  | _, _ => none
theorem di_zip {e e2 : Expr} {te te2 : TE} {f g : En → Option PyData} {p pos tpos : Pos} {elts : List Expr} {kk : Nat} (hg : Gl X "zip") (hm : X.mg "zip" = none) (h : DE X e te f) (h2 : DE X e2 te2 g)
    (hs : starEach [e, e2] X.env = (false, eval e X.env) :: starEach [e2] X.env := by rfl) (hs2 : starEach [e2] X.env = (false, eval e2 X.env) :: starEach [] X.env := by rfl) (hpl : (backTo pos (starEach [e2] X.env)).any (·.1) = false := by rfl) :
    DI X (.Tuple elts kk tpos) (.Call (.Name "zip" p) [e, e2] [] pos) (RZ.iZipA X.K (tCons te (tCons te2 tNil))) (iZipD f g) := by
  refine ⟨RZ.pi_zipA hg hm (pa_cons h.pe (pa_cons h2.pe pa_nil hs2) hs) hs hpl, fun G0 H0 G H σ env ds rp q R k => ?_⟩
  obtain ⟨d, e1, q⟩ := Option.bind_eq_some_iff.mp q
  obtain ⟨d', e1', q⟩ := Option.bind_eq_some_iff.mp q
  refine h.se G0 H0 G H σ env _ rp e1 _ fun v G1 H1 x1 r1 => ?_
  refine h2.se G0 H0 G1 H1 σ env _ (rp.ext x1) e1' _ fun v2 G2 H2 x2 r2 => ?_
  have r1 := r1.mono x2.g
  split at q
  · cases q
    cases r1 with
    | lst a1 a2 =>
      cases r2 with
      | lst b1 b2 =>
        refine ⟨_, _, _, _, rfl, .inl ⟨.inl (Same.rd x2.s a1), .inl (Same.rd x2.s b1), k _ G2 H2 (x1.trans x2) fun G3 H3 s1 s2 => ⟨fun i d hd => ?_, ⟨_, _, .inl (Same.rd s2 (Same.rd s1 a1)), .inl (Same.rd s2 (Same.rd s1 b1)), by rw [a2.length, b2.length]; exact zipD_end _ _⟩⟩⟩⟩
        obtain ⟨a, b, ha, hb, rfl⟩ := zipD_get hd
        obtain ⟨v, hv, rv⟩ := a2.get ha
        obtain ⟨w, hw, rw'⟩ := b2.get hb
        refine ⟨⟨_, _, v, w, .inl (Same.rd s2 (Same.rd s1 a1)), .inl (Same.rd s2 (Same.rd s1 b1)), hv, hw⟩, fun y H' hy => ?_⟩
        obtain ⟨T, x, z, rfl, hT, rfl, hx, hz⟩ := hy
        have hx := hx _ (.inl (Same.rd s2 (Same.rd s1 a1)))
        have hz := hz _ (.inl (Same.rd s2 (Same.rd s1 b1)))
        rw [hv] at hx
        rw [hw] at hz
        cases hx
        cases hz
        have sn := s1.trans (same_new (o := .tup [v, w]) (s2.free hT))
        exact ⟨_, Ext.new s2 _ hT, .tup (SqT.of upd_same) (.cons (rv.mono sn) (.cons (rw'.mono sn) .nil))⟩
  · cases q
    cases r1 with
    | tup a1 a2 =>
      cases r2 with
      | tup b1 b2 =>
        refine ⟨_, _, _, _, rfl, .inr ⟨Same.sqt x2.s a1, Same.sqt x2.s b1, k _ G2 H2 (x1.trans x2) fun G3 H3 s1 s2 => ⟨fun i d hd => ?_, ⟨_, _, Same.sqt s2 (Same.sqt s1 a1), Same.sqt s2 (Same.sqt s1 b1), by rw [a2.length, b2.length]; exact zipD_end _ _⟩⟩⟩⟩
        obtain ⟨a, b, ha, hb, rfl⟩ := zipD_get hd
        obtain ⟨v, hv, rv⟩ := a2.get ha
        obtain ⟨w, hw, rw'⟩ := b2.get hb
        refine ⟨⟨_, _, v, w, Same.sqt s2 (Same.sqt s1 a1), Same.sqt s2 (Same.sqt s1 b1), hv, hw⟩, fun y H' hy => ?_⟩
        obtain ⟨T, x, z, rfl, hT, rfl, hx, hz⟩ := hy
        have hx := hx _ (Same.sqt s2 (Same.sqt s1 a1))
        have hz := hz _ (Same.sqt s2 (Same.sqt s1 b1))
        rw [hv] at hx
        rw [hw] at hz
        cases hx
        cases hz
        have sn := s1.trans (same_new (o := .tup [v, w]) (s2.free hT))
        exact ⟨_, Ext.new s2 _ hT, .tup (SqT.of upd_same) (.cons (rv.mono sn) (.cons (rw'.mono sn) .nil))⟩
  · cases q

/-! ### for -/
def forF (tgt : D → En → Option En) (body : En → Option Re) : List D → En → Option Re
  | [], env => some (.nx env)
  | d :: ds, env => (tgt d env).bind fun e => (body e).bind fun r => match r with
    | .nx e2 => forF tgt body ds e2
    | .rt v => some (.rt v)
def sFor (f : En → Option (List D)) (tgt : D → En → Option En) (body : En → Option Re) (env : En) : Option Re := (f env).bind fun ds => forF tgt body ds env
theorem ss_for {K : PySem.W.Frag} {wi : TI} {g : TG} {tb : TS} {vs : List Nat} {f : En → Option (List D)} {tgt : D → En → Option En} {body : En → Option Re} (hi : SI K wi f) (hg : SG K g vs tgt) (hb : SS K tb body) : SS K (tFor wi g tb) (sFor f tgt body) := fun G0 H0 G H σ env r rp q D k => by
  obtain ⟨ds, e1, q⟩ := Option.bind_eq_some_iff.mp q
  refine hi G0 H0 G H σ env ds rp e1 _ fun J G1 H1 x1 good => ?_
  refine ⟨fun i m σ H => i + m = ds.length ∧ ∃ G' env', Same G1 G' ∧ Rep K G0 H0 G' H σ env' ∧ forF tgt body (ds.drop i) env' = some r, ⟨ds.length, by omega, G1, env, .refl _, rp.ext x1, by simpa using q⟩, ?_⟩
  rintro i m σ2 H2 ⟨hm, G2, env2, s2, rp2, q2⟩
  obtain ⟨gd, gs⟩ := good G2 H2 s2 rp2.s
  by_cases hlt : i < ds.length
  · rw [List.drop_eq_getElem_cons hlt] at q2
    obtain ⟨e3, q3, q2⟩ := Option.bind_eq_some_iff.mp q2
    obtain ⟨r4, q4, q2⟩ := Option.bind_eq_some_iff.mp q2
    obtain ⟨g1, g2⟩ := gd i _ (List.getElem?_eq_getElem hlt)
    refine .inr ⟨g1, fun σ' H' => ∃ G' env', Same G1 G' ∧ Rep K G0 H0 G' H' σ' env' ∧ forF tgt body (ds.drop (i + 1)) env' = some r, fun σ' H' ⟨G', env', a, b, c⟩ => ⟨m - 1, by omega, by omega, G', env', a, b, c⟩, fun x H' hy => ?_⟩
    obtain ⟨G3, x3, r3⟩ := g2 x H' hy
    refine hg G0 H0 G3 H' σ2 env2 x _ e3 (rp2.ext x3) r3 q3 _ fun σ3 rp3 _ => ?_
    refine hb G0 H0 G3 H' σ3 e3 r4 rp3 q4 _ ?_
    cases r4 with
    | nx e5 => exact fun σ' G' H' s' rp' => ⟨G', e5, (s2.trans x3.g).trans s', rp', q2⟩
    | rt d =>
      cases q2
      exact fun v G' H' s' ex rv => k v G' H' (((x1.g.trans s2).trans x3.g).trans s') ex rv
  · have e : i = ds.length := by omega
    subst e
    rw [List.drop_length] at q2
    cases q2
    exact .inl ⟨gs, k σ2 G2 H2 (x1.g.trans s2) rp2⟩
theorem ds_for {iter : Expr} {bd : List Stmt} {wi : TI} {g : TG} {tb : TS} {vs : List Nat} {f : En → Option (List D)} {tgt : D → En → Option En} {body : En → Option Re} {pos : Pos} (hp : PassesOwn (model X.prog X.w) X.A X.env X.xe) (hc : X.calm = true) (hi : DI X tg iter wi f) (hg : DG X tg g vs tgt) (hb : DSs X bd tb body)
    (hs : ∀ x, foldedSetIterable iter X.env x = pure x := by intro _; rfl) : DS X (.For tg iter bd [] pos) (tFor wi g tb) (sFor f tgt body) := ⟨ps_for hp hc hi.pi hg.pg hb.ps hs, ss_for hi.si hg.sg hb.ss⟩

/-! ### while -/
def whileF (c : En → Option Bool) (body : En → Option Re) : Nat → En → Option Re
  | 0, _ => none
  | n + 1, env => (c env).bind fun b => if b then (body env).bind fun r => match r with
    | .nx e2 => whileF c body n e2
    | .rt v => some (.rt v)
    else some (.nx env)
theorem ss_while {K : PySem.W.Frag} {tc : TT} {tb : TS} {c : En → Option Bool} {body : En → Option Re} (n : Nat) (hc : SB K tc c) (hb : SS K tb body) : SS K (tWhile tc tb) (whileF c body n) := fun G0 H0 G H σ env r rp q D k => by
  refine ⟨fun m σ H => ∃ G' env', Same G G' ∧ Rep K G0 H0 G' H σ env' ∧ whileF c body m env' = some r, ⟨n, G, env, .refl _, rp, q⟩, ?_⟩
  rintro m σ2 H2 ⟨G2, env2, s2, rp2, q2⟩
  cases m with
  | zero => cases q2
  | succ m =>
    obtain ⟨b, e1, q2⟩ := Option.bind_eq_some_iff.mp q2
    refine hc G0 H0 G2 H2 σ2 env2 b rp2 e1 _ fun G3 H3 x3 => ?_
    cases b with
    | true =>
      obtain ⟨r4, q4, q2⟩ := Option.bind_eq_some_iff.mp q2
      refine iteT ⟨fun σ' H' => ∃ G' env', Same G G' ∧ Rep K G0 H0 G' H' σ' env' ∧ whileF c body m env' = some r, fun σ' H' h => ⟨m, Nat.lt_succ_self m, h⟩, ?_⟩
      refine hb G0 H0 G3 H3 σ2 env2 r4 (rp2.ext x3) q4 _ ?_
      cases r4 with
      | nx e5 => exact fun σ' G' H' s' rp' => ⟨G', e5, (s2.trans x3.g).trans s', rp', q2⟩
      | rt d =>
        cases q2
        exact fun v G' H' s' ex rv => k v G' H' ((s2.trans x3.g).trans s') ex rv
    | false =>
      cases q2
      exact iteF (k σ2 G3 H3 (s2.trans x3.g) (rp2.ext x3))
theorem ds_while (n : Nat) {c : Expr} {bd : List Stmt} {tc : TT} {tb : TS} {gc : En → Option Bool} {body : En → Option Re} {pos : Pos} (hp : PassesOwn (model X.prog X.w) X.A X.env X.xe) (hc : DB X c tc gc) (hb : DSs X bd tb body) : DS X (.While c bd [] pos) (tWhile tc tb) (whileF gc body n) :=
  ⟨ps_while hp hc.pt hb.ps, ss_while n hc.sb hb.ss⟩

/-! ### [e for x in xs if t] -/
theorem wipeE_get {env : En} {i : Nat} {d : Sl} : ∀ {vs : List Nat}, (wipeE env vs)[i]? = some d → (d = .no ∨ (env[i]? = some d ∧ i ∉ vs))
  | [], h => .inr ⟨h, by simp⟩
  | v :: vs, h => by
    rcases getset h with ⟨e, q⟩ | ⟨e, q⟩
    · exact .inl q
    · rcases wipeE_get q with z | ⟨z, w⟩
      · exact .inl z
      · exact .inr ⟨z, by simp only [List.mem_cons, not_or]; exact ⟨e, w⟩⟩
theorem wipeE_length (env : En) : ∀ vs : List Nat, (wipeE env vs).length = env.length
  | [] => rfl
  | v :: vs => by unfold wipeE; rw [List.length_set, wipeE_length env vs]
theorem Rep.wipe {K : PySem.W.Frag} {G0 H0 G H : Hp} {σ : L2.St} {env : En} (r : Rep K G0 H0 G H σ env) (vs : List Nat) : Rep K G0 H0 G H (L2.wipe σ vs) (wipeE env vs) where
  g := r.g
  s := r.s
  h := r.h
  n := r.n
  len := by rw [wipe_length, wipeE_length, r.len]
  im := fun i d q => by
    rcases wipeE_get q with z | ⟨z, w⟩
    · cases z
    · rw [wipe_out w]
      exact r.im i d z
  ow := fun i d q => by
    rcases wipeE_get q with z | ⟨z, w⟩
    · cases z
    · rw [wipe_out w]
      exact r.ow i d z
  dj := fun i j d e p ne q q' => by
    rcases wipeE_get q with z | ⟨z, w⟩
    · cases z
    · rcases wipeE_get q' with z' | ⟨z', w'⟩
      · cases z'
      · rw [wipe_out w, wipe_out w']
        exact r.dj i j d e p ne z z'
def lcF (tgt : D → En → Option En) (test : En → Option Bool) (elt : En → Option D) : List D → En → Option (List D)
  | [], _ => some []
  | d :: ds, env => (tgt d env).bind fun e => (test e).bind fun b => if b then (elt e).bind fun y => (lcF tgt test elt ds env).bind fun r => some (y :: r) else lcF tgt test elt ds env
def dLc (f : En → Option (List D)) (vs : List Nat) (tgt : D → En → Option En) (test : En → Option Bool) (elt : En → Option D) (env : En) : Option D :=
  (f env).bind fun ds => if ds.length ≤ sizeLine then (lcF tgt test elt ds (wipeE env vs)).map .list else none
def bYes (_ : En) : Option Bool := some true
theorem sb_yes {K : PySem.W.Frag} : SB K tYes bYes := fun G0 H0 G H σ env b rp q Q k => by cases q; exact k G H (.refl rp.s)
theorem so_lc {K : PySem.W.Frag} {wi : TI} {g : TG} {tt : TT} {te : TE} {vs : List Nat} {f : En → Option (List D)} {tgt : D → En → Option En} {test : En → Option Bool} {elt : En → Option PyData} (hi : SI K wi f) (hg : SG K g vs tgt) (ht : SB K tt test) (he : SE K te elt) :
    SO K (tLc wi g tt te vs) (dLc f vs tgt test elt) := fun G0 H0 G H σ env d rp q Q k => by
  obtain ⟨ds, e1, q⟩ := Option.bind_eq_some_iff.mp q
  split at q
  · rename_i hz
    obtain ⟨res, e2, q⟩ := Option.map_eq_some_iff.mp q
    subst q
    refine hi G0 H0 G H σ env ds rp e1 _ fun J G1 H1 x1 good D hD => ?_
    have rp1 := rp.ext x1
    refine ⟨fun i m H => i + m = ds.length ∧ ∃ G' acc dacc rest, Ext G1 H1 G' H ∧ G' D = none ∧ H D = some (.lst acc) ∧ acc.length ≤ i ∧ RpA K G' acc dacc ∧ lcF tgt test elt (ds.drop i) (wipeE env vs) = some rest ∧ dacc ++ rest = res,
      ⟨ds.length, by omega, G1, [], [], res, Ext.newO x1.s _ hD, x1.s.free hD, upd_same, Nat.zero_le _, .nil, by simpa using e2, rfl⟩, ?_⟩
    rintro i m H2 ⟨hm, G2, acc, dacc, rest, x2, gD, hD2, hl, ra, q2, er⟩
    obtain ⟨gd, gs⟩ := good G2 H2 x2.g x2.s
    by_cases hlt : i < ds.length
    · rw [List.drop_eq_getElem_cons hlt] at q2
      obtain ⟨e3, q3, q2⟩ := Option.bind_eq_some_iff.mp q2
      obtain ⟨b, q4, q2⟩ := Option.bind_eq_some_iff.mp q2
      obtain ⟨g1, g2⟩ := gd i _ (List.getElem?_eq_getElem hlt)
      refine .inr ⟨g1, fun H' => ∃ G' acc dacc rest, Ext G1 H1 G' H' ∧ G' D = none ∧ H' D = some (.lst acc) ∧ acc.length ≤ i + 1 ∧ RpA K G' acc dacc ∧ lcF tgt test elt (ds.drop (i + 1)) (wipeE env vs) = some rest ∧ dacc ++ rest = res,
        fun H' h => ⟨m - 1, by omega, by omega, h⟩, fun x H' hy => ?_⟩
      obtain ⟨G3, x3, r3⟩ := g2 x H' hy
      have x23 := x2.trans x3
      refine hg G0 H0 G3 H' _ _ x _ e3 ((rp1.ext x23).wipe vs) r3 q3 _ fun σ3 rp3 w3 => ⟨?_, ?_⟩
      · rw [w3]
        exact wipe_wipe σ vs
      refine ht G0 H0 G3 H' σ3 e3 b rp3 q4 _ fun G4 H4 x4 => ?_
      have x24 := x23.trans x4
      have hD4 : H4 D = some (.lst acc) := x4.h _ _ (x3.h _ _ hD2)
      have gD4 : G4 D = none := (x3.trans x4).old gD hD2
      cases b with
      | true =>
        obtain ⟨y, q5, q2⟩ := Option.bind_eq_some_iff.mp q2
        obtain ⟨r6, q6, q2⟩ := Option.bind_eq_some_iff.mp q2
        cases q2
        refine iteT (he G0 H0 G4 H4 σ3 e3 y (rp3.ext x4) q5 _ fun v G5 H5 x5 r5 => ?_)
        have x25 := x24.trans x5
        have gD5 := x5.old gD4 hD4
        refine ⟨acc, x5.h _ _ hD4, by omega, G5, acc ++ [v], dacc ++ [y], r6, ?_, gD5, upd_same, by rw [List.length_append, List.length_singleton]; omega, ?_, q6, by rw [List.append_assoc]; exact er⟩
        · refine ⟨x25.g, fun a o ha => ?_, fun a o ha => ?_, x25.n⟩
          · rw [upd_ne (ne_of_none ha hD)]
            exact x25.h a o ha
          · have : a ≠ D := fun z => by rw [z, gD5] at ha; cases ha
            rw [upd_ne this]
            exact x25.s a o ha
        · exact (ra.mono ((x3.g.trans x4.g).trans x5.g)).app (.cons r5 .nil)
      | false => exact iteF ⟨G4, acc, dacc, rest, x24, gD4, hD4, by omega, ra.mono (x3.g.trans x4.g), q2, er⟩
    · have e : i = ds.length := by omega
      subst e
      rw [List.drop_length] at q2
      cases q2
      rw [List.append_nil] at er
      subst er
      refine .inl ⟨gs, k D G2 H2 (x1.trans x2) gD (x1.h.free hD) (.lst hD2 ra)⟩
  · cases q
where
  wipe_wipe (σ : L2.St) : ∀ vs : List Nat, L2.wipe (L2.wipe σ vs) vs = L2.wipe σ vs := fun vs => by
    apply List.ext_getElem?
    intro j
    by_cases h : j ∈ vs
    · have : ∀ τ : L2.St, τ.length = σ.length → (L2.wipe τ vs)[j]? = if j < σ.length then some none else none := fun τ ht => by
        by_cases hj : j < σ.length
        · rw [if_pos hj]
          have hj' : j < (L2.wipe τ vs).length := by rw [wipe_length, ht]; exact hj
          cases q : (L2.wipe τ vs)[j]? with
          | none => rw [List.getElem?_eq_none_iff] at q; omega
          | some o =>
            cases o with
            | none => rfl
            | some v => exact absurd h (wipe_some q).2
        · rw [if_neg hj, List.getElem?_eq_none (by rw [wipe_length, ht]; omega)]
      rw [this _ (wipe_length σ vs), this _ rfl]
    · rw [wipe_out h]
end
end Z

set_option Elab.async false
set_option linter.all false
set_option maxRecDepth 100000
set_option maxHeartbeats 4000000
/-! ZF: comprehensions as expressions, defs and their calls -/
namespace Z
open PySem L2 PyProof.Rows

structure DPt (X : Cx) (ifs : List Expr) (t : TT) (f : En → Option Bool) : Prop where
  pt : PTs X ifs t
  sb : SB X.K t f
section
variable {X : Cx}
theorem dpt_nil : DPt X [] tYes bYes := ⟨pts_nil, sb_yes⟩
theorem dpt_one {c : Expr} {t : TT} {f : En → Option Bool} (h : DB X c t f) : DPt X [c] t f := ⟨pts_one h.pt, h.sb⟩
section
variable {elt tg iter : Expr} {ifs : List Expr} {scope : Scope} {pos : Pos} {wi : TI} {g : Shared → Hp → Addr → List (Str × Addr) → List Addr → TG} {tt : Shared → Hp → Addr → List (Str × Addr) → List Addr → TT} {te : Shared → Hp → Addr → List (Str × Addr) → List Addr → TE} {f : En → Option (List D)} {tgt : D → En → Option En} {test : En → Option Bool} {fe : En → Option PyData}
theorem do_lc (own : List (Str × Nat)) (hN : X.N.Nodup) (hi : DI X tg iter wi f) (ok : BlkOk X.N X.env.scope scope own)
    (hg : ∀ (s : Shared) (H : Hp) (C : Addr) (cl : List (Str × Addr)) (fp : List Addr), DG (X.blk s H scope (compEnvC scope cl C X.env) fp) tg (g s H C cl fp) (own.map (·.2)) tgt)
    (ht : ∀ (s : Shared) (H : Hp) (C : Addr) (cl : List (Str × Addr)) (fp : List Addr), DPt (X.blk s H scope (compEnvC scope cl C X.env) fp) ifs (tt s H C cl fp) test)
    (he : ∀ (s : Shared) (H : Hp) (C : Addr) (cl : List (Str × Addr)) (fp : List Addr), DE (X.blk s H scope (compEnvC scope cl C X.env) fp) elt (te s H C cl fp) fe)
    (hc : X.calm = true := by rfl) (hs : ∀ x, foldedSetIterable iter X.env x = pure x := by intro _; rfl) (eg : ∀ s H C cl fp, g s H C cl fp = g X.s_0 X.H_0 0 [] [] := by exact fun _ _ _ _ _ => rfl) (et : ∀ s H C cl fp, tt s H C cl fp = tt X.s_0 X.H_0 0 [] [] := by exact fun _ _ _ _ _ => rfl) (ee : ∀ s H C cl fp, te s H C cl fp = te X.s_0 X.H_0 0 [] [] := by exact fun _ _ _ _ _ => rfl) :
    DO X (.ListComp elt [⟨tg, iter, ifs, 0⟩] scope pos) (tLc wi (g X.s_0 X.H_0 0 [] []) (tt X.s_0 X.H_0 0 [] []) (te X.s_0 X.H_0 0 [] []) (own.map (·.2))) (dLc f (own.map (·.2)) tgt test fe) :=
  ⟨pe_lc hc hN hi.pi ok (fun s H C cl fp => by rw [← eg s H C cl fp]; exact (hg s H C cl fp).pg) (fun s H C cl fp => by rw [← et s H C cl fp]; exact (ht s H C cl fp).pt) (fun s H C cl fp => by rw [← ee s H C cl fp]; exact (he s H C cl fp).pe) hs, (so_lc hi.si (hg X.s_0 X.H_0 0 [] []).sg (ht X.s_0 X.H_0 0 [] []).sb (he X.s_0 X.H_0 0 [] []).se)⟩
theorem ds_lc (i : Nat) (own : List (Str × Nat)) {y : Str} {py spos : Pos} (hN : X.N.Nodup) (hi : DI X tg iter wi f) (ok : BlkOk X.N X.env.scope scope own)
    (hg : ∀ (s : Shared) (H : Hp) (C : Addr) (cl : List (Str × Addr)) (fp : List Addr), DG (X.blk s H scope (compEnvC scope cl C X.env) fp) tg (g s H C cl fp) (own.map (·.2)) tgt)
    (ht : ∀ (s : Shared) (H : Hp) (C : Addr) (cl : List (Str × Addr)) (fp : List Addr), DPt (X.blk s H scope (compEnvC scope cl C X.env) fp) ifs (tt s H C cl fp) test)
    (he : ∀ (s : Shared) (H : Hp) (C : Addr) (cl : List (Str × Addr)) (fp : List Addr), DE (X.blk s H scope (compEnvC scope cl C X.env) fp) elt (te s H C cl fp) fe)
    (hsw : swapsWith (.ListComp elt [⟨tg, iter, ifs, 0⟩] scope pos) (some (.Name y py)) spos.line X.env = pure true)
    (hy : X.N[i]? = some y := by rfl) (hyl : X.env.scope.names.lookup y = some .local := by rfl) (hc : X.calm = true := by rfl) (hs : ∀ x, foldedSetIterable iter X.env x = pure x := by intro _; rfl) (eg : ∀ s H C cl fp, g s H C cl fp = g X.s_0 X.H_0 0 [] [] := by exact fun _ _ _ _ _ => rfl) (et : ∀ s H C cl fp, tt s H C cl fp = tt X.s_0 X.H_0 0 [] [] := by exact fun _ _ _ _ _ => rfl) (ee : ∀ s H C cl fp, te s H C cl fp = te X.s_0 X.H_0 0 [] [] := by exact fun _ _ _ _ _ => rfl) :
    DS X (.Assign [.Name y py] (.ListComp elt [⟨tg, iter, ifs, 0⟩] scope pos) spos) (tAsg (tLc wi (g X.s_0 X.H_0 0 [] []) (tt X.s_0 X.H_0 0 [] []) (te X.s_0 X.H_0 0 [] []) (own.map (·.2))) (gName i)) (sAsg (dLc f (own.map (·.2)) tgt test fe) (gNm i)) :=
  ⟨ps_setLc hc hN hy hyl hsw hi.pi ok (fun s H C cl fp => by rw [← eg s H C cl fp]; exact (hg s H C cl fp).pg) (fun s H C cl fp => by rw [← et s H C cl fp]; exact (ht s H C cl fp).pt) (fun s H C cl fp => by rw [← ee s H C cl fp]; exact (he s H C cl fp).pe) hs, ss_asg (vs := [i]) (SO.e (so_lc hi.si (hg X.s_0 X.H_0 0 [] []).sg (ht X.s_0 X.H_0 0 [] []).sb (he X.s_0 X.H_0 0 [] []).se)) (dg_name (vs := [i]) (pos := pos) i hN hy (.inl hyl) (by simp) (.inr hyl)).sg⟩
theorem ds_lcO (i : Nat) (own : List (Str × Nat)) {y : Str} {py spos : Pos} (hN : X.N.Nodup) (hi : DI X tg iter wi f) (ok : BlkOk X.N X.env.scope scope own)
    (hg : ∀ (s : Shared) (H : Hp) (C : Addr) (cl : List (Str × Addr)) (fp : List Addr), DG (X.blk s H scope (compEnvC scope cl C X.env) fp) tg (g s H C cl fp) (own.map (·.2)) tgt)
    (ht : ∀ (s : Shared) (H : Hp) (C : Addr) (cl : List (Str × Addr)) (fp : List Addr), DPt (X.blk s H scope (compEnvC scope cl C X.env) fp) ifs (tt s H C cl fp) test)
    (he : ∀ (s : Shared) (H : Hp) (C : Addr) (cl : List (Str × Addr)) (fp : List Addr), DE (X.blk s H scope (compEnvC scope cl C X.env) fp) elt (te s H C cl fp) fe)
    (hsw : swapsWith (.ListComp elt [⟨tg, iter, ifs, 0⟩] scope pos) (some (.Name y py)) spos.line X.env = pure true)
    (hy : X.N[i]? = some y := by rfl) (hyl : X.env.scope.names.lookup y = some .local := by rfl) (hc : X.calm = true := by rfl) (hs : ∀ x, foldedSetIterable iter X.env x = pure x := by intro _; rfl) (eg : ∀ s H C cl fp, g s H C cl fp = g X.s_0 X.H_0 0 [] [] := by exact fun _ _ _ _ _ => rfl) (et : ∀ s H C cl fp, tt s H C cl fp = tt X.s_0 X.H_0 0 [] [] := by exact fun _ _ _ _ _ => rfl) (ee : ∀ s H C cl fp, te s H C cl fp = te X.s_0 X.H_0 0 [] [] := by exact fun _ _ _ _ _ => rfl) :
    DS X (.Assign [.Name y py] (.ListComp elt [⟨tg, iter, ifs, 0⟩] scope pos) spos) (tAsg (tLc wi (g X.s_0 X.H_0 0 [] []) (tt X.s_0 X.H_0 0 [] []) (te X.s_0 X.H_0 0 [] []) (own.map (·.2))) (gName i)) (sOwn (dLc f (own.map (·.2)) tgt test fe) i) :=
  ⟨ps_setLc hc hN hy hyl hsw hi.pi ok (fun s H C cl fp => by rw [← eg s H C cl fp]; exact (hg s H C cl fp).pg) (fun s H C cl fp => by rw [← et s H C cl fp]; exact (ht s H C cl fp).pt) (fun s H C cl fp => by rw [← ee s H C cl fp]; exact (he s H C cl fp).pe) hs, ss_own i (so_lc hi.si (hg X.s_0 X.H_0 0 [] []).sg (ht X.s_0 X.H_0 0 [] []).sb (he X.s_0 X.H_0 0 [] []).se)⟩
end
end

/-! ### room, counted by single calls -/
structure Rm (n : Nat) (A : Around) : Prop where
  hd : A.handled = none
  dp : A.depth + n + 20 < recursionLimit
  un : A.units + 3 * n + 400 < cLine
theorem Rm.deeper {n : Nat} {A : Around} (r : Rm (n + 1) A) (env : Env) : Rm n (A.deeper env) :=
  ⟨r.hd, by have := r.dp; show A.depth + 1 + n + 20 < _; omega, by have := r.un; show A.units + 3 + 3 * n + 400 < _; omega⟩
theorem Rm.mono {m n : Nat} {A : Around} (r : Rm n A) (h : m ≤ n) : Rm m A := ⟨r.hd, by have := r.dp; omega, by have := r.un; omega⟩
theorem Rm.room {n : Nat} {A : Around} (r : Rm n A) : Room 4 A := ⟨r.hd, by have := r.dp; omega, by have := r.un; omega⟩
theorem Rm.u1 {n : Nat} {A : Around} (r : Rm n A) : A.units + 1 < cLine := by have := r.un; omega
theorem Rm.u64 {n : Nat} {A : Around} (r : Rm n A) : A.units + 64 < cLine := by have := r.un; omega
theorem Rm.u65 {n : Nat} {A : Around} (r : Rm n A) : A.units + 65 < cLine := by have := r.un; omega
theorem Rm.of {k n : Nat} {A : Around} (r : Room k A) (h1 : n + 15 ≤ 3 * k) (h2 : 3 * n + 200 ≤ 16 * k) : Rm n A := ⟨r.hd, by have := r.dp; omega, by have := r.un; omega⟩

structure FnZ (P : Program) (w : World) (K : PySem.W.Frag) (mg : Str → Option Value) (base : Heap) (n : Nat) (f : Addr) (fd : FuncData) (ps : List Str) (sp : Sp) : Prop where
  len : ∀ vs H Q E, sp vs H Q E → vs.length = ps.length
  run : ∀ (A : Around) (outer : List Env) (s : Shared) (H : Hp) (args : Args) (us : List Value) (vs : List V) (Q : VK), Rm n A → Env0 P w K mg base A outer s H → BindsTo s fd args (ps.zip us) → Vals vs us → sp vs H Q E0 →
    codeAny (model P w) A (.call (.ref f) args) (CR CX0 outer P w H s Q E0) s

theorem runZ {X : Cx} {n : Nat} {f : Addr} {fd : FuncData} {ps : List Str} {sp : Sp} {pins : List (Addr × Obj)} {σ : L2.St} {H : Hp} {s : Shared} {Q : VK} {us : List Value} {vs : List V} (F : FnZ X.prog X.w X.K X.mg X.base n f fd ps sp) (hr : Rm n X.A) (hb : Binds X.K fd ps [])
    (I : Inv X pins σ H s) (r : Vals vs us) (h : sp vs H Q E0) : wpAny (model X.prog X.w) X.A (call (.ref f) us) (EP X pins σ Q) X.xe s := by
  have hn : (us ++ []).length = ps.length := by rw [List.append_nil, ← r.length, F.len _ _ _ _ h]
  have bt := hb s us I.kIn hn
  rw [List.append_nil] at bt
  refine wpAny_call (codeAny_mono (F.run X.A X.stack s H ⟨us, []⟩ us vs Q hr I.env0 bt r h) ?_)
  rintro (_ | fl) s' hq
  · exact hq.elim
  · cases fl with
    | ret u => exact I.after hq
    | _ => exact hq.elim
theorem pe_callZ {X : Cx} {n : Nat} {f : Addr} {fd : FuncData} {ps : List Str} {sp : Sp} {x : Str} {p pos : Pos} {e : Expr} {es : List Expr} {t : TA} (F : FnZ X.prog X.w X.K X.mg X.base n f fd ps sp) (hr : Rm n X.A) (hg : Gl X x) (hm : X.mg x = some (.ref f)) (hk : PySem.W.keepIn X.K (.ref f) = true)
    (hb : Binds X.K fd ps []) (ha : PA X (e :: es) t) (hdb : (x == ("__debug__" : Str)) = false := by decide) (he : starEach (e :: es) X.env = (false, eval e X.env) :: starEach es X.env := by rfl) (hpl : (backTo pos (starEach es X.env)).any (·.1) = false := by rfl) :
    PE X (.Call (.Name x p) (e :: es) [] pos) (tCall sp [] E0 t) :=
  ⟨fun pins s σ H Q I h => wpAny_Call_Name_kw (ld_glob I hg hm (PySem.W.callWith_K (h₀ := X.base) I.ok.mod.kin hk (thn (ha.run pos pins s σ H _ I h) fun us s1 ⟨vs, H1, I1, r, q⟩ => ⟨I1.kIn, runZ F hr hb I1 r (by have q' : sp (vs ++ []) H1 Q E0 := q; rw [List.append_nil] at q'; exact q')⟩) he hpl) hdb)⟩

/-! ### a def's promise by its function -/
def spZ (K : PySem.W.Frag) (np : Nat) (g : List D → Option D) : Sp := fun vs H Q _ => ∃ G ds r, Same G H ∧ RpA K G vs ds ∧ ds.length = np ∧ g ds = some r ∧ ∀ v G' H', Ext G H G' H' → Rp K G' v r → Q v H'
/-- a def of the text, as it stands, with the function that it computes -/
structure Kn (P : Program) (w : World) (K : PySem.W.Frag) (mg : Str → Option Value) (base : Heap) (n : Nat) (x : Str) (ps : List Str) (g : List D → Option D) : Prop where
  ex : ∃ f fd, FnZ P w K mg base n f fd ps (spZ K ps.length g) ∧ mg x = some (.ref f) ∧ PySem.W.keepIn K (.ref f) = true ∧ Binds K fd ps []
theorem de_call {X : Cx} {n : Nat} {x : Str} {ps : List Str} {g : List D → Option D} {p pos : Pos} {e : Expr} {es : List Expr} {t : TA} {f : En → Option (List D)} (F : Kn X.prog X.w X.K X.mg X.base n x ps g) (hr : Rm n X.A) (hg : Gl X x) (ha : DA X (e :: es) t f)
    (hl : ps.length = es.length + 1 := by rfl) (hdb : (x == ("__debug__" : Str)) = false := by decide) (he : starEach (e :: es) X.env = (false, eval e X.env) :: starEach es X.env := by rfl) (hpl : (backTo pos (starEach es X.env)).any (·.1) = false := by rfl) :
    DE X (.Call (.Name x p) (e :: es) [] pos) (tCall (spZ X.K ps.length g) [] E0 t) (dCB g f) := by
  obtain ⟨fa, fd, F, hm, hk, hb⟩ := F.ex
  refine ⟨pe_callZ F hr hg hm hk hb ha.pa hdb he hpl, fun G0 H0 G H σ env d rp q Q k => ?_⟩
  obtain ⟨ds, e1, q⟩ := Option.bind_eq_some_iff.mp q
  refine ha.sa G0 H0 G H σ env ds rp e1 _ fun vs G1 H1 x1 r1 => ?_
  exact ⟨G1, ds, d, x1.s, by rw [List.append_nil]; exact r1, (ha.ln env ds e1).trans hl.symm, q, fun v G2 H2 x2 r2 => k v G2 H2 (x1.trans x2) r2⟩
/-- the function of a def: nn slots, of which the first hold the arguments -/
def dDef (nn : Nat) (body : En → Option Re) (ds : List D) : Option D := (body (ds.map .im ++ List.replicate (nn - ds.length) .no)).bind fun r => match r with
  | .rt d => some d
  | .nx _ => some .none
theorem rep_start {K : PySem.W.Frag} {G H : Hp} {N : List Str} {vs : List V} {ds : List D} (s : Same G H) (r : RpA K G vs ds) : Rep K G H G H (L2.start N vs) (ds.map .im ++ List.replicate (N.length - ds.length) .no) where
  g := .refl _
  s := s
  h := .refl _
  n := fun _ h => .inl h
  len := by unfold L2.start; simp [r.length]
  im := fun i d q => by
    unfold L2.start
    by_cases h : i < ds.length
    · rw [List.getElem?_append_left (by simpa using h), List.getElem?_map] at q
      obtain ⟨d', h1, h2⟩ := Option.map_eq_some_iff.mp q
      cases h2
      obtain ⟨v, hv, rv⟩ := r.get h1
      refine ⟨v, ?_, rv⟩
      rw [List.getElem?_append_left (by rw [List.length_map, r.length]; exact h), List.getElem?_map, hv]
      rfl
    · rw [List.getElem?_append_right (by simpa using h)] at q
      have := List.mem_of_getElem? q
      rw [List.mem_replicate] at this
      cases this.2
  ow := fun i d q => by
    by_cases h : i < ds.length
    · rw [List.getElem?_append_left (by simpa using h), List.getElem?_map] at q
      obtain ⟨d', h1, h2⟩ := Option.map_eq_some_iff.mp q
      cases h2
    · rw [List.getElem?_append_right (by simpa using h)] at q
      have := List.mem_of_getElem? q
      rw [List.mem_replicate] at this
      cases this.2
  dj := fun i j d e p ne q => by
    by_cases h : i < ds.length
    · rw [List.getElem?_append_left (by simpa using h), List.getElem?_map] at q
      obtain ⟨d', h1, h2⟩ := Option.map_eq_some_iff.mp q
      cases h2
    · rw [List.getElem?_append_right (by simpa using h)] at q
      have := List.mem_of_getElem? q
      rw [List.mem_replicate] at this
      cases this.2
/-- THE RULE: a def computes what its body denotes -/
theorem fnZ {P : Program} {w : World} {K : PySem.W.Frag} {mg : Str → Option Value} {base : Heap} {x qual : Str} {st : Stmt} {f : Addr} {fd : FuncData} {N ps : List Str} {n : Nat} {body : En → Option Re} (F : Fun K x qual st f fd) (S : FnScope N ps (defScope st))
    (hbody : ∀ (cdv : Value) (A : Around) (outer : List Env) (s : Shared) (H : Hp), Rm n (A.deeper (envOfC qual (defScope st) s.heap.objs.size f cdv)) → ∃ t, DSs (cxOf CX0 P w K mg base N qual (defScope st) f cdv A outer s H E0).nox (defBody st) t body) :
    FnZ P w K mg base (n + 1) f fd ps (spZ K ps.length (dDef N.length body)) := by
  obtain ⟨oc, od, kV, doc, pm, an, cdv, ct, osl, rfl, lk, hcd⟩ := F.ex
  have hlen : ∀ vs H Q E, spZ K ps.length (dDef N.length body) vs H Q E → vs.length = ps.length := fun vs H Q E ⟨G, ds, r, _, b, c, _⟩ => b.length.trans c
  refine ⟨hlen, ?_⟩
  intro A outer s H args us vs Q rm env0 bt rel want
  have inK : K.In s.heap := env0.mod.kin.keeps (fun b o e => And.left (env0.bs b o e))
  have noL : s.heap.NoLimit := env0.mod.nolimit.keeps (fun b o e => And.left (env0.bs b o e))
  have par : ∀ y ∈ ps.zip us, (defScope st).names.lookup y.1 = some .local ∨ ((defScope st).names.lookup y.1 = some .cell ∧ ((cellsFrom (s.heap.objs.size + 1) (defScope st).names []).lookup y.1).isSome = true) := by
    rintro ⟨nm, vl⟩ hy
    refine (S.par nm (List.of_mem_zip hy).1).imp id fun q => ⟨q, PySem.W.cellsFrom_some _ _ _ (Or.inl q)⟩
  refine codeAny_call_function (by have := rm.dp; omega) (inK _ _ lk) rfl S.co S.gen rfl (PySem.W.codeRec_of inK hcd) (bt _ _ _ _ ?_)
  refine wpAny_newFunctionEnv_cells S.kind par fun en he s1 xx => ?_
  cases he
  refine ⟨noL.keeps xx.toInCall.keep, codeAny_func ?_⟩
  obtain ⟨t, ht⟩ := hbody cdv A outer s H (rm.deeper _)
  obtain ⟨G, ds, r, sGH, ra, hl, hq, hw⟩ := want
  have I : Inv (cxOf CX0 P w K mg base N qual (defScope st) f cdv A outer s H E0) [] (L2.start N vs) H s1 := inv_start S rm.hd env0 (ra.length.trans hl) rel xx
  obtain ⟨re, hre, hq⟩ := Option.bind_eq_some_iff.mp hq
  have hq2 : t { nx := fun _ H' => Q .non H', rt := Q } (L2.start N vs) H := by
    refine ht.ss G H G H _ _ re (rep_start sGH ra) hre _ ?_
    cases re with
    | rt d => cases hq; exact fun v G' H' _ ex rv => hw v G' H' ex rv
    | nx e => cases hq; exact fun σ' G' H' _ rp => hw _ G' H' rp.ex .non
  refine wpAny_mono (ht.ps.nox.run [] s1 (L2.start N vs) H _ I hq2) ?_ (fun e s' hs => hs)
  intro fl s' hs
  have fin : ∀ {σ' : L2.St} {H' : Hp} {v : V} {u : Value}, Inv (cxOf CX0 P w K mg base N qual (defScope st) f cdv A outer s H E0) [] σ' H' s' → RelV v u → Q v H' → CE outer P w H s Q u s' := by
    intro σ' H' v u J rv q
    exact ⟨v, H', J.os, J.bare, J.base, J.hok, rv, q⟩
  cases fl with
  | ret u => obtain ⟨v, σ', H', J, rv, q⟩ := hs; exact fin J rv q
  | next => obtain ⟨σ', H', J, q⟩ := hs; exact fin (v := V.non) (u := Value.none) J rfl q
  | brk => obtain ⟨_, _, _, q⟩ := hs; exact q.elim
  | cont => obtain ⟨_, _, _, q⟩ := hs; exact q.elim
theorem FnZ.ok {P : Program} {w : World} {K : PySem.W.Frag} {mg : Str → Option Value} {base : Heap} {n k : Nat} {f : Addr} {fd : FuncData} {ps : List Str} {sp : Sp} (F : FnZ P w K mg base n f fd ps sp) (hE : ∀ vs H Q E, sp vs H Q E → sp vs H Q E0) (h1 : n + 15 ≤ 3 * k) (h2 : 3 * n + 200 ≤ 16 * k) : FnOk P w K mg base CX0 k f fd ps sp := by
  refine ⟨F.len, fun A outer s H args us vs Q E hr he hb hv hs => codeAny_mono (F.run A outer s H args us vs Q (.of hr h1 h2) he hb hv (hE _ _ _ _ hs)) fun r s' q => ?_⟩
  cases r with
  | error e => exact q
  | ok fl => cases fl <;> exact q
end Z

set_option Elab.async false
set_option linter.all false
set_option maxRecDepth 100000
set_option maxHeartbeats 4000000
/-! ZG: dicts, products with lists and tuples, constants of the module -/
namespace Z
open PySem L2

/-! ### dicts of data -/
def putD (ds : List (D × D)) (k : Key) (d : D) : List (D × D) :=
  if (ds.any fun p => decide (keyOf p.1 = some k)) = true then ds.map (fun p => if keyOf p.1 = some k then (p.1, d) else p) else ds ++ [(kD k, d)]
section
variable {K : PySem.W.Frag} {G : Hp}
theorem RpD.any : ∀ {kvs : List (Key × V)} {ds : List (D × D)}, RpD K G kvs ds → ∀ k : Key, (kvs.any fun p => decide (p.1 = k)) = ds.any fun p => decide (keyOf p.1 = some k)
  | _, _, .nil, k => rfl
  | _, _, .cons (k := k') h r, k => by
    rw [List.any_cons, List.any_cons, RpD.any r k]
    congr 1
    show decide (k' = k) = decide (keyOf (kD k') = some k)
    rw [keyOf_kD]
    exact dec_iff ⟨fun e => congrArg some e, fun e => Option.some.inj e⟩
theorem RpD.repl {v : V} {d : D} (hv : Rp K G v d) : ∀ {kvs : List (Key × V)} {ds : List (D × D)}, RpD K G kvs ds → ∀ k : Key, RpD K G (kvs.map fun kv => if kv.1 = k then (kv.1, v) else kv) (ds.map fun p => if keyOf p.1 = some k then (p.1, d) else p)
  | _, _, .nil, k => .nil
  | _, _, .cons (k := k') h r, k => by
    rw [List.map_cons, List.map_cons]
    by_cases e : k' = k
    · rw [if_pos (show ((k', _) : Key × V).1 = k from e), if_pos (show keyOf (kD k', _).1 = some k by rw [show (kD k', _).1 = kD k' from rfl, keyOf_kD, e])]
      exact .cons hv (RpD.repl hv r k)
    · rw [if_neg (show ¬ ((k', _) : Key × V).1 = k from e), if_neg (show ¬ keyOf (kD k', _).1 = some k by rw [show (kD k', _).1 = kD k' from rfl, keyOf_kD]; exact fun z => e (Option.some.inj z))]
      exact .cons h (RpD.repl hv r k)
theorem RpD.snoc {v : V} {d : D} (hv : Rp K G v d) (k : Key) : ∀ {kvs : List (Key × V)} {ds : List (D × D)}, RpD K G kvs ds → RpD K G (kvs ++ [(k, v)]) (ds ++ [(kD k, d)])
  | _, _, .nil => .cons hv .nil
  | _, _, .cons h r => .cons h (RpD.snoc hv k r)
theorem RpD.put {v : V} {d : D} {kvs : List (Key × V)} {ds : List (D × D)} (r : RpD K G kvs ds) (hv : Rp K G v d) (k : Key) : RpD K G (putK kvs k v) (putD ds k d) := by
  unfold putK putD
  rw [r.any k]
  split
  · exact r.repl hv k
  · exact r.snoc hv k
def pairsOf : List D → Option (List (Key × D))
  | [] => some []
  | .tuple [k, v] :: r => (keyOf k).bind fun k => (pairsOf r).bind fun r => some ((k, v) :: r)
  | _ :: _ => none
def mergeD (ds : List (D × D)) (prs : List (Key × D)) : List (D × D) := prs.foldl (fun acc kv => putD acc kv.1 kv.2) ds
inductive RpP (K : PySem.W.Frag) (G : Hp) : List (Key × V) → List (Key × D) → Prop
  | nil : RpP K G [] []
  | cons {k : Key} {v : V} {d : D} {kvs : List (Key × V)} {ds : List (Key × D)} : Rp K G v d → RpP K G kvs ds → RpP K G ((k, v) :: kvs) ((k, d) :: ds)
theorem RpA.pairs : ∀ {vs : List V} {ds : List D} {prs : List (Key × D)}, RpA K G vs ds → pairsOf ds = some prs → ∃ (ps : List Addr) (kvs : List (Key × V)), vs = ps.map V.ref ∧ Paired (fun p kv => SqT K G p [kV kv.1, kv.2]) ps kvs ∧ RpP K G kvs prs
  | _, _, _, .nil, e => by cases e; exact ⟨[], [], rfl, .nil, .nil⟩
  | _, _, _, .cons h r, e => by
    unfold pairsOf at e
    split at e
    · rename_i heq
      cases heq
    · rename_i k v r' heq
      cases heq
      obtain ⟨k', e1, e⟩ := Option.bind_eq_some_iff.mp e
      obtain ⟨prs', e2, e⟩ := Option.bind_eq_some_iff.mp e
      cases e
      obtain ⟨ps, kvs, h1, h2, h3⟩ := RpA.pairs r e2
      cases h with
      | tup ht hr =>
        cases hr with
        | cons a b =>
          cases b with
          | cons c d =>
            cases d
            have ek : _ = kV k' := kV_of (H := G) (.inl a) e1
            subst ek
            exact ⟨_ :: ps, (k', _) :: kvs, by rw [h1]; rfl, .cons ht h2, .cons c h3⟩
    · cases e
theorem RpP.merge : ∀ {kvs : List (Key × V)} {prs : List (Key × D)} {acc : List (Key × V)} {ds : List (D × D)}, RpP K G kvs prs → RpD K G acc ds → RpD K G (mergeK acc kvs) (mergeD ds prs)
  | _, _, _, _, .nil, r => r
  | _, _, acc, ds, .cons (k := k) (v := v) (d := d) h t, r => show RpD K G (mergeK (putK acc k v) _) (mergeD (putD ds k d) _) from RpP.merge t (r.put h _)
theorem Paired.mono2 {α β : Type} {F F' : α → β → Prop} (h : ∀ a b, F a b → F' a b) : ∀ {l : List α} {m : List β}, Paired F l m → Paired F' l m
  | _, _, .nil => .nil
  | _, _, .cons r t => .cons (h _ _ r) (Paired.mono2 h t)
end
def dOp1 (o : D → Option D) (f : En → Option D) (env : En) : Option D := (f env).bind o
def oDictP : D → Option D
  | .list ds => (pairsOf ds).map fun prs => .dict (mergeD [] prs)
  | _ => none
section
variable {X : Cx} {a b c : Expr} {ta tb tc : TE} {fa fb fc : En → Option PyData} {pos : Pos}
theorem do_dictP {p : Pos} (hc : X.calm = true) (hg : Gl X "dict") (hm : X.mg "dict" = none) (ha : DR X a ta fa) (he : starEach [a] X.env = (false, eval a X.env) :: starEach [] X.env := by rfl) (hpl : (backTo pos (starEach [] X.env)).any (·.1) = false := by rfl) :
    DO X (.Call (.Name "dict" p) [a] [] pos) (tCB (fun xs H Q => ∃ (a : Addr) (ps : List Addr) (kvs : List (Key × V)), xs = [.ref a] ∧ SqL X.K H a (ps.map V.ref) ∧ Paired (fun p kv => SqT X.K H p [kV kv.1, kv.2]) ps kvs ∧ ∀ p, H p = none → Q (.ref p) (upd H p (.dK (mergeK [] kvs)))) (tCons ta tNil)) (dOp1 oDictP fa) := by
  refine ⟨pe_callTy (call_dictP hc) hg hm PyProof.Rows.boot_dict (pa_cons ha.pe pa_nil he) (by decide) (by decide) he hpl, fun G0 H0 G H σ env d rp q Q k => ?_⟩
  obtain ⟨x, e1, q⟩ := Option.bind_eq_some_iff.mp q
  refine ha.se G0 H0 G H σ env x rp e1 _ fun v G1 H1 x1 r1 => ?_
  unfold oDictP at q
  split at q
  · obtain ⟨prs, e2, q⟩ := Option.map_eq_some_iff.mp q
    subst q
    obtain ⟨pl, xs, e3, h3, r3⟩ := r1.list x1.s
    subst e3
    obtain ⟨ps, kvs, h4, h5, h6⟩ := r3.pairs e2
    subst h4
    refine ⟨pl, ps, kvs, rfl, .inl h3, Paired.mono2 (fun _ _ h => Same.sqt x1.s h) h5, fun p' hp => ?_⟩
    exact k p' G1 _ (x1.trans (Ext.newO x1.s _ hp)) (x1.s.free hp) (x1.h.free hp) (.dic upd_same (h6.merge .nil))
  · cases q
/-- d.get(k, x) -/
def dGet2 (fa fb fc : En → Option D) (env : En) : Option D := (fa env).bind fun x => (fb env).bind fun y => (fc env).bind fun z => match x with
  | .dict kvs => (keyOf y).bind fun k => some ((dLook kvs k).getD z)
  | _ => none
theorem de_get2 {apos : Pos} (hu : X.A.units + 1 < cLine) (ha : DR X a ta fa) (hb : DE X b tb fb) (hc : DE X c tc fc) (m : M2 X a "get" apos b c pos := by exact ⟨rfl, rfl, rfl, rfl⟩) :
    DE X (.Call (.Attribute a "get" apos) [b, c] [] pos) (tDGet2 ta tb tc) (dGet2 fa fb fc) := by
  refine ⟨pe_dget2 hu ha.pe hb.pe hc.pe m, fun G0 H0 G H σ env d rp q Q k => ?_⟩
  obtain ⟨x, e1, q⟩ := Option.bind_eq_some_iff.mp q
  obtain ⟨y, e2, q⟩ := Option.bind_eq_some_iff.mp q
  obtain ⟨z, e3, q⟩ := Option.bind_eq_some_iff.mp q
  refine ha.se G0 H0 G H σ env x rp e1 _ fun v G1 H1 x1 r1 => ?_
  split at q
  · obtain ⟨ky, e4, q⟩ := Option.bind_eq_some_iff.mp q
    cases q
    obtain ⟨p, kvs, e5, h5, r5⟩ := r1.dict x1.s
    refine ⟨p, e5, .inl ⟨kvs, .inl h5⟩, hb.se G0 H0 G1 H1 σ env y (rp.ext x1) e2 _ fun w G2 H2 x2 r2 => ?_⟩
    refine hc.se G0 H0 G2 H2 σ env z ((rp.ext x1).ext x2) e3 _ fun u G3 H3 x3 r3 => ?_
    have r5' := r5.mono (x2.g.trans x3.g)
    obtain ⟨o, g, g1, g2⟩ := r5'.get (H := H3) (x3.h _ _ (x2.h _ _ h5)) ky
    have ew : w = kV ky := kV_of (H := H3) (.inl (r2.mono x3.g)) e4
    refine ⟨o, by rw [ew]; exact g, ?_⟩
    cases e6 : dLook _ ky with
    | none =>
      rw [e6] at g1
      cases o with
      | none => exact k _ G3 H3 ((x1.trans x2).trans x3) (by rw [e6]; exact r3)
      | some _ => cases g1
    | some d' =>
      obtain ⟨v', rfl, rv⟩ := g2 d' e6
      exact k _ G3 H3 ((x1.trans x2).trans x3) (by rw [e6]; exact rv)
  · cases q
/-- d[k] = v, d of one's own -/
def sPut (i : Nat) (fk fv : En → Option D) (env : En) : Option Re := (fv env).bind fun v => (fk env).bind fun k => (keyOf k).bind fun k => match env[i]? with
  | some (.ow (.dict ds)) => if ds.length < sizeLine then some (.nx (env.set i (.ow (.dict (putD ds k v))))) else none
  | _ => none
theorem ds_dput (i : Nat) {x : Str} {xp pos' : Pos} (hu : X.A.units + 1 < cLine) (hk : DE X b tb fb) (hv : DE X a ta fa) (hN : X.N[i]? = some x := by rfl) (hvis : Vis X.env.scope x := by first | exact Or.inl rfl | exact Or.inr (Or.inl rfl) | exact Or.inr (Or.inr rfl)) (hd : (x == ("__debug__" : Str)) = false := by decide)
    (hcd : (x == ("__classdict__" : Str)) = false := by decide) (hs : swapsWith a (some (.Subscript (.Name x xp) b pos')) pos.line X.env = pure false := by rfl) :
    DS X (.Assign [.Subscript (.Name x xp) b pos'] a pos) (sDPut (tVar i) tb ta) (sPut i fb fa) := by
  refine ⟨ps_dput hu (pe_var hN hvis hd hcd) hk.pe hv.pe hs, fun G0 H0 G H σ env r rp q D k => ?_⟩
  obtain ⟨v, e1, q⟩ := Option.bind_eq_some_iff.mp q
  obtain ⟨y, e2, q⟩ := Option.bind_eq_some_iff.mp q
  obtain ⟨ky, e3, q⟩ := Option.bind_eq_some_iff.mp q
  split at q
  · rename_i ds e4
    split at q
    · rename_i hz
      cases q
      obtain ⟨p, xs, sp, gp, h0, hp, rx⟩ := ow_dic rp e4
      refine hv.se G0 H0 G H σ env v rp e1 _ fun w G1 H1 x1 r1 => ⟨_, sp, ?_⟩
      refine hk.se G0 H0 G1 H1 σ env y (rp.ext x1) e2 _ fun u G2 H2 x2 r2 => ?_
      have eu : u = kV ky := kV_of (H := H2) (.inl r2) e3
      have x12 := x1.trans x2
      have rx2 := rx.mono x12.g
      subst eu
      refine ⟨p, _, rfl, DPut.k (k := ky) (x12.h _ _ hp) (by rw [rx.length]; exact hz), ?_⟩
      exact k σ G2 _ x12.g ((rp.ext x12).change e4 sp (x12.old gp hp) h0 (.dic upd_same (rx2.put (r1.mono x2.g) ky)))
    · cases q
  · cases q

/-! ### a list, a tuple times an int -/
def rRepZ : R2 := fun x y H Q => ∃ l k xs, x = .ref l ∧ y = .int k ∧ Rd H l (.lst xs) ∧ -(2 ^ 63) ≤ k ∧ k < 2 ^ 63 ∧ xs.length * k.toNat ≤ sizeLine ∧
  ∀ p, H p = none → Q (.ref p) (upd H p (.lst (List.replicate k.toNat xs).flatten))
theorem op_repZ : OpR X (binaryOp .Mult) rRepZ := by
  intro pins s σ H x y v u Q I rx ry h
  obtain ⟨l, k, xs, rfl, rfl, hH, k1, k2, hz, q⟩ := h
  cases rx
  obtain ⟨t, rfl⟩ := ry
  obtain ⟨_, its, n, r, hl, e⟩ := rd_lst I hH
  have hle : its.toArray.size * k.toNat ≤ sizeLine := by rw [List.size_toArray, ← hl]; exact hz
  have hca : ¬ its.toArray.size * k.toNat > (2 ^ 63 - 1) / 8 := fun z => by
    have : (sizeLine : Nat) ≤ (2 ^ 63 - 1) / 8 := by decide
    omega
  have hfi : ¬ (!Builtin.List.listFitsIndex k) = true := by
    rw [PySem.fitsIndex_both k1 k2]; exact Bool.false_ne_true
  have hlo : ¬ Builtin.List.listTooLong (its.toArray.size * k.toNat) = true := by
    rw [notLongL hle]; exact Bool.false_ne_true
  have f0 : ∀ m : Nat, List.foldl (fun x1 x2 => x1 ++ x2) #[] (List.replicate m its.toArray) = (List.replicate m its).flatten.toArray := fun m => by
    have z := foldl_rep its m []
    rw [List.nil_append] at z; exact z
  have hne : List.foldl (fun x1 x2 => x1 ++ x2) #[] (List.replicate (if its.toArray.isEmpty = true then 0 else k.toNat) its.toArray) = (List.replicate k.toNat its).flatten.toArray := by
    rw [f0]
    cases its with
    | nil => simp
    | cons a r' => rw [if_neg (by simp)]
  refine wpAny_binaryOp_repeat_ref (T := "list") (U := "int") (by decide) ⟨_, e, rfl⟩ (fun s' => PySem.typeIs_int s' k t) PySem.noFill_list_mul PySem.F.fills_int_mul PySem.F.slot_int_rmul PySem.repeat_list PySem.F.slot_int_index.lookup
    (PySem.call_meets PySem.F.slot_int_rmul (PySem.typeIs_int s k t) PySem.F.entry_int_rmul (PySem.F.args_int_rmul_2 _ _) (PySem.int___rmul___int_list k t l its.toArray n)
      ⟨e, rfl, ⟨_, e, rfl⟩, PySem.call_meets PySem.F.slot_list_mul ⟨_, e, rfl⟩ PySem.F.entry_list_mul (PySem.F.args_list_mul_2 _ _) (PySem.AutoListH.list___mul___list_int_3 l its.toArray n k t hfi hca hlo) ⟨e, ?_⟩⟩)
  rw [hne]
  exact ⟨.ref _, _, I.lnew (t' := s.toks) (r.rep k.toNat) (by rw [PyProof.Rows.lm_len_rep_flat, Nat.mul_comm]; exact hz), rfl, q _ I.fresh⟩
def oMulZ : D → D → Option D
  | .int a, .int b => if (-(2 ^ 64) < a ∧ a < 2 ^ 64) ∨ (-(2 ^ 64) < b ∧ b < 2 ^ 64) then some (.int (a * b)) else none
  | .list ds, .int k => if -(2 ^ 63) ≤ k ∧ k < 2 ^ 63 ∧ ds.length * k.toNat ≤ sizeLine then some (.list (List.replicate k.toNat ds).flatten) else none
  | .tuple ds, .int k => if ds ≠ [] ∧ 2 ≤ k ∧ k ≤ 1000 ∧ ds.length ≤ 1000 then some (.tuple (List.replicate k.toNat ds).flatten) else none
  | _, _ => none
def rMulZ (K : PySem.W.Frag) : R2 := fun x y H Q => rI CMul (fun i j => .int (i * j)) x y H Q ∨ rRepZ x y H Q ∨ rRepT K x y H Q
theorem op_mulZ : OpR X (binaryOp .Mult) (rMulZ X.K) := op_mul.or (op_repZ.or op_repT)
theorem rz_mulZ {K : PySem.W.Frag} : Z.RZ K (rMulZ K) oMulZ := by
  intro G H x y dx dy d s a b c Q k
  unfold oMulZ at c
  split at c
  · split at c
    · rename_i h
      cases c
      exact .inl ⟨_, _, a.int, b.int, h, k _ G H (.refl s) (.int _)⟩
    · cases c
  · split at c
    · rename_i h
      cases c
      obtain ⟨p1, x1, e1, h1, r1⟩ := a.list s
      refine .inr (.inl ⟨p1, _, x1, e1, b.int, h1, h.1, h.2.1, by rw [r1.length]; exact h.2.2, fun p hp => ?_⟩)
      exact k _ _ _ (Ext.new s _ hp) (.lst (.inl upd_same) ((r1.rep _).mono (same_new (s.free hp))))
    · cases c
  · split at c
    · rename_i h
      cases c
      obtain ⟨p1, x1, e1, h1, _, r1⟩ := a.tuple s
      refine .inr (.inr ⟨p1, _, x1, e1, b.int, h1, fun z => ?_, h.2.1, h.2.2.1, by rw [r1.length]; exact h.2.2.2, fun p hp => ?_⟩)
      · subst z
        cases r1
        exact h.1 rfl
      · exact k _ _ _ (Ext.new s _ hp) (.tup (SqT.of upd_same) ((r1.rep _).mono (same_new (s.free hp))))
    · cases c
  · cases c

/-! ### constants of the module -/
def GlobC (K : PySem.W.Frag) (mg : Str → Option Value) (x : Str) (d : D) : Prop := ∃ v u, mg x = some u ∧ RelV v u ∧ ∀ G, Rp K G v d
theorem de_g {x : Str} {d : D} (hg : Gl X x) (h : GlobC X.K X.mg x d) (hd : (x == ("__debug__" : Str)) = false := by decide) : DE X (.Name x pos) (tC h.choose) (dC d) := by
  obtain ⟨u, h1, h2, h3⟩ := h.choose_spec
  exact de_glob hg h1 h2 h3 hd
end
end Z

set_option Elab.async false
set_option linter.all false
set_option maxRecDepth 100000
set_option maxHeartbeats 4000000
/-! ZI: list(zip(a, b)) of tuples, enumerate of a tuple -/
namespace Z
open PySem L2

/-! ### zip of tuples, the pairs kept -/
section
variable {prog : Program} {w : World} {A : Around} {E : Value → Shared → Prop} {s : Shared}
theorem zh_item {z TI TO T i1 i2 l1 l2 : Addr} {f : Bool} {oT : Obj} {k1 k2 : Nat} {xs ys : Array Value} {x y : Value} {Q : Value → Shared → Prop} (ap : ZipApart z TI TO i1 i2 l1 l2)
    (zz : IsZipHeld s.heap z TI TO T f) (tt : s.heap.get? T = some oT) (ti : IsPair s.heap TI (.ref i1) (.ref i2))
    (a1 : s.heap.IsTupleIter i1 l1 k1) (a2 : s.heap.IsTupleIter i2 l2 k2) (b1 : s.heap.IsTuple l1 xs) (b2 : s.heap.IsTuple l2 ys) (ex : xs[k1]? = some x) (ey : ys[k2]? = some y)
    (hQ : ∀ h', IsZipHeld h' z TI TO T true → h'.IsTupleIter i1 l1 (k1 + 1) → h'.IsTupleIter i2 l2 (k2 + 1) → IsPair h' s.heap.objs.size x y → h'.objs.size = s.heap.objs.size + 1 →
      (∀ c o, c ≠ z → c ≠ i1 → c ≠ i2 → s.heap.get? c = some o → h'.get? c = some o) → Q (.ref s.heap.objs.size) { s with heap := h' }) :
    wpAny (model prog w) A (Builtin.«zip.__next__» ⟨[.ref z], []⟩) (fun fin s' => ∃ v, fin = .done (.ret v) ∧ Q v s') E s := by
  show wpAny _ _ (field (.ref z) 2 >>= _) _ _ _
  refine wpAny_bind (wpAny_field zz rfl (x := .bool false) rfl ?_)
  show wpAny _ _ (field (.ref z) 3 >>= _) _ _ _
  refine wpAny_bind (wpAny_field zz rfl (x := .ref TI) rfl ?_)
  refine wpAny_bind (wpAny_seqItems ti rfl ?_)
  show wpAny _ _ (Builtin.SmallTypes.ownedTupleIsFree (.ref z) >>= _) _ _ _
  refine wpAny_bind (wpAny_tupleHeld_zip zz tt fun g1 z1 q1 => ?_)
  simp only [Bool.false_eq_true, if_false]
  refine wpAny_bind ?_
  rw [← Array.forIn_toList]
  simp only [List.forIn_cons, List.forIn_nil]
  refine wpAny_bind (wpAny_bind (wpAny_holding ?_))
  show wpAny _ _ (Builtin.SmallTypes.nextOf (.ref i1) >>= _) _ _ _
  refine wpAny_bind (RZ.nextOf_tuple_item (s := { s with heap := g1 }) (a1.extBut q1.extBut ap.i1z) (b1.extBut q1.extBut ap.l1z) ex fun g2 a1' q2 => wpAny_pure ?_)
  refine wpAny_pure ?_
  refine wpAny_bind (wpAny_bind (wpAny_holding ?_))
  show wpAny _ _ (Builtin.SmallTypes.nextOf (.ref i2) >>= _) _ _ _
  refine wpAny_bind (RZ.nextOf_tuple_item (s := { s with heap := g2 }) ((a2.extBut q1.extBut ap.i2z).extBut q2.extBut ap.i12.symm) ((b2.extBut q1.extBut ap.l2z).extBut q2.extBut ap.l2i1) ey fun g3 a2' q3 => wpAny_pure ?_)
  refine wpAny_pure (wpAny_pure ?_)
  show wpAny _ _ (newTuple [x, y] >>= _) _ _ _
  refine wpAny_bind (wpAny_newTuple ?_)
  have sz : g3.objs.size = s.heap.objs.size := by rw [q3.1, q2.1, q1.1]
  have z3 : IsZipHeld g3 z TI TO T true := q3.extBut _ _ ap.i2z.symm (q2.extBut _ _ ap.i1z.symm z1)
  have kp : ∀ c o, c ≠ z → c ≠ i1 → c ≠ i2 → s.heap.get? c = some o → g3.get? c = some o := fun c o c1 c2 c3 e => q3.extBut _ _ c3 (q2.extBut _ _ c2 (q1.extBut _ _ c1 e))
  have a13 : g3.IsTupleIter i1 l1 (k1 + 1) := a1'.extBut q3.extBut ap.i12
  refine wpAny_pure ⟨_, rfl, ?_⟩
  show Q (.ref g3.objs.size) _
  have np : IsPair (g3.push { cls := .type "tuple", data := .seq #[x, y] }) g3.objs.size x y := Heap.get?_push_size _ rfl
  have nz : (g3.push { cls := .type "tuple", data := .seq #[x, y] }).objs.size = g3.objs.size + 1 := Heap.size_push ..
  rw [sz] at np nz ⊢
  exact hQ _ (Heap.get?_push_of_some _ z3) (a13.at fun o e => Heap.get?_push_of_some _ e) (a2'.at fun o e => Heap.get?_push_of_some _ e) np nz fun c o c1 c2 c3 e => Heap.get?_push_of_some _ (kp c o c1 c2 c3 e)

theorem zh_end {z TI TO T i1 i2 l1 l2 : Addr} {f : Bool} {oT : Obj} {k1 k2 : Nat} {xs ys : Array Value} {Q : Fin → Shared → Prop} (hd : A.handled = none) (ap : ZipApart z TI TO i1 i2 l1 l2)
    (zz : IsZipHeld s.heap z TI TO T f) (tt : s.heap.get? T = some oT) (ti : IsPair s.heap TI (.ref i1) (.ref i2))
    (a1 : s.heap.IsTupleIter i1 l1 k1) (a2 : s.heap.IsTupleIter i2 l2 k2) (b1 : s.heap.IsTuple l1 xs) (b2 : s.heap.IsTuple l2 ys) (he : xs[k1]? = none ∨ ys[k2]? = none)
    (hE : ∀ h' e, (∀ c o, c ≠ z → c ≠ i1 → c ≠ i2 → s.heap.get? c = some o → h'.get? c = some o) → (∃ o, h'.get? e = some o ∧ o.cls = .type "StopIteration") → E (.ref e) { s with heap := h' }) :
    wpAny (model prog w) A (Builtin.«zip.__next__» ⟨[.ref z], []⟩) Q E s := by
  show wpAny _ _ (field (.ref z) 2 >>= _) _ _ _
  refine wpAny_bind (wpAny_field zz rfl (x := .bool false) rfl ?_)
  show wpAny _ _ (field (.ref z) 3 >>= _) _ _ _
  refine wpAny_bind (wpAny_field zz rfl (x := .ref TI) rfl ?_)
  refine wpAny_bind (wpAny_seqItems ti rfl ?_)
  show wpAny _ _ (Builtin.SmallTypes.ownedTupleIsFree (.ref z) >>= _) _ _ _
  refine wpAny_bind (wpAny_tupleHeld_zip zz tt fun g1 z1 q1 => ?_)
  simp only [Bool.false_eq_true, if_false]
  refine wpAny_bind ?_
  rw [← Array.forIn_toList]
  simp only [List.forIn_cons, List.forIn_nil]
  refine wpAny_bind (wpAny_bind (wpAny_holding ?_))
  show wpAny _ _ (Builtin.SmallTypes.nextOf (.ref i1) >>= _) _ _ _
  cases ex : xs[k1]? with
  | none =>
    refine wpAny_bind (RZ.nextOf_tuple_end (s := { s with heap := g1 }) hd (a1.extBut q1.extBut ap.i1z) (b1.extBut q1.extBut ap.l1z) ex fun g2 e q2 ee => ?_)
    exact hE g2 e (fun c o c1 c2 _ x => q2 _ _ c2 (q1.extBut _ _ c1 x)) ee
  | some x =>
    have ey : ys[k2]? = none := by
      rcases he with e | e
      · rw [ex] at e; cases e
      · exact e
    refine wpAny_bind (RZ.nextOf_tuple_item (s := { s with heap := g1 }) (a1.extBut q1.extBut ap.i1z) (b1.extBut q1.extBut ap.l1z) ex fun g2 a1' q2 => wpAny_pure ?_)
    refine wpAny_pure ?_
    refine wpAny_bind (wpAny_bind (wpAny_holding ?_))
    show wpAny _ _ (Builtin.SmallTypes.nextOf (.ref i2) >>= _) _ _ _
    refine wpAny_bind (RZ.nextOf_tuple_end (s := { s with heap := g2 }) hd ((a2.extBut q1.extBut ap.i2z).extBut q2.extBut ap.i12.symm) ((b2.extBut q1.extBut ap.l2z).extBut q2.extBut ap.l2i1) ey fun g3 e q3 ee => ?_)
    exact hE g3 e (fun c o c1 c2 c3 x => q3 _ _ c3 (q2.extBut _ _ c2 (q1.extBut _ _ c1 x))) ee

/-- a zip of two tuples while its pairs are kept -/
def ZSt (z TI TO i1 i2 l1 l2 S : Addr) (xs ys : Array Value) (i : Nat) (h : Heap) : Prop :=
  IsPair h TI (.ref i1) (.ref i2) ∧ h.IsTupleIter i1 l1 i ∧ h.IsTupleIter i2 l2 i ∧ h.IsTuple l1 xs ∧ h.IsTuple l2 ys ∧
    ((IsZip h z TI TO .none ∧ ∃ a b, IsPair h TO a b) ∨ ∃ T f oT, IsZipHeld h z TI TO T f ∧ h.get? T = some oT ∧ T ≠ z ∧ T ≠ i1 ∧ T ≠ i2 ∧ T ≠ S)
theorem ZSt.item {z TI TO i1 i2 l1 l2 S : Addr} {i : Nat} {xs ys : Array Value} {x y : Value} {Q : Option Value → Shared → Prop} (ap : ZipApart z TI TO i1 i2 l1 l2) (st : ZSt z TI TO i1 i2 l1 l2 S xs ys i s.heap) (hS : S < s.heap.objs.size) (ex : xs[i]? = some x) (ey : ys[i]? = some y)
    (hQ : ∀ h', ZSt z TI TO i1 i2 l1 l2 S xs ys (i + 1) h' → IsPair h' s.heap.objs.size x y → h'.objs.size = s.heap.objs.size + 1 →
      (∀ c o, c ∉ [z, TO, i1, i2] → s.heap.get? c = some o → h'.get? c = some o) → Q (some (.ref s.heap.objs.size)) { s with heap := h' }) :
    wpAny (model prog w) A (pyNext (.ref z)) Q E s := by
  obtain ⟨ti, a1, a2, b1, b2, hz⟩ := st
  have lt : ∀ {c o}, s.heap.get? c = some o → s.heap.objs.size ≠ c := fun e => Nat.ne_of_gt (Heap.lt_size e)
  have n1 : s.heap.objs.size ≠ i1 := let ⟨_, e, _⟩ := a1; lt e
  have n2 : s.heap.objs.size ≠ i2 := let ⟨_, e, _⟩ := a2; lt e
  rcases hz with ⟨zz, a, b, to⟩ | ⟨T, f, oT, zz, tt, r1, r2, r3, r4⟩
  · refine RZ.pyNext_zipT_item ap zz ti to a1 a2 b1 b2 ex ey fun h' c1 c2 c3 c4 c5 c6 kp => ?_
    exact hQ h' ⟨kp _ _ ap.TIz ap.TITO ap.TIi1 ap.TIi2 ti, c3, c4, b1.at fun o e => kp _ o ap.l1z ap.l1TO ap.l1i1 ap.l1i2 e, b2.at fun o e => kp _ o ap.l2z ap.l2TO ap.l2i1 ap.l2i2 e,
      .inr ⟨s.heap.objs.size, false, _, c1, c5, lt zz, n1, n2, Nat.ne_of_gt hS⟩⟩ c5 c6 fun c o hc e => kp c o (fun x => hc (by simp [x])) (fun x => hc (by simp [x])) (fun x => hc (by simp [x])) (fun x => hc (by simp [x])) e
  · have hT : s.TypeIs (.ref z) "zip" := ⟨_, zz, rfl⟩
    unfold pyNext
    refine wpAny_bind (wpAny_attempt (wpAny_callSpecial?_slot (name := Str.ofString "__next__") hT F.slot_zip_next
      (wpAny_call_entry F.slot_zip_next hT F.entry_zip_next (zh_item ap zz tt ti a1 a2 b1 b2 ex ey fun h' c1 c3 c4 c5 c6 kp => wpAny_pure ?_) (F.args_zip_next_1 _))))
    exact hQ h' ⟨kp _ _ ap.TIz ap.TIi1 ap.TIi2 ti, c3, c4, b1.at fun o e => kp _ o ap.l1z ap.l1i1 ap.l1i2 e, b2.at fun o e => kp _ o ap.l2z ap.l2i1 ap.l2i2 e,
      .inr ⟨T, true, oT, c1, kp _ _ r1 r2 r3 tt, r1, r2, r3, r4⟩⟩ c5 c6 fun c o hc e => kp c o (fun x => hc (by simp [x])) (fun x => hc (by simp [x])) (fun x => hc (by simp [x])) e
theorem ZSt.done {z TI TO i1 i2 l1 l2 S : Addr} {i : Nat} {xs ys : Array Value} {Q : Option Value → Shared → Prop} (hd : A.handled = none) (ap : ZipApart z TI TO i1 i2 l1 l2) (st : ZSt z TI TO i1 i2 l1 l2 S xs ys i s.heap) (he : xs[i]? = none ∨ ys[i]? = none)
    (hQ : ∀ h', (∀ c o, c ∉ [z, TO, i1, i2] → s.heap.get? c = some o → h'.get? c = some o) → Q none { s with heap := h' }) :
    wpAny (model prog w) A (pyNext (.ref z)) Q E s := by
  obtain ⟨ti, a1, a2, b1, b2, hz⟩ := st
  rcases hz with ⟨zz, a, b, to⟩ | ⟨T, f, oT, zz, tt, r1, r2, r3, r4⟩
  · exact RZ.pyNext_zipT_end hd ap zz ti to a1 a2 b1 b2 he fun h' kp => hQ h' fun c o hc e => kp c o (fun x => hc (by simp [x])) (fun x => hc (by simp [x])) (fun x => hc (by simp [x])) (fun x => hc (by simp [x])) e
  · have hT : s.TypeIs (.ref z) "zip" := ⟨_, zz, rfl⟩
    unfold pyNext
    refine wpAny_bind (wpAny_attempt (wpAny_callSpecial?_slot (name := Str.ofString "__next__") hT F.slot_zip_next
      (wpAny_call_entry F.slot_zip_next hT F.entry_zip_next (zh_end hd ap zz tt ti a1 a2 b1 b2 he fun h' e kp ee => ?_) (F.args_zip_next_1 _))))
    obtain ⟨o, ho, hc⟩ := ee
    refine wpAny_bind (wpAny_isInstance (T := "StopIteration") (b := true) ⟨o, ho, hc⟩ isSubtype_stop ?_)
    exact wpAny_pure (hQ _ fun c o hc e => kp c o (fun x => hc (by simp [x])) (fun x => hc (by simp [x])) (fun x => hc (by simp [x])) e)
theorem ZSt.keep {z TI TO i1 i2 l1 l2 S : Addr} {i : Nat} {xs ys : Array Value} {h h' : Heap} (st : ZSt z TI TO i1 i2 l1 l2 S xs ys i h) (kp : ∀ c o, c ≠ S → h.get? c = some o → h'.get? c = some o) (hn : S ∉ [z, TI, TO, i1, i2, l1, l2]) : ZSt z TI TO i1 i2 l1 l2 S xs ys i h' := by
  obtain ⟨ti, a1, a2, b1, b2, hz⟩ := st
  have q : ∀ c, c ∈ [z, TI, TO, i1, i2, l1, l2] → c ≠ S := fun c hc e => hn (e ▸ hc)
  refine ⟨kp _ _ (q _ (by simp)) ti, a1.at fun o e => kp _ o (q _ (by simp)) e, a2.at fun o e => kp _ o (q _ (by simp)) e, b1.at fun o e => kp _ o (q _ (by simp)) e, b2.at fun o e => kp _ o (q _ (by simp)) e, ?_⟩
  rcases hz with ⟨zz, a, b, to⟩ | ⟨T, f, oT, zz, tt, r1, r2, r3, r4⟩
  · exact .inl ⟨kp _ _ (q _ (by simp)) zz, a, b, kp _ _ (q _ (by simp)) to⟩
  · exact .inr ⟨T, f, oT, kp _ _ (q _ (by simp)) zz, kp _ _ r4 tt, r1, r2, r3, r4⟩
end

/-! ### list(zip(a, b)), a and b tuples -/
/-- at S a new list of new pairs -/
structure Zipped (H0 H : Hp) (S : Addr) (as : List Addr) (ps : List (V × V)) : Prop where
  same : Same H0 H
  fr : H0 S = none
  lst : H S = some (.lst (as.map V.ref))
  prs : Paired (fun a p => H0 a = none ∧ a ≠ S ∧ H a = some (.tup [p.1, p.2])) as ps
theorem Paired.len {α β : Type} {F : α → β → Prop} : ∀ {l : List α} {m : List β}, Paired F l m → l.length = m.length
  | _, _, .nil => rfl
  | _, _, .cons _ t => by rw [List.length_cons, List.length_cons, Paired.len t]
theorem Paired.snoc {α β : Type} {F : α → β → Prop} {a : α} {b : β} (h : F a b) : ∀ {l : List α} {m : List β}, Paired F l m → Paired F (l ++ [a]) (m ++ [b])
  | _, _, .nil => .cons h .nil
  | _, _, .cons r t => .cons r (Paired.snoc h t)
section
variable {X : Cx} {pins : List (Addr × Obj)} {σ : L2.St} {s : Shared} {A : Around} {R : Result → Shared → Prop}
theorem zl_loop (hd : A.handled = none) {z TI TO i1 i2 l1 l2 S : Addr} (ap : ZipApart z TI TO i1 i2 l1 l2) (hn : S ∉ [z, TI, TO, i1, i2, l1, l2]) (res : Value) {vx vy : List V} {ux uy : List Value} (rx : Vals vx ux) (ry : Vals vy uy) (hz : vx.length ≤ sizeLine) {H0 : Hp}
    (hR : ∀ h' tk H' as, Inv X pins σ H' { s with heap := h', toks := tk } → Zipped H0 H' S as (vx.zip vy) → R (.ok (.ret res)) { s with heap := h', toks := tk }) :
    ∀ (k i : Nat) (h : Heap) (tk : Nat) (H : Hp) (as : List Addr), (vx.zip vy).length - i = k → i ≤ (vx.zip vy).length → ZSt z TI TO i1 i2 l1 l2 S ux.toArray uy.toArray i h → Inv X pins σ H { s with heap := h, toks := tk } → (∀ c ∈ [z, TO, i1, i2], FpOk X pins H c ∧ c < h.objs.size) →
      Zipped H0 H S as ((vx.zip vy).take i) → codeAny (model X.prog X.w) A (.builtin "list.extend.loop" ⟨[.ref S, .ref z, res], []⟩) R { s with heap := h, toks := tk } := by
  have lx := rx.length
  have ly := ry.length
  have hlen : (vx.zip vy).length = min vx.length vy.length := List.length_zip
  intro k
  induction k with
  | zero =>
    intro i h tk H as hk hi st I hf Zp
    have ei : i = (vx.zip vy).length := by omega
    refine codeAny_builtin PySem.F.entry_extend_loop ?_
    rw [Around.under_plainId PySem.F.plain_extend_loop _]
    show wpAny _ A.in1 (pyNext (.ref z) >>= _) _ _ _
    have he : ux.toArray[i]? = none ∨ uy.toArray[i]? = none := by
      rcases Nat.le_total vx.length vy.length with q | q
      · exact .inl (by simp; omega)
      · exact .inr (by simp; omega)
    refine wpAny_bind (ZSt.done (s := { s with heap := h, toks := tk }) (A := A.in1) hd ap st he fun h' kp => wpAny_pure ?_)
    refine hR h' tk H as (Inv.turnedL (s := { s with heap := h, toks := tk }) (t' := tk) (ch := [z, TO, i1, i2]) I kp fun c hc => (hf c hc).1) ?_
    rw [ei, List.take_length] at Zp
    exact Zp
  | succ k ih =>
    intro i h tk H as hk hi st I hf Zp
    have hlt : i < (vx.zip vy).length := by omega
    have hix : i < vx.length := by omega
    have hiy : i < vy.length := by omega
    obtain ⟨u, hu, ru⟩ := rx.get (List.getElem?_eq_getElem hix)
    obtain ⟨u2, hu2, ru2⟩ := ry.get (List.getElem?_eq_getElem hiy)
    have hS : S < h.objs.size := by
      obtain ⟨_, _, _, _, _, e⟩ := I.lstM Zp.lst
      exact Heap.lt_size e
    refine codeAny_builtin PySem.F.entry_extend_loop ?_
    rw [Around.under_plainId PySem.F.plain_extend_loop _]
    show wpAny _ A.in1 (pyNext (.ref z) >>= _) _ _ _
    refine wpAny_bind (ZSt.item (s := { s with heap := h, toks := tk }) (A := A.in1) ap st hS (x := u) (y := u2) (by simpa using hu) (by simpa using hu2) fun h' st' np nz kp => ?_)
    dsimp only at np nz kp ⊢
    have HN : H h.objs.size = none := I.hok.fresh (Nat.le_refl _)
    have HS := Zp.lst
    have hNS : h.objs.size ≠ S := Nat.ne_of_gt hS
    have new : ObjOk X.prog X.w (upd H h.objs.size (.tup [vx[i], vy[i]])) h' h.objs.size (.tup [vx[i], vy[i]]) :=
      ⟨by show 2 ≤ sizeLine; decide, [u, u2], .cons ru (.cons ru2 .nil), ⟨_, np, rfl, _, rfl⟩⟩
    have I1 : Inv X pins σ (upd H h.objs.size (.tup [vx[i], vy[i]])) { s with heap := h', toks := tk } := I.turnedNew (ch := [z, TO, i1, i2]) kp (fun c hc => (hf c hc).1) (Nat.le_refl _) new
    have HS1 : (upd H h.objs.size (.tup [vx[i], vy[i]])) S = some (.lst (as.map V.ref)) := by rw [upd_ne hNS.symm]; exact HS
    obtain ⟨zl, its, m, ri, ei, e⟩ := I1.lstM HS1
    have las := Z.Paired.len Zp.prs
    rw [List.length_take] at las
    rw [List.length_map] at zl
    show wpAny _ A.in1 (updateSeq S (·.push (Value.ref h.objs.size)) >>= _) _ _ _
    refine wpAny_bind ?_
    rw [List.length_map] at ei
    have sz : its.toArray.size = i := by rw [List.size_toArray, ← ei, las]; omega
    have I2 : Inv X pins σ (upd (upd H h.objs.size (.tup [vx[i], vy[i]])) S (.lst ((as ++ [h.objs.size]).map V.ref))) { s with heap := h'.update S (Obj.mapSeq (·.push (Value.ref h.objs.size))), toks := tk } := by
      refine I1.lset (its' := its ++ [.ref h.objs.size]) HS1 e (by simp) ?_ (by rw [List.length_map, List.length_append, las]; simp only [List.length_singleton]; omega)
      rw [List.map_append]
      exact ri.append (.cons rfl .nil)
    have up : ∀ b o, b ≠ S → h'.get? b = some o → (h'.update S (Obj.mapSeq (·.push (Value.ref h.objs.size)))).get? b = some o := fun b o hb q => (Heap.get?_update_other _ _ (Ne.symm hb)).trans q
    refine wpAny_updateSeq e rfl (wpAny_pure ⟨plainId_quiet PySem.F.plain_extend_loop _, ih (i + 1) _ tk _ (as ++ [h.objs.size]) (by omega) hlt (st'.keep up hn) I2 (fun c hc => ?_) ⟨fun b o q => ?_, Zp.fr, upd_same, ?_⟩⟩) (by rw [sz]; omega) (by show (its.toArray.push _).size ≤ sizeLine + 1; rw [Array.size_push, sz]; omega)
    · obtain ⟨⟨f1, f2⟩, f3⟩ := hf c hc
      have hcS : c ≠ S := fun q => by rw [q, HS] at f1; cases f1
      refine ⟨⟨by rw [upd_ne hcS, upd_ne (Nat.ne_of_lt f3)]; exact f1, f2⟩, ?_⟩
      rw [Heap.size_update, nz]
      exact Nat.lt_succ_of_lt f3
    · have hb : b ≠ S := fun e => by rw [e, Zp.fr] at q; cases q
      have hb2 : b ≠ h.objs.size := fun e => by
        have := Zp.same _ _ q
        rw [e, HN] at this; cases this
      rw [upd_ne hb, upd_ne hb2]
      exact Zp.same _ _ q
    · have et : (vx.zip vy).take (i + 1) = (vx.zip vy).take i ++ [(vx[i], vy[i])] := by
        rw [List.take_add_one, List.getElem?_eq_getElem hlt, List.getElem_zip]; rfl
      rw [et]
      refine Z.Paired.snoc ⟨Zp.same.free HN, hNS, by rw [upd_ne hNS, upd_same]⟩ (Z.Paired.mono2 (fun a p q => ⟨q.1, q.2.1, ?_⟩) Zp.prs)
      have ha : a ≠ h.objs.size := fun e => by
        have := q.2.2
        rw [e, HN] at this; cases this
      rw [upd_ne q.2.1, upd_ne ha]
      exact q.2.2
theorem zip_no_len : typeLookup (.type "zip") "__len__" = pure none := by rw [typeLookup_type, builtinLookup_eq_fast]; kernel_rfl
theorem zip_no_hint : typeLookup (.type "zip") "__length_hint__" = pure none := by rw [typeLookup_type, builtinLookup_eq_fast]; kernel_rfl
theorem zip_hint {prog : Program} {w : World} {E : Value → Shared → Prop} {z : Addr} (hT : s.TypeIs (.ref z) "zip") {Q : Bool → Shared → Prop} (h : Q true s) : wpAny (model prog w) A (Builtin.List.listLengthHint (.ref z)) Q E s := by
  unfold Builtin.List.listLengthHint
  refine wpAny_bind (wpAny_specialOf hT zip_no_len ?_)
  dsimp only
  refine wpAny_ite_split (fun hab => absurd hab (by decide +kernel)) (fun _ => ?_)
  refine wpAny_ite_split (fun hab => absurd hab (by decide)) (fun _ => ?_)
  refine wpAny_bind (wpAny_specialOf hT zip_no_hint ?_)
  exact wpAny_pure h
theorem zl_extend (hd : A.handled = none) {z TI TO i1 i2 l1 l2 S : Addr} (ap : ZipApart z TI TO i1 i2 l1 l2) (hn : S ∉ [z, TI, TO, i1, i2, l1, l2]) (res : Value) {vx vy : List V} {ux uy : List Value} (rx : Vals vx ux) (ry : Vals vy uy) (hz : vx.length ≤ sizeLine) {H0 H : Hp}
    (hR : ∀ h' tk H' as, Inv X pins σ H' { s with heap := h', toks := tk } → Zipped H0 H' S as (vx.zip vy) → R (.ok (.ret res)) { s with heap := h', toks := tk })
    (st : ZSt z TI TO i1 i2 l1 l2 S ux.toArray uy.toArray 0 s.heap) (zz : IsZip s.heap z TI TO .none) (I : Inv X pins σ H s) (hf : ∀ c ∈ [z, TO, i1, i2], FpOk X pins H c ∧ c < s.heap.objs.size) (Zp : Zipped H0 H S [] []) :
    wpAny (model X.prog X.w) A.in1 (Builtin.List.listExtendWith (.ref S) (.ref z) res)
      (fun fin s' => match fin with | .done f => R (.ok f) s' | .again c' => c'.quiet = true ∧ codeAny (model X.prog X.w) A c' R s') (fun e s' => R (.error e) s') s := by
  have hT : s.TypeIs (.ref z) "zip" := ⟨_, zz, rfl⟩
  have hSz : S ≠ z := fun e => hn (by simp [e])
  unfold Builtin.List.listExtendWith
  refine wpAny_bind (wpAny_typeOf (T := "zip") hT ?_)
  have e1 : Builtin.List.listSameRef (.ref S) (.ref z) = false := by simp [Builtin.List.listSameRef, hSz]
  have e2 : (Value.type "zip" == Value.type "list") = false := by decide
  have e3 : (Value.type "zip" == Value.type "tuple") = false := by decide
  simp only [e1, e2, e3, Bool.or_false, Bool.false_eq_true, if_false]
  refine wpAny_bind (wpAny_pyIter_zip zz ?_)
  refine wpAny_bind (wpAny_holding (zip_hint hT ?_))
  obtain ⟨_, its, m, ri, ei, e⟩ := I.lstM Zp.lst
  have en : its = [] := by
    cases its with
    | nil => rfl
    | cons _ _ => cases ei
  subst en
  refine wpAny_ite_split (fun _ => ?_) (fun hab => absurd rfl hab)
  refine wpAny_bind (wpAny_rule ?_)
  refine wpAny_bind ?_
  show wpAny _ _ (updateSeq S (·.push .none) >>= fun _ => updateSeq S (·.pop)) _ _ _
  refine wpAny_bind (wpAny_updateSeq e rfl ?_)
  have I1 := I.lset (t' := s.toks) (its' := [.none]) (ys := [.non]) (f := (·.push Value.none)) Zp.lst e (by simp) (.cons rfl .nil) (by decide)
  obtain ⟨_, its1, m1, r1, ei1, e1'⟩ := I1.lstM upd_same
  refine wpAny_updateSeq e1' rfl ?_ (by rw [List.size_toArray, ← ei1]; decide) (by show its1.toArray.pop.size ≤ _; rw [Array.size_pop, List.size_toArray, ← ei1]; decide)
  have I2 := I1.lset (t' := s.toks) (its' := []) (ys := []) (f := (·.pop)) upd_same e1' (by
    match its1, ei1 with
    | [x], _ => rfl) .nil (by decide)
  have HS := Zp.lst
  have st1 : ZSt z TI TO i1 i2 l1 l2 S ux.toArray uy.toArray 0 (s.heap.update S (Obj.mapSeq (·.push Value.none))) := st.keep (fun b o hb q => (Heap.get?_update_other _ _ (Ne.symm hb)).trans q) hn
  refine wpAny_pure ⟨plainId_quiet PySem.F.plain_extend_loop _, zl_loop (s := s) (A := A) hd ap hn res rx ry hz hR _ 0 _ s.toks _ [] rfl (Nat.zero_le _) (st1.keep (fun b o hb q => (Heap.get?_update_other _ _ (Ne.symm hb)).trans q) hn) I2 (fun c hc => ?_) ⟨fun b o q => ?_, Zp.fr, upd_same, by rw [List.take_zero]; exact .nil⟩⟩
  · obtain ⟨⟨f1, f2⟩, f3⟩ := hf c hc
    have hcS : c ≠ S := fun q => by rw [q, HS] at f1; cases f1
    refine ⟨⟨by rw [upd_ne hcS, upd_ne hcS]; exact f1, f2⟩, ?_⟩
    rw [Heap.size_update, Heap.size_update]
    exact f3
  · have hb : b ≠ S := fun e => by rw [e, Zp.fr] at q; cases q
    rw [upd_ne hb, upd_ne hb]
    exact Zp.same _ _ q
end

section
variable {X : Cx} {pins : List (Addr × Obj)} {σ : L2.St} {s : Shared} {R : Result → Shared → Prop}
theorem zl_init {A : Around} (hd : A.handled = none) {z TI TO i1 i2 l1 l2 S : Addr} (ap : ZipApart z TI TO i1 i2 l1 l2) (hn : S ∉ [z, TI, TO, i1, i2, l1, l2]) {vx vy : List V} {ux uy : List Value} (rx : Vals vx ux) (ry : Vals vy uy) (hz : vx.length ≤ sizeLine) {H0 H : Hp}
    (hR : ∀ h' tk H' as, Inv X pins σ H' { s with heap := h', toks := tk } → Zipped H0 H' S as (vx.zip vy) → R (.ok (.ret .none)) { s with heap := h', toks := tk })
    (st : ZSt z TI TO i1 i2 l1 l2 S ux.toArray uy.toArray 0 s.heap) (zz : IsZip s.heap z TI TO .none) (I : Inv X pins σ H s) (hf : ∀ c ∈ [z, TO, i1, i2], FpOk X pins H c ∧ c < s.heap.objs.size) (Zp : Zipped H0 H S [] []) :
    wpAny (model X.prog X.w) A.in1 (Builtin.«list.__init__» ⟨[.ref S, .ref z], []⟩)
      (fun fin s' => match fin with | .done f => R (.ok f) s' | .again c' => c'.quiet = true ∧ codeAny (model X.prog X.w) A c' R s') (fun e s' => R (.error e) s') s := by
  show wpAny _ _ (do let old ← Builtin.List.listItems (.ref S); Builtin.List.listUpdate (.ref S) (fun _ => #[]); letGo old.toList.reverse; Builtin.List.listExtendWith (.ref S) (.ref z) .none) _ _ s
  refine wpAny_bind ?_
  obtain ⟨_, its, m, ri, ei, e⟩ := I.lstM Zp.lst
  unfold Builtin.List.listItems
  refine wpAny_bind (wpAny_seqItems e rfl (wpAny_pure ?_))
  show wpAny _ _ (updateSeq S (fun _ => #[]) >>= fun _ => letGo its.toArray.toList.reverse >>= fun _ => Builtin.List.listExtendWith (.ref S) (.ref z) .none) _ _ s
  refine wpAny_bind (wpAny_updateSeq e rfl ?_ (by rw [List.size_toArray, ← ei]; exact Nat.zero_le _) (by show (#[] : Array Value).size ≤ _; exact Nat.zero_le _))
  have I2 := I.lset (t' := s.toks) (its' := []) (ys := []) (f := fun _ => #[]) Zp.lst e rfl .nil (by decide)
  have HS := Zp.lst
  refine wpAny_bind (wpAny_letGo ?_)
  refine zl_extend (s := { s with heap := s.heap.update S (Obj.mapSeq fun _ => #[]) }) hd ap hn .none rx ry hz (fun h' tk H' as I' Z' => hR h' tk H' as I' Z') (st.keep (fun b o hb q => (Heap.get?_update_other _ _ (Ne.symm hb)).trans q) hn) ((Heap.get?_update_other _ _ fun e => hn (by simp [e])).trans zz) I2 (fun c hc => ?_) ⟨fun b o q => ?_, Zp.fr, upd_same, .nil⟩
  · obtain ⟨⟨f1, f2⟩, f3⟩ := hf c hc
    have hcS : c ≠ S := fun q => by rw [q, HS] at f1; cases f1
    refine ⟨⟨by rw [upd_ne hcS]; exact f1, f2⟩, ?_⟩
    show c < (s.heap.update S _).objs.size
    rw [Heap.size_update]
    exact f3
  · have hb : b ≠ S := fun e => by rw [e, Zp.fr] at q; cases q
    rw [upd_ne hb]
    exact Zp.same _ _ q
def tLZ (K : PySem.W.Frag) (ta : TA) : TE := fun σ H Q => ta σ H fun vs H1 => ∃ a b xs ys, vs = [.ref a, .ref b] ∧ SqT K H1 a xs ∧ SqT K H1 b ys ∧ ∀ S H' as, Zipped H1 H' S as (xs.zip ys) → Q (.ref S) H'
theorem pe_lz {e e2 : Expr} {ta : TA} {p p2 q pos : Pos} (hc : X.calm = true) (hg : Gl X "list") (hm : X.mg "list" = none) (hg2 : Gl X "zip") (hm2 : X.mg "zip" = none) (ha : PA X [e, e2] ta)
    (hs : starEach [e, e2] X.env = (false, eval e X.env) :: starEach [e2] X.env := by rfl) (hpl : (backTo q (starEach [e2] X.env)).any (·.1) = false := by rfl) : PE X (.Call (.Name "list" p) [.Call (.Name "zip" p2) [e, e2] [] q] [] pos) (tLZ X.K ta) := by
  refine ⟨fun pins s σ H Q I h => ?_⟩
  refine PyProof.Rows.Call_ (ld_blt I hg hm PyProof.Rows.boot_list ?_)
  refine PyProof.Rows.callWith_type1 (PyProof.Rows.args_cons ?_ rfl) rfl rfl
  refine PyProof.Rows.Call_ (ld_blt I hg2 hm2 PyProof.Rows.boot_zip (PyProof.Rows.callWith_type1 (thn (ha.run q pins s σ H _ I h) fun us s1 ⟨vs, H1, I1, r1, q1⟩ => ?_) hs hpl))
  obtain ⟨a, b, xs, ys, ex, hqx, hqy, q1⟩ := q1
  subst ex
  cases r1 with
  | cons r rr =>
    cases rr with
    | cons r' rr =>
      cases rr
      cases r
      cases r'
      obtain ⟨its, rv, t1, hz1⟩ := I1.tuple hqx
      obtain ⟨its2, rv2, t2, hz2⟩ := I1.tuple hqy
      obtain ⟨o1, ho1, _⟩ := id t1
      obtain ⟨o2, ho2, _⟩ := id t2
      refine RZ.call_zipT (show s1.heap.IsTuple a its.toArray from t1) (show s1.heap.IsTuple b its2.toArray from t2) fun h' hz hTI hTO h1 h2 hsz hk => PyProof.Rows.args_nil ?_
      have I2 : Inv X pins σ H1 { s1 with heap := h' } := I1.kept (t' := s1.toks) hk
      have ap := PySem.W.ktu_apart s1.heap.objs.size a b (Heap.lt_size ho1) (Heap.lt_size ho2)
      refine callType_codes (Q₁ := fun obj s₁ => obj = .ref h'.objs.size ∧ s₁ = { s1 with heap := h'.push { cls := .type "list", data := .seq #[] } }) PySem.F.called_list (PySem.F.typeCall_list_1 _) PySem.F.entry_list_init
        (code_list_new _ ⟨rfl, rfl⟩) fun obj s₁ h₁ => ?_
      obtain ⟨rfl, rfl⟩ := h₁
      have I3 : Inv X pins σ (upd H1 h'.objs.size (.lst [])) { s1 with heap := h'.push { cls := .type "list", data := .seq #[] } } := I2.lnew (its := []) (ys := []) (t' := s1.toks) .nil (by decide)
      have up : ∀ b o, h'.get? b = some o → (h'.push { cls := .type "list", data := .seq #[] }).get? b = some o := fun b o q => Heap.get?_push_of_some _ q
      have fr : H1 h'.objs.size = none := I2.fresh
      have l1 : a < s1.heap.objs.size := Heap.lt_size ho1
      have l2 : b < s1.heap.objs.size := Heap.lt_size ho2
      have zst : ZSt (s1.heap.objs.size + 4) (s1.heap.objs.size + 2) (s1.heap.objs.size + 3) s1.heap.objs.size (s1.heap.objs.size + 1) a b h'.objs.size its.toArray its2.toArray 0 (h'.push { cls := .type "list", data := .seq #[] }) :=
        ⟨up _ _ hTI, h1.at fun o q => up _ o q, h2.at fun o q => up _ o q, (show s1.heap.IsTuple a its.toArray from t1).at fun o q => up _ o (hk _ o q), (show s1.heap.IsTuple b its2.toArray from t2).at fun o q => up _ o (hk _ o q), .inl ⟨up _ _ hz, _, _, up _ _ hTO⟩⟩
      have hnS : h'.objs.size ∉ [s1.heap.objs.size + 4, s1.heap.objs.size + 2, s1.heap.objs.size + 3, s1.heap.objs.size, s1.heap.objs.size + 1, a, b] := by
        rw [hsz]
        have l1' : ¬ s1.heap.objs.size + 5 = a := fun e => by rw [← e] at l1; exact absurd l1 (by show ¬ s1.heap.objs.size + 5 < s1.heap.objs.size; omega)
        have l2' : ¬ s1.heap.objs.size + 5 = b := fun e => by rw [← e] at l2; exact absurd l2 (by show ¬ s1.heap.objs.size + 5 < s1.heap.objs.size; omega)
        simp [l1', l2']
      refine ⟨⟨_, Heap.get?_push_size _ rfl, rfl⟩, PySem.F.args_list_init_2 _ _, ?_⟩
      refine zl_init (A := X.A.in1) (s := { s1 with heap := h'.push { cls := .type "list", data := .seq #[] } }) (I1.ok.hd hc) ap hnS rv rv2 hz1 (H0 := H1) (fun h2 tk H2 as I' Z' => ⟨rfl, .ref h'.objs.size, H2, I', rfl, q1 _ _ as Z'⟩) zst (up _ _ hz) I3 (fun c hcm => ?_) ⟨same_new fr, fr, upd_same, .nil⟩
      have e' : c = s1.heap.objs.size + 4 ∨ c = s1.heap.objs.size + 3 ∨ c = s1.heap.objs.size ∨ c = s1.heap.objs.size + 1 := by simpa using hcm
      have hle : s1.heap.objs.size ≤ c := by
        rcases e' with e | e | e | e <;> rw [e]
        · exact Nat.le_add_right _ _
        · exact Nat.le_add_right _ _
        · exact Nat.le_refl _
        · exact Nat.le_add_right _ _
      have hlt : c < h'.objs.size := by
        rw [hsz]
        rcases e' with e | e | e | e <;> rw [e]
        · exact Nat.lt_succ_self _
        · exact Nat.lt_succ_of_lt (Nat.lt_succ_self _)
        · exact Nat.lt_add_of_pos_right (by decide)
        · exact Nat.add_lt_add_left (by decide) _
      refine ⟨I1.fpOk hle (by rw [upd_ne (Nat.ne_of_lt hlt)]; exact I1.hok.fresh hle), ?_⟩
      show c < (h'.push _).objs.size
      rw [Heap.size_push]
      exact Nat.lt_succ_of_lt hlt
def dLZ (f g : En → Option D) (env : En) : Option D := (f env).bind fun d => (g env).bind fun e => match d, e with
  | .tuple as, .tuple bs => some (.list (zipD as bs))
  | _, _ => none
theorem Zipped.notin {F : Addr → V × V → Prop} {S : Addr} (hS : ∀ p, ¬ F S p) : ∀ {as : List Addr} {ps : List (V × V)}, Paired F as ps → S ∉ as
  | _, _, .nil, h => nomatch h
  | _, _, .cons r t, h => by
    rcases List.mem_cons.mp h with e | e
    · subst e; exact hS _ r
    · exact Zipped.notin hS t e
theorem Zipped.rps {K : PySem.W.Frag} {G' H' : Hp} {F : Addr → V × V → Prop} (hF : ∀ a p, F a p → G' a = some (.tup [p.1, p.2])) : ∀ {as : List Addr} {vx vy : List V} {dx dy : List D}, Paired F as (vx.zip vy) → RpA K G' vx dx → RpA K G' vy dy → RpA K G' (as.map V.ref) (zipD dx dy)
  | _, _, _, _, _, h, .nil, _ => by cases h; simp only [zipD]; exact .nil
  | _, _, _, _, _, h, .cons _ _, .nil => by cases h; simp only [zipD]; exact .nil
  | _, _, _, _, _, h, .cons a b, .cons c d => by
    rw [List.zip_cons_cons] at h
    cases h with
    | cons r t =>
      simp only [zipD, List.map_cons]
      exact .cons (.tup (SqT.of (hF _ _ r)) (.cons a (.cons c .nil))) (Zipped.rps (H' := H') hF t b d)
theorem Zipped.mem {F : Addr → V × V → Prop} {Q : Addr → Prop} (h : ∀ a p, F a p → Q a) : ∀ {as : List Addr} {ps : List (V × V)}, Paired F as ps → ∀ a ∈ as, Q a
  | _, _, .nil, _, hm => nomatch hm
  | _, _, .cons r t, a, hm => by
    rcases List.mem_cons.mp hm with e | e
    · subst e; exact h _ _ r
    · exact Zipped.mem h t a e
theorem Paired.memf {F : Addr → V × V → Prop} : ∀ {as : List Addr} {ps : List (V × V)}, Paired F as ps → Paired (fun a p => a ∈ as ∧ F a p) as ps
  | _, _, .nil => .nil
  | _, _, .cons r t => .cons ⟨List.mem_cons_self .., r⟩ (Paired.mono2 (fun a p h => ⟨List.mem_cons_of_mem _ h.1, h.2⟩) (Paired.memf t))
theorem do_lz {a b : Expr} {ta tb : TE} {fa fb : En → Option PyData} {p p2 q pos : Pos} (hc : X.calm = true) (hg : Gl X "list") (hm : X.mg "list" = none) (hg2 : Gl X "zip") (hm2 : X.mg "zip" = none) (ha : DE X a ta fa) (hb : DE X b tb fb)
    (hs : starEach [a, b] X.env = (false, eval a X.env) :: starEach [b] X.env := by rfl) (hs2 : starEach [b] X.env = (false, eval b X.env) :: starEach [] X.env := by rfl) (hpl : (backTo q (starEach [b] X.env)).any (·.1) = false := by rfl) :
    DO X (.Call (.Name "list" p) [.Call (.Name "zip" p2) [a, b] [] q] [] pos) (tLZ X.K (tCons ta (tCons tb tNil))) (dLZ fa fb) := by
  refine ⟨pe_lz hc hg hm hg2 hm2 (pa_cons ha.pe (pa_cons hb.pe pa_nil hs2) hs) hs hpl, fun G0 H0 G H σ env d rp q Q k => ?_⟩
  obtain ⟨d1, e1, q⟩ := Option.bind_eq_some_iff.mp q
  obtain ⟨d2, e2, q⟩ := Option.bind_eq_some_iff.mp q
  refine ha.se G0 H0 G H σ env _ rp e1 _ fun v G1 H1 x1 r1 => ?_
  refine hb.se G0 H0 G1 H1 σ env _ (rp.ext x1) e2 _ fun v2 G2 H2 x2 r2 => ?_
  have r1 := r1.mono x2.g
  split at q
  · cases q
    cases r1 with
    | tup a1 a2 =>
      cases r2 with
      | tup b1 b2 =>
        refine ⟨_, _, _, _, rfl, Same.sqt x2.s a1, Same.sqt x2.s b1, fun S H' as Z => ?_⟩
        let G' : Hp := fun c => if c ∈ as then H' c else G2 c
        have nas : ∀ c ∈ as, H2 c = none := Zipped.mem (fun _ _ h => h.1) Z.prs
        have gG : Same G2 G' := fun c o hcs => by
          show (if c ∈ as then H' c else G2 c) = some o
          rw [if_neg fun hm => by rw [x2.s.free (nas c hm)] at hcs; cases hcs]
          exact hcs
        have hSn : S ∉ as := Zipped.notin (fun p h => h.2.1 rfl) Z.prs
        have x3 : Ext G2 H2 G' H' := ⟨gG, Z.same, fun c o hcs => by
          have hcs : (if c ∈ as then H' c else G2 c) = some o := hcs
          by_cases hm : c ∈ as
          · rw [if_pos hm] at hcs; exact hcs
          · rw [if_neg hm] at hcs; exact Z.same _ _ (x2.s _ _ hcs), fun c hcn => by
          by_cases hm : c ∈ as
          · exact .inr (nas c hm)
          · refine .inl ?_
            have hcn : (if c ∈ as then H' c else G2 c) ≠ none := hcn
            rw [if_neg hm] at hcn; exact hcn⟩
        have hH2S := Z.fr
        refine k S G' H' ((x1.trans x2).trans x3) ?_ ((x1.trans x2).h.free hH2S) (.lst Z.lst ?_)
        · show (if S ∈ as then H' S else G2 S) = none
          rw [if_neg hSn]
          exact x2.s.free hH2S
        · refine Zipped.rps (H' := H') (fun a p h => ?_) (Paired.memf Z.prs) (a2.mono gG) (b2.mono gG)
          show (if a ∈ as then H' a else G2 a) = _
          rw [if_pos h.1]
          exact h.2.2.2
  · cases q
end
end Z

set_option Elab.async false
set_option linter.all false
set_option maxRecDepth 100000
set_option maxHeartbeats 4000000
/-! ZH: what the top has left, and a law's end -/
namespace Z
open PySem L2
/-- the head's facts, and one more Bool -/
def hookZ (n : Nat) (fa : List He.Fa) (fn : List He.DefD) (xb : PySem.W.Frag → Bool) : PySem.W.Hook where
  α := Bool × He.AlD
  obs := fun s => (xb (He.frG s.heap.get? (He.asD s.heap.get? n)), He.obsDG n fa fn s.heap.get?)
  val := fun _ => (true, He.valD fn)
  says := fun _ h => ∃ K : PySem.W.Frag, K.In h ∧ xb K = true ∧ He.SaysD fa fn K
  of := fun _ _ e => ⟨_, He.frG_in, congrArg Prod.fst e, congrArg Prod.snd e⟩
  keeps := fun _ _ _ ⟨K, hK, b, c⟩ k => ⟨K, PySem.W.Frag.In.keeps hK k, b, c⟩
def obZ (n : Nat) (fa : List He.Fa) (fn : List He.DefD) (xb : PySem.W.Frag → Bool) (s : PySem.W.SharedT) : Bool × He.AlD :=
  (xb (He.frG (HandSHeadRun.getT s) (He.asD (HandSHeadRun.getT s) n)), He.obsDG n fa fn (HandSHeadRun.getT s))
theorem obZ_eq (n : Nat) (fa : List He.Fa) (fn : List He.DefD) (xb : PySem.W.Frag → Bool) (s : PySem.W.SharedT) : obZ n fa fn xb s = (hookZ n fa fn xb).obs s.abs := by
  have e : HandSHeadRun.getT s = s.abs.heap.get? := funext (HandSHeadRun.getT_eq s)
  unfold obZ hookZ
  rw [e]
/-- no list in the written part -/
def noLst (K : PySem.W.Frag) : Bool := K.all fun q => match q.2.cls with
  | .type n => !(n == "list")
  | _ => true
theorem lookup_mem {a : Addr} {o : Obj} : ∀ {l : List (Addr × Obj)}, l.lookup a = some o → (a, o) ∈ l
  | [], h => nomatch h
  | (b, u) :: r, h => by
    rw [List.lookup_cons] at h
    split at h
    · rename_i q
      cases h
      rw [beq_iff_eq.mp q]
      exact List.mem_cons_self
    · exact List.mem_cons_of_mem _ (lookup_mem h)
theorem noLst_rd {K : PySem.W.Frag} (h : noLst K = true) {H : Hp} {a : Addr} {xs : List V} (q : SqL K H a xs) : Rd H a (.lst xs) := by
  rcases q with q | ⟨o, its, n, hk, hc, _⟩
  · exact q
  · have := List.all_eq_true.mp h _ (lookup_mem (show (K : List (Addr × Obj)).lookup a = some o from hk))
    rw [hc] at this
    simp at this
/-- a def of the text stands where its name says -/
def Ft (K : PySem.W.Frag) (mg : Str → Option Value) (x : Str) (st : Stmt) (ps : List Str) : Prop := ∃ f fd, Fun K x x st f fd ∧ mg x = some (.ref f) ∧ ∀ (s : Shared) (us : List Value), us.length = ps.length → BindsTo s fd ⟨us, []⟩ (ps.zip us)
theorem Ft.mk {K : PySem.W.Frag} {mg : Str → Option Value} {x : Str} {st : Stmt} {ps : List Str} {f : Addr} (F : ∃ fd, FunD K x x (defArgs st) (defBody st) (defScope st) [] [] f fd) (hm : mg x = some (.ref f))
    (hb : ∀ (kV doc pm : Value) (an : Option Addr) (cdv ct : Value) (us : List Value), us.length = ps.length → bindArgs (PySem.W.fnOf x x (defArgs st) (defBody st) (defScope st) .none kV doc pm an cdv ct) ⟨us, []⟩ = pure (ps.zip us)) : Ft K mg x st ps := by
  obtain ⟨fd, F⟩ := F
  obtain ⟨oc, od, dV, kV, doc, pm, an, cdv, ct, osl, rfl, lk, hcd, hD, _⟩ := F.ex
  rcases hD with ⟨_, rfl⟩ | ⟨e, _⟩
  · exact ⟨f, _, ⟨⟨oc, od, kV, doc, pm, an, cdv, ct, osl, rfl, lk, hcd⟩, F.kp⟩, hm, fun s us hl => .of_eq (hb kV doc pm an cdv ct us hl)⟩
  · exact absurd rfl e
section
variable {P : Program} {w : World} {K : PySem.W.Frag} {mg : Str → Option Value} {base : Heap} {n : Nat} {x : Str} {st : Stmt} {ps : List Str} {g : List D → Option D}
theorem Kn.zero (F : Ft K mg x st ps) : Kn P w K mg base 0 x ps (fun _ => none) := by
  obtain ⟨f, fd, F, hm, hb⟩ := F
  refine ⟨f, fd, ⟨fun vs H Q E ⟨G, ds, r, _, _, _, h, _⟩ => (nomatch h), fun A outer s H args us vs Q _ _ _ _ ⟨G, ds, r, _, _, _, h, _⟩ => (nomatch h)⟩, hm, F.kp, fun s us _ hl => ?_⟩
  rw [List.append_nil] at hl ⊢
  exact hb s us hl
theorem Kn.succ (F : Ft K mg x st ps) (h : ∀ f fd, Fun K x x st f fd → FnZ P w K mg base (n + 1) f fd ps (spZ K ps.length g)) : Kn P w K mg base (n + 1) x ps g := by
  obtain ⟨f, fd, F, hm, hb⟩ := F
  refine ⟨f, fd, h f fd F, hm, F.kp, fun s us _ hl => ?_⟩
  rw [List.append_nil] at hl ⊢
  exact hb s us hl
end
/-! ### constants of the module, from the head's facts -/
section
variable {K : PySem.W.Frag} {h : Heap} {mg : Str → Option Value} {x : Str}
theorem glob_int {i : Int} (X : K.In h) (G : h.Ns mainGlobals mg) (c : (He.Fa.int x i).ok K = true) : GlobC K mg x (.int i) := by
  obtain ⟨t, e⟩ := He.int_ok X G c
  exact ⟨.int i, _, e, ⟨_, rfl⟩, fun _ => .int i⟩
theorem glob_str {z : Str} (X : K.In h) (G : h.Ns mainGlobals mg) (c : (He.Fa.str x z).ok K = true) : GlobC K mg x (.str z) := by
  obtain ⟨t, e⟩ := He.str_ok X G c
  exact ⟨.str z, _, e, ⟨_, rfl⟩, fun _ => .str z⟩
theorem glob_tup {vs : List He.Dv} {ds : List D} (X : K.In h) (G : h.Ns mainGlobals mg) (c : (He.Fa.glo x).ok K = true) (b : He.tupB K x vs = true) (r : ∀ G, RpA K G (vs.map (He.Dv.v K)) ds) : GlobC K mg x (.tuple ds) :=
  ⟨.ref (He.ga K x), _, He.glo_ok X G c, rfl, fun H => .tup (He.tupB_ok b H) (r H)⟩
end
/-- a law's end -/
theorem end_of {P : Program} {w : World} {K : PySem.W.Frag} {mg : Str → Option Value} {n k : Nat} {st : Stmt} {g : List D → Option D} {fa : Addr} (F : Ft K mg "law" st ["script"]) (hm : mg ("law" : Str) = some (.ref fa)) (hn : noLst K = true)
    (hk : ∀ (base : Heap) (f : Addr) (fd : FuncData), Fun K "law" "law" st f fd → FnZ P w K mg base n f fd ["script"] (spZ K 1 g)) (hg : ∀ ns : List Int, ns.length ≤ 63 → g [.list (ns.map .int)] = some (.bool true)) (h1 : n + 15 ≤ 3 * k) (h2 : 3 * n + 200 ≤ 16 * k) :
    ∃ (fd : FuncData) (sp : Sp), (∀ (s : Shared) (u : Value), BindsTo s fd ⟨[u], []⟩ [("script", u)]) ∧
      (∀ (H : Hp) (a : Addr) (ns : List Int), ns.length ≤ 63 → Only H → SqL K H a (ns.map V.int) → sp [.ref a] H (fun v _ => v = .bl true) fun _ _ _ => False) ∧ ∀ base : Heap, FnOk P w K mg base CX0 k fa fd ["script"] sp := by
  obtain ⟨f, fd, F, hm2, hb⟩ := F
  rw [hm] at hm2
  cases hm2
  refine ⟨fd, spZ K 1 g, fun s u => hb s [u] rfl, fun H a ns hl _ hS => ?_, fun base => ?_⟩
  · exact ⟨H, _, _, .refl _, .cons (.lst (noLst_rd hn hS) (RpA.ints ns)) .nil, rfl, hg ns hl, fun v G' H' _ r => by cases r; rfl⟩
  · exact (hk base _ _ F).ok (fun vs H Q E h => h) h1 h2
end Z

set_option Elab.async false
set_option linter.all false
set_option maxRecDepth 100000
set_option maxHeartbeats 4000000
/-! ZE: the denotations evaluated: rows for simp -/
namespace Z
open PySem L2
/-! helpers that wait for what is known -/
def thenR (r : Option Re) (g : En → Option Re) : Option Re := r.bind fun r => match r with | .nx e => g e | .rt d => some (.rt d)
@[simp] theorem thenR_nx (e : En) (g : En → Option Re) : thenR (some (.nx e)) g = g e := rfl
@[simp] theorem thenR_rt (d : D) (g : En → Option Re) : thenR (some (.rt d)) g = some (.rt d) := rfl
def outR (r : Option Re) : Option D := r.bind fun r => match r with | .rt d => some d | .nx _ => some .none
@[simp] theorem outR_rt (d : D) : outR (some (.rt d)) = some d := rfl
@[simp] theorem outR_nx (e : En) : outR (some (.nx e)) = some .none := rfl
def op2 (o : D → D → Option D) (a b : Option D) : Option D := a.bind fun x => b.bind fun y => o x y
@[simp] theorem op2_s (o : D → D → Option D) (x y : D) : op2 o (some x) (some y) = o x y := rfl
def boO (a : Option D) : Option Bool := a.bind fun d => match d with | .bool b => some b | _ => none
@[simp] theorem boO_s (b : Bool) : boO (some (.bool b)) = some b := rfl
def consO (a : Option D) (r : Option (List D)) : Option (List D) := a.bind fun x => r.bind fun r => some (x :: r)
@[simp] theorem consO_s (x : D) (r : List D) : consO (some x) (some r) = some (x :: r) := rfl
def cbO (o : List D → Option D) (r : Option (List D)) : Option D := r.bind o
@[simp] theorem cbO_s (o : List D → Option D) (r : List D) : cbO o (some r) = o r := rfl
def op1 (o : D → Option D) (r : Option D) : Option D := r.bind o
@[simp] theorem op1_s (o : D → Option D) (r : D) : op1 o (some r) = o r := rfl
def tupO (r : Option (List D)) : Option D := r.bind fun ds => if ds.length ≤ sizeLine then some (.tuple ds) else none
def lstO (r : Option (List D)) : Option D := r.bind fun ds => if ds.length ≤ sizeLine then some (.list ds) else none
theorem sz {n : Nat} (h : n ≤ 1000000) : n ≤ sizeLine := by rw [PySem.sizeLine_eq]; omega
theorem szl {n : Nat} (h : n < 1000000) : n < sizeLine := by rw [PySem.sizeLine_eq]; omega
theorem tupO_s {r : List D} (h : r.length ≤ 1000000) : tupO (some r) = some (.tuple r) := by
  show (if r.length ≤ sizeLine then some (PyData.tuple r) else none) = _
  rw [if_pos (sz h)]
theorem lstO_s {r : List D} (h : r.length ≤ 1000000) : lstO (some r) = some (.list r) := by
  show (if r.length ≤ sizeLine then some (PyData.list r) else none) = _
  rw [if_pos (sz h)]
@[simp] theorem tupO_0 : tupO (some []) = some (.tuple []) := tupO_s (by simp)
@[simp] theorem tupO_1 (a : D) : tupO (some [a]) = some (.tuple [a]) := tupO_s (by simp)
@[simp] theorem tupO_2 (a b : D) : tupO (some [a, b]) = some (.tuple [a, b]) := tupO_s (by simp)
@[simp] theorem tupO_3 (a b c : D) : tupO (some [a, b, c]) = some (.tuple [a, b, c]) := tupO_s (by simp)
@[simp] theorem tupO_4 (a b c d : D) : tupO (some [a, b, c, d]) = some (.tuple [a, b, c, d]) := tupO_s (by simp)
@[simp] theorem tupO_5 (a b c d e : D) : tupO (some [a, b, c, d, e]) = some (.tuple [a, b, c, d, e]) := tupO_s (by simp)
@[simp] theorem tupO_6 (a b c d e f : D) : tupO (some [a, b, c, d, e, f]) = some (.tuple [a, b, c, d, e, f]) := tupO_s (by simp)
@[simp] theorem lstO_0 : lstO (some []) = some (.list []) := lstO_s (by simp)
@[simp] theorem lstO_1 (a : D) : lstO (some [a]) = some (.list [a]) := lstO_s (by simp)
@[simp] theorem lstO_2 (a b : D) : lstO (some [a, b]) = some (.list [a, b]) := lstO_s (by simp)
@[simp] theorem lstO_3 (a b c : D) : lstO (some [a, b, c]) = some (.list [a, b, c]) := lstO_s (by simp)
@[simp] theorem lstO_4 (a b c d : D) : lstO (some [a, b, c, d]) = some (.list [a, b, c, d]) := lstO_s (by simp)
@[simp] theorem lstO_5 (a b c d e : D) : lstO (some [a, b, c, d, e]) = some (.list [a, b, c, d, e]) := lstO_s (by simp)
@[simp] theorem lstO_6 (a b c d e f : D) : lstO (some [a, b, c, d, e, f]) = some (.list [a, b, c, d, e, f]) := lstO_s (by simp)
def isiO (pf : D → Bool) (r : Option D) : Option D := r.bind fun d => some (.bool (pf d))
@[simp] theorem isiO_s (pf : D → Bool) (r : D) : isiO pf (some r) = some (.bool (pf r)) := rfl
def pIntO (r : Option D) : Option (Option Int) := r.bind fun d => match d with | .int i => some (some i) | _ => none
@[simp] theorem pIntO_s (i : Int) : pIntO (some (.int i)) = some (some i) := rfl
def slO (a : Option D) (l h : Option (Option Int)) : Option D := a.bind fun x => l.bind fun l => h.bind fun h => oSl x l h
@[simp] theorem slO_s (a : D) (l h : Option Int) : slO (some a) (some l) (some h) = oSl a l h := rfl
def andV (a : Option D) (fb : En → Option D) (env : En) : Option D := a.bind fun d => match d with | .bool true => fb env | .bool false => some (.bool false) | _ => none
@[simp] theorem andV_t (fb : En → Option D) (env : En) : andV (some (.bool true)) fb env = fb env := rfl
@[simp] theorem andV_f (fb : En → Option D) (env : En) : andV (some (.bool false)) fb env = some (.bool false) := rfl
def orV (a : Option D) (fb : En → Option D) (env : En) : Option D := a.bind fun d => match d with | .bool false => fb env | .bool true => some (.bool true) | _ => none
@[simp] theorem orV_f (fb : En → Option D) (env : En) : orV (some (.bool false)) fb env = fb env := rfl
@[simp] theorem orV_t (fb : En → Option D) (env : En) : orV (some (.bool true)) fb env = some (.bool true) := rfl
def notO (a : Option D) : Option D := a.bind fun d => match d with | .bool b => some (.bool (!b)) | _ => none
@[simp] theorem notO_s (b : Bool) : notO (some (.bool b)) = some (.bool (!b)) := rfl
def negO (a : Option D) : Option D := a.bind fun d => match d with | .int i => some (.int (-i)) | _ => none
@[simp] theorem negO_s (i : Int) : negO (some (.int i)) = some (.int (-i)) := rfl
def andB (a : Option Bool) (cb : En → Option Bool) (env : En) : Option Bool := a.bind fun b => if b then cb env else some false
@[simp] theorem andB_t (cb : En → Option Bool) (env : En) : andB (some true) cb env = cb env := rfl
@[simp] theorem andB_f (cb : En → Option Bool) (env : En) : andB (some false) cb env = some false := rfl
def orB (a : Option Bool) (cb : En → Option Bool) (env : En) : Option Bool := a.bind fun b => if b then some true else cb env
@[simp] theorem orB_t (cb : En → Option Bool) (env : En) : orB (some true) cb env = some true := rfl
@[simp] theorem orB_f (cb : En → Option Bool) (env : En) : orB (some false) cb env = cb env := rfl
def ifR (c : Option Bool) (f g : En → Option Re) (env : En) : Option Re := c.bind fun b => if b then f env else g env
@[simp] theorem ifR_t (f g : En → Option Re) (env : En) : ifR (some true) f g env = f env := rfl
@[simp] theorem ifR_f (f g : En → Option Re) (env : En) : ifR (some false) f g env = g env := rfl
def asgR (d : Option D) (h : D → En → Option En) (env : En) : Option Re := d.bind fun d => (h d env).map .nx
@[simp] theorem asgR_s (d : D) (h : D → En → Option En) (env : En) : asgR (some d) h env = (h d env).map .nx := rfl
def ownR (d : Option D) (i : Nat) (env : En) : Option Re := d.map fun d => .nx (env.set i (.ow d))
@[simp] theorem ownR_s (d : D) (i : Nat) (env : En) : ownR (some d) i env = some (.nx (env.set i (.ow d))) := rfl
def appR (d : Option D) (s : Option Sl) (i : Nat) (env : En) : Option Re := d.bind fun d => match s with | some (.ow (.list ds)) => if ds.length < sizeLine then some (.nx (env.set i (.ow (.list (ds ++ [d]))))) else none | _ => none
theorem appR_s {d : D} {ds : List D} {i : Nat} {env : En} (h : ds.length < 1000000) : appR (some d) (some (.ow (.list ds))) i env = some (.nx (env.set i (.ow (.list (ds ++ [d]))))) := by
  show (if ds.length < sizeLine then _ else _) = _
  rw [if_pos (szl h)]
def extR (d : Option D) (s : Option Sl) (i : Nat) (env : En) : Option Re := d.bind fun d => match s, d with | some (.ow (.list ds)), .list es => if ds.length + es.length ≤ sizeLine then some (.nx (env.set i (.ow (.list (ds ++ es))))) else none | _, _ => none
theorem extR_s {es ds : List D} {i : Nat} {env : En} (h : ds.length + es.length ≤ 1000000) : extR (some (.list es)) (some (.ow (.list ds))) i env = some (.nx (env.set i (.ow (.list (ds ++ es))))) := by
  show (if ds.length + es.length ≤ sizeLine then _ else _) = _
  rw [if_pos (sz h)]
def putR (v k : Option D) (s : Option Sl) (i : Nat) (env : En) : Option Re := v.bind fun v => k.bind fun k => (keyOf k).bind fun k => match s with | some (.ow (.dict ds)) => if ds.length < sizeLine then some (.nx (env.set i (.ow (.dict (putD ds k v))))) else none | _ => none
theorem putR_s {v k : D} {ky : Key} {ds : List (D × D)} {i : Nat} {env : En} (hk : keyOf k = some ky) (h : ds.length < 1000000) : putR (some v) (some k) (some (.ow (.dict ds))) i env = some (.nx (env.set i (.ow (.dict (putD ds ky v))))) := by
  show ((keyOf k).bind fun k => if ds.length < sizeLine then _ else _) = _
  rw [hk]
  show (if ds.length < sizeLine then _ else _) = _
  rw [if_pos (szl h)]
def seqO (r : Option D) : Option (List D) := r.bind fun d => match d with | .list ds => some ds | .tuple ds => some ds | .str z => some (signsOf z) | _ => none
@[simp] theorem seqO_l (ds : List D) : seqO (some (.list ds)) = some ds := rfl
@[simp] theorem seqO_t (ds : List D) : seqO (some (.tuple ds)) = some ds := rfl
@[simp] theorem seqO_s (z : Str) : seqO (some (.str z)) = some (signsOf z) := rfl
def rng1O (r : Option D) : Option (List D) := r.bind fun d => match d with | .int j => if -(2 ^ 62) ≤ j ∧ j < 2 ^ 62 then some (rangeD 0 j.toNat) else none | _ => none
theorem p62 : (2 : Int) ^ 62 = 4611686018427387904 := by decide
theorem rng1O_s {j : Int} (h0 : 0 ≤ j) (h : j ≤ 1000000) : rng1O (some (.int j)) = some (rangeD 0 j.toNat) := by
  have e : -4611686018427387904 ≤ j ∧ j < 4611686018427387904 := ⟨by omega, by omega⟩
  simp only [rng1O, Option.bind_some, p62, e, and_self, if_true]
def rng2O (r e : Option D) : Option (List D) := r.bind fun d => e.bind fun e => match d, e with | .int i, .int j => if -(2 ^ 62) ≤ i ∧ i < 2 ^ 62 ∧ -(2 ^ 62) ≤ j ∧ j < 2 ^ 62 then some (rangeD i (j - i).toNat) else none | _, _ => none
theorem rng2O_s {i j : Int} (h0 : 0 ≤ i) (h1 : i ≤ 1000000) (h2 : 0 ≤ j) (h3 : j ≤ 1000000) : rng2O (some (.int i)) (some (.int j)) = some (rangeD i (j - i).toNat) := by
  have e : -4611686018427387904 ≤ i ∧ i < 4611686018427387904 ∧ -4611686018427387904 ≤ j ∧ j < 4611686018427387904 := ⟨by omega, by omega, by omega, by omega⟩
  simp only [rng2O, Option.bind_some, p62, e, and_self, if_true]
def enumO (r : Option D) : Option (List D) := r.bind fun d => match d with | .list ds => some (enumD 0 ds) | _ => none
@[simp] theorem enumO_l (ds : List D) : enumO (some (.list ds)) = some (enumD 0 ds) := rfl
def zipO (r e : Option D) : Option (List D) := r.bind fun d => e.bind fun e => match d, e with | .list as, .list bs => some (zipD as bs) | .tuple as, .tuple bs => some (zipD as bs) | _, _ => none
@[simp] theorem zipO_l (as bs : List D) : zipO (some (.list as)) (some (.list bs)) = some (zipD as bs) := rfl
@[simp] theorem zipO_t (as bs : List D) : zipO (some (.tuple as)) (some (.tuple bs)) = some (zipD as bs) := rfl
def forO (ds : Option (List D)) (tgt : D → En → Option En) (f : En → Option Re) (env : En) : Option Re := ds.bind fun ds => forF tgt f ds env
@[simp] theorem forO_s (ds : List D) (tgt : D → En → Option En) (f : En → Option Re) (env : En) : forO (some ds) tgt f env = forF tgt f ds env := rfl
def lcO (ds : Option (List D)) (vs : List Nat) (tgt : D → En → Option En) (c : En → Option Bool) (fa : En → Option D) (env : En) : Option D := ds.bind fun ds => if ds.length ≤ sizeLine then (lcF tgt c fa ds (wipeE env vs)).map .list else none
theorem lcO_s {ds : List D} {vs : List Nat} {tgt : D → En → Option En} {c : En → Option Bool} {fa : En → Option D} {env : En} (h : ds.length ≤ 1000000) : lcO (some ds) vs tgt c fa env = (lcF tgt c fa ds (wipeE env vs)).map .list := by
  show (if ds.length ≤ sizeLine then _ else _) = _
  rw [if_pos (sz h)]
def get2O (x y z : Option D) : Option D := x.bind fun x => y.bind fun y => z.bind fun z => match x with | .dict kvs => (keyOf y).bind fun k => some ((dLook kvs k).getD z) | _ => none
@[simp] theorem get2O_s (kvs : List (D × D)) (y z : D) : get2O (some (.dict kvs)) (some y) (some z) = (keyOf y).bind fun k => some ((dLook kvs k).getD z) := rfl
def slotI (s : Option Sl) : Option D := match s with | some (.im d) => some d | _ => none
@[simp] theorem slotI_s (d : D) : slotI (some (.im d)) = some d := rfl
def slotT (s : Option Sl) : Option D := match s with | some (.im d) => some d | some (.ow d) => some d | _ => none
@[simp] theorem slotT_i (d : D) : slotT (some (.im d)) = some d := rfl
@[simp] theorem slotT_o (d : D) : slotT (some (.ow d)) = some d := rfl
def chnO (o o' : D → D → Option D) (a b : Option D) (fc : En → Option D) (env : En) : Option D := a.bind fun x => b.bind fun y => (o x y).bind fun z => match z with | .bool true => (fc env).bind fun w => o' y w | .bool false => some (.bool false) | _ => none
section
variable {env : En} {i : Nat} {fa fb fc : En → Option D} {fr : En → Option (List D)} {f g : En → Option Re} {c ca cb : En → Option Bool} {a b : D}
@[simp] theorem ev_dDef (nn : Nat) (body : En → Option Re) (ds : List D) : dDef nn body ds = outR (body (ds.map .im ++ List.replicate (nn - ds.length) .no)) := rfl
@[simp] theorem ev_dC (d : D) : dC d env = some d := rfl
@[simp] theorem ev_dVar : dVar i env = slotI env[i]? := rfl
@[simp] theorem ev_dVarT : dVarT i env = slotT env[i]? := rfl
@[simp] theorem ev_dOp2 (o : D → D → Option D) : dOp2 o fa fb env = op2 o (fa env) (fb env) := rfl
@[simp] theorem ev_dOp1 (o : D → Option D) : dOp1 o fa env = op1 o (fa env) := rfl
@[simp] theorem ev_bOf : bOf fa env = boO (fa env) := rfl
@[simp] theorem ev_dNil : dNil env = some [] := rfl
@[simp] theorem ev_dCons : dCons fa fr env = consO (fa env) (fr env) := rfl
@[simp] theorem ev_dCB (o : List D → Option D) : dCB o fr env = cbO o (fr env) := rfl
@[simp] theorem ev_dTup : dTup fr env = tupO (fr env) := rfl
@[simp] theorem ev_dLst : dLst fr env = lstO (fr env) := rfl
@[simp] theorem ev_dDict0 : dDict0 env = some (.dict []) := rfl
@[simp] theorem ev_dIsi (pf : D → Bool) : dIsi pf fa env = isiO pf (fa env) := rfl
@[simp] theorem ev_pNone : pNone env = some none := rfl
@[simp] theorem ev_pInt : pInt fa env = pIntO (fa env) := rfl
@[simp] theorem ev_dSl (fl fh : En → Option (Option Int)) : dSl fa fl fh env = slO (fa env) (fl env) (fh env) := rfl
@[simp] theorem ev_dAndV : dAndV fa fb env = andV (fa env) fb env := rfl
@[simp] theorem ev_dOrV : dOrV fa fb env = orV (fa env) fb env := rfl
@[simp] theorem ev_dNotV : dNotV fa env = notO (fa env) := rfl
@[simp] theorem ev_dNeg : dNeg fa env = negO (fa env) := rfl
@[simp] theorem ev_bAnd : bAnd ca cb env = andB (ca env) cb env := rfl
@[simp] theorem ev_bOr : bOr ca cb env = orB (ca env) cb env := rfl
@[simp] theorem ev_bNot : bNot ca env = (ca env).map fun b => !b := rfl
@[simp] theorem ev_bYes : bYes env = some true := rfl
@[simp] theorem ev_dChain (o o' : D → D → Option D) : dChain o o' fa fb fc env = chnO o o' (fa env) (fb env) fc env := rfl
@[simp] theorem ev_dGet2 : dGet2 fa fb fc env = get2O (fa env) (fb env) (fc env) := rfl
@[simp] theorem ev_sNil : sNil env = some (.nx env) := rfl
@[simp] theorem ev_sSeq : sSeq f g env = thenR (f env) g := rfl
@[simp] theorem ev_sRet : sRet fa env = (fa env).map .rt := rfl
@[simp] theorem ev_sIf : sIf c f g env = ifR (c env) f g env := rfl
@[simp] theorem ev_sAsg (h : D → En → Option En) : sAsg fa h env = asgR (fa env) h env := rfl
@[simp] theorem ev_sOwn : sOwn fa i env = ownR (fa env) i env := rfl
@[simp] theorem ev_sFrz : sFrz i f env = f (frz i env) := rfl
@[simp] theorem ev_frz : frz i env = env.modify i frzS := rfl
@[simp] theorem ev_frzS1 (d : D) : frzS (.ow d) = .im d := rfl
@[simp] theorem ev_frzS2 (d : D) : frzS (.im d) = .im d := rfl
@[simp] theorem ev_frzS3 : frzS .no = .no := rfl
@[simp] theorem ev_gNm (d : D) : gNm i d env = some (env.set i (.im d)) := rfl
@[simp] theorem ev_gsNil : gsNil [] env = some env := rfl
@[simp] theorem ev_gsCons (h : D → En → Option En) (r : List D → En → Option En) (d : D) (ds : List D) : gsCons h r (d :: ds) env = (h d env).bind (r ds) := rfl
@[simp] theorem ev_gTp (n : Nat) (r : List D → En → Option En) (ds : List D) : gTp n r (.tuple ds) env = if ds.length = n then r ds env else none := rfl
@[simp] theorem ev_sApp : sApp i fa env = appR (fa env) env[i]? i env := rfl
@[simp] theorem ev_sExt : sExt i fa env = extR (fa env) env[i]? i env := rfl
@[simp] theorem ev_sPut (fk : En → Option D) : sPut i fk fa env = putR (fa env) (fk env) env[i]? i env := rfl
@[simp] theorem ev_iSeq : iSeq fa env = seqO (fa env) := rfl
@[simp] theorem ev_iRange1 : iRange1 fa env = rng1O (fa env) := rfl
@[simp] theorem ev_iRange2 : iRange2 fa fb env = rng2O (fa env) (fb env) := rfl
@[simp] theorem ev_iEnumD : iEnumD fa env = enumO (fa env) := rfl
@[simp] theorem ev_iZipD : iZipD fa fb env = zipO (fa env) (fb env) := rfl
@[simp] theorem ev_sFor (fi : En → Option (List D)) (tgt : D → En → Option En) : sFor fi tgt f env = forO (fi env) tgt f env := rfl
@[simp] theorem ev_dLc (fi : En → Option (List D)) (vs : List Nat) (tgt : D → En → Option En) : dLc fi vs tgt c fa env = lcO (fi env) vs tgt c fa env := rfl
@[simp] theorem ev_wipe0 : wipeE env [] = env := rfl
@[simp] theorem ev_wipe1 (v : Nat) (vs : List Nat) : wipeE env (v :: vs) = (wipeE env vs).set v .no := rfl
@[simp] theorem ev_for0 (tgt : D → En → Option En) : forF tgt f [] env = some (.nx env) := rfl
def goFor (r : Option Re) (tgt : D → En → Option En) (f : En → Option Re) (ds : List D) : Option Re := r.bind fun r => match r with | .nx e2 => forF tgt f ds e2 | .rt v => some (.rt v)
@[simp] theorem goFor_nx (e : En) (tgt : D → En → Option En) (ds : List D) : goFor (some (.nx e)) tgt f ds = forF tgt f ds e := rfl
@[simp] theorem goFor_rt (d : D) (tgt : D → En → Option En) (ds : List D) : goFor (some (.rt d)) tgt f ds = some (.rt d) := rfl
def runO (e : Option En) (f : En → Option Re) : Option Re := e.bind f
@[simp] theorem runO_s (e : En) : runO (some e) f = f e := rfl
theorem ev_for1 (tgt : D → En → Option En) (d : D) (ds : List D) : forF tgt f (d :: ds) env = goFor (runO (tgt d env) f) tgt f ds := by
  show ((tgt d env).bind fun e => (f e).bind _) = _
  unfold goFor runO
  cases tgt d env <;> rfl
@[simp] theorem ev_lc0 (tgt : D → En → Option En) : lcF tgt c fa [] env = some [] := rfl
def keepO (b : Option Bool) (y : Option D) (r : Option (List D)) : Option (List D) := b.bind fun b => if b then y.bind fun y => r.bind fun r => some (y :: r) else r
@[simp] theorem keepO_t (y : D) (r : List D) : keepO (some true) (some y) (some r) = some (y :: r) := rfl
@[simp] theorem keepO_f (y : Option D) (r : Option (List D)) : keepO (some false) y r = r := rfl
def lcT (e : Option En) (c : En → Option Bool) (fa : En → Option D) (r : Option (List D)) : Option (List D) := e.bind fun e => keepO (c e) (fa e) r
@[simp] theorem lcT_s (e : En) (r : Option (List D)) : lcT (some e) c fa r = keepO (c e) (fa e) r := rfl
theorem ev_lc1 (tgt : D → En → Option En) (d : D) (ds : List D) : lcF tgt c fa (d :: ds) env = lcT (tgt d env) c fa (lcF tgt c fa ds env) := rfl
/-! operations -/
@[simp] theorem ev_addI (a b : Int) : oAdd (.int a) (.int b) = some (.int (a + b)) := rfl
@[simp] theorem ev_addS (a b : Str) : oAdd (.str a) (.str b) = if a.length + b.length ≤ sizeLine then some (.str (a ++ b)) else none := rfl
@[simp] theorem ev_addL (a b : List D) : oAdd (.list a) (.list b) = if a.length + b.length ≤ sizeLine then some (.list (a ++ b)) else none := rfl
@[simp] theorem ev_addT (a b : List D) : oAdd (.tuple a) (.tuple b) = if a.length + b.length ≤ sizeLine then some (.tuple (a ++ b)) else none := rfl
@[simp] theorem ev_sub (a b : Int) : oSub (.int a) (.int b) = some (.int (a - b)) := rfl
@[simp] theorem ev_div (a b : Int) : oDiv (.int a) (.int b) = if 0 < b ∧ b < 1073741824 then some (.int (a / b)) else none := rfl
@[simp] theorem ev_mod (a b : Int) : oMod (.int a) (.int b) = if 0 < b then some (.int (a % b)) else none := rfl
@[simp] theorem ev_mulL (a : List D) (b : Int) : oMulZ (.list a) (.int b) = if -(2 ^ 63) ≤ b ∧ b < 2 ^ 63 ∧ a.length * b.toNat ≤ sizeLine then some (.list (List.replicate b.toNat a).flatten) else none := rfl
@[simp] theorem ev_mulI (a b : Int) : oMulZ (.int a) (.int b) = if (-(2 ^ 64) < a ∧ a < 2 ^ 64) ∨ (-(2 ^ 64) < b ∧ b < 2 ^ 64) then some (.int (a * b)) else none := rfl
theorem ev_mulS {a b : Int} (h0 : 0 ≤ a) (h1 : a < 4294967296) : oMulZ (.int a) (.int b) = some (.int (a * b)) := by
  rw [ev_mulI, if_pos (.inl ⟨by omega, by omega⟩)]
@[simp] theorem ev_eqI (a b : Int) : oEq (.int a) (.int b) = some (.bool (decide (a = b))) := rfl
@[simp] theorem ev_eqS (a b : Str) : oEq (.str a) (.str b) = some (.bool (decide (a = b))) := rfl
@[simp] theorem ev_neI (a b : Int) : oNe (.int a) (.int b) = some (.bool (!decide (a = b))) := rfl
@[simp] theorem ev_neS (a b : Str) : oNe (.str a) (.str b) = some (.bool (!decide (a = b))) := rfl
@[simp] theorem ev_lt (a b : Int) : oLt (.int a) (.int b) = some (.bool (decide (a < b))) := rfl
@[simp] theorem ev_le (a b : Int) : oLe (.int a) (.int b) = some (.bool (decide (a ≤ b))) := rfl
@[simp] theorem ev_gt (a b : Int) : oGt (.int a) (.int b) = some (.bool (decide (b < a))) := rfl
@[simp] theorem ev_ge (a b : Int) : oGe (.int a) (.int b) = some (.bool (decide (b ≤ a))) := rfl
@[simp] theorem ev_is (a : D) : oIs a .none = some (.bool (isNoneD a)) := rfl
@[simp] theorem ev_isnot (a : D) : oIsNot a .none = some (.bool (!isNoneD a)) := rfl
@[simp] theorem ev_ixL (ds : List D) (i : Int) : oIx (.list ds) (.int i) = atI ds i := rfl
@[simp] theorem ev_ixT (ds : List D) (i : Int) : oIx (.tuple ds) (.int i) = atI ds i := rfl
@[simp] theorem ev_ixD (ds : List (D × D)) (k : D) : oIx (.dict ds) k = (keyOf k).bind (dLook ds) := by cases k <;> rfl
@[simp] theorem ev_slL (ds : List D) (l h : Option Int) : oSl (.list ds) l h = some (.list (cutD ds l h)) := rfl
@[simp] theorem ev_slT (ds : List D) (l h : Option Int) : oSl (.tuple ds) l h = some (.tuple (cutD ds l h)) := rfl
@[simp] theorem ev_lenL (ds : List D) : oLen [.list ds] = some (.int ds.length) := rfl
@[simp] theorem ev_lenT (ds : List D) : oLen [.tuple ds] = some (.int ds.length) := rfl
@[simp] theorem ev_lenD (ds : List (D × D)) : oLen [.dict ds] = some (.int ds.length) := rfl
@[simp] theorem ev_strS (x : Str) : oStr [.str x] = some (.str x) := rfl
@[simp] theorem ev_strI (i : Int) : oStr [.int i] = if i.natAbs < 10 ^ 20 then some (.str (toString i)) else none := rfl
@[simp] theorem ev_intI (i : Int) : oInt [.int i] = some (.int i) := rfl
@[simp] theorem ev_intB (b : Bool) : oInt [.bool b] = some (.int (if b then 1 else 0)) := rfl
@[simp] theorem ev_listL (ds : List D) : oList [.list ds] = some (.list ds) := rfl
@[simp] theorem ev_listT (ds : List D) : oList [.tuple ds] = some (.list ds) := rfl
@[simp] theorem ev_tupL (ds : List D) : oTuple [.list ds] = some (.tuple ds) := rfl
@[simp] theorem ev_tupT (ds : List D) : oTuple [.tuple ds] = some (.tuple ds) := rfl
@[simp] theorem ev_all (ds : List D) : oAll [.list ds] = (boolsOf ds).map fun bs => .bool (bs.all fun b => b) := rfl
@[simp] theorem ev_inT (x : Str) (ds : List D) : oIn (.str x) (.tuple ds) = (strsOf ds).bind fun ys => some (.bool (decide (x ∈ ys))) := rfl
@[simp] theorem ev_strs0 : strsOf [] = some [] := rfl
@[simp] theorem ev_strs1 (x : Str) (r : List D) : strsOf (.str x :: r) = (strsOf r).map (x :: ·) := rfl
@[simp] theorem ev_isTup1 (ds : List D) : isTup (.tuple ds) = true := rfl
@[simp] theorem ev_isTup2 (i : Int) : isTup (.int i) = false := rfl
@[simp] theorem ev_isTup3 (x : Str) : isTup (.str x) = false := rfl
@[simp] theorem ev_isInt1 (i : Int) : isInt (.int i) = true := rfl
@[simp] theorem ev_isInt2 (x : Str) : isInt (.str x) = false := rfl
@[simp] theorem ev_isInt3 (ds : List D) : isInt (.tuple ds) = false := rfl
@[simp] theorem ev_isInt4 : isInt .none = false := rfl
@[simp] theorem ev_isStr1 (i : Int) : isStr (.int i) = false := rfl
@[simp] theorem ev_isStr2 (x : Str) : isStr (.str x) = true := rfl
@[simp] theorem ev_isStr3 (ds : List D) : isStr (.tuple ds) = false := rfl
@[simp] theorem ev_isN1 : isNoneD .none = true := rfl
@[simp] theorem ev_isN2 (i : Int) : isNoneD (.int i) = false := rfl
@[simp] theorem ev_isN3 (x : List D) : isNoneD (.tuple x) = false := rfl
@[simp] theorem ev_key1 (i : Int) : keyOf (.int i) = some (.inl i) := rfl
@[simp] theorem ev_key2 (x : Str) : keyOf (.str x) = some (.inr x) := rfl
/-- an item by a natural place -/
theorem atI_ofNat {α : Type} {l : List α} {i : Nat} : atI l (i : Int) = l[i]? := by
  unfold atI ixN
  by_cases h : i < l.length
  · rw [if_pos (by omega), if_pos (by omega)]
    simp
  · rw [if_pos (by omega), if_neg (by omega), List.getElem?_eq_none (by omega)]
    rfl
@[simp] theorem atI_0 {α : Type} {l : List α} : atI l 0 = l[0]? := atI_ofNat (i := 0)
@[simp] theorem atI_1 {α : Type} {l : List α} : atI l 1 = l[1]? := atI_ofNat (i := 1)
@[simp] theorem atI_2 {α : Type} {l : List α} : atI l 2 = l[2]? := atI_ofNat (i := 2)
@[simp] theorem atI_3 {α : Type} {l : List α} : atI l 3 = l[3]? := atI_ofNat (i := 3)
theorem atI_nn {α : Type} {l : List α} {i : Int} (h0 : 0 ≤ i) (h : i < l.length) : ∃ x, atI l i = some x ∧ x ∈ l := by
  have e : i = ((i.toNat : Nat) : Int) := by omega
  rw [e, atI_ofNat]
  have h2 : i.toNat < l.length := by omega
  exact ⟨l[i.toNat], List.getElem?_eq_getElem h2, List.getElem_mem h2⟩
end
end Z

set_option Elab.async false
set_option linter.all false
set_option maxRecDepth 100000
set_option maxHeartbeats 4000000
/-! ZM: sums and books in plain Lean, and as data -/
namespace Z
open PySem L2
inductive Sm where
  | num (n : Int)
  | nm (x : Str)
  | op (w : Str) (a b : Sm)
  | ite (c a b : Sm)
  | call (f : Str) (as : List Sm)
mutual
def sumD : Sm → D
  | .num n => .int n
  | .nm x => .str x
  | .op w a b => .tuple [.str w, sumD a, sumD b]
  | .ite c a b => .tuple [.str "if", sumD c, sumD a, sumD b]
  | .call f as => .tuple [.str "call", .str f, .tuple (sumDs as)]
def sumDs : List Sm → List D
  | [] => []
  | a :: r => sumD a :: sumDs r
end
theorem sumDs_map : ∀ as : List Sm, sumDs as = as.map sumD
  | [] => rfl
  | a :: r => by rw [sumDs, sumDs_map r, List.map_cons]
theorem sumDs_length (as : List Sm) : (sumDs as).length = as.length := by rw [sumDs_map, List.length_map]
theorem sumDs_append (a b : List Sm) : sumDs (a ++ b) = sumDs a ++ sumDs b := by rw [sumDs_map, sumDs_map, sumDs_map, List.map_append]
theorem sumDs_take (n : Nat) (a : List Sm) : sumDs (a.take n) = (sumDs a).take n := by rw [sumDs_map, sumDs_map, List.map_take]
abbrev opWords : List Str := ["plus", "less", "times", "same", "under"]
/-- a sum over these names and heads, at most so deep -/
inductive WfS (ns : List Str) (hs : List (Str × Nat)) : Nat → Sm → Prop
  | num {d : Nat} {n : Int} : 0 ≤ n → n ≤ 999 → WfS ns hs d (.num n)
  | nm {d : Nat} {x : Str} : x ∈ ns → WfS ns hs d (.nm x)
  | op {d : Nat} {w : Str} {a b : Sm} : w ∈ opWords → WfS ns hs d a → WfS ns hs d b → WfS ns hs (d + 1) (.op w a b)
  | ite {d : Nat} {c a b : Sm} : WfS ns hs d c → WfS ns hs d a → WfS ns hs d b → WfS ns hs (d + 1) (.ite c a b)
  | call {d : Nat} {f : Str} {as : List Sm} : (f, as.length) ∈ hs → (∀ a ∈ as, WfS ns hs d a) → WfS ns hs (d + 1) (.call f as)
theorem WfS.mono {ns : List Str} {hs hs' : List (Str × Nat)} {d d' : Nat} {s : Sm} (h : WfS ns hs d s) (hd : d ≤ d') (hh : ∀ x ∈ hs, x ∈ hs') : WfS ns hs' d' s := by
  induction h generalizing d' with
  | num a b => exact .num a b
  | nm a => exact .nm a
  | op w _ _ ia ib =>
    obtain ⟨e, rfl⟩ : ∃ e, d' = e + 1 := ⟨d' - 1, by omega⟩
    exact .op w (ia (by omega)) (ib (by omega))
  | ite _ _ _ ic ia ib =>
    obtain ⟨e, rfl⟩ : ∃ e, d' = e + 1 := ⟨d' - 1, by omega⟩
    exact .ite (ic (by omega)) (ia (by omega)) (ib (by omega))
  | call hf _ ih =>
    obtain ⟨e, rfl⟩ : ∃ e, d' = e + 1 := ⟨d' - 1, by omega⟩
    exact .call (hh _ hf) fun a ha => ih a ha (by omega)
/-! words -/
@[simp] theorem sz1 : 1 ≤ sizeLine := sz (by decide)
@[simp] theorem sz2 : 2 ≤ sizeLine := sz (by decide)
@[simp] theorem sz3 : 3 ≤ sizeLine := sz (by decide)
@[simp] theorem sz4 : 4 ≤ sizeLine := sz (by decide)
@[simp] theorem sz5 : 5 ≤ sizeLine := sz (by decide)
@[simp] theorem sz6 : 6 ≤ sizeLine := sz (by decide)
@[simp] theorem if_call : ¬ ((Str.ofString "if") = Str.ofString "call") := by decide +kernel
@[simp] theorem call_if : ¬ ((Str.ofString "call") = Str.ofString "if") := by decide +kernel
theorem op_facts : ∀ w ∈ opWords, w ≠ "call" ∧ w ≠ "if" ∧ w.length ≤ 5 := by decide +kernel
@[simp] theorem cut1 (x : D) (r : List D) : cutD (x :: r) (some 1) none = r := by
  unfold cutD
  rw [show ((1 : Int)) = ((1 : Nat) : Int) from rfl, HT.sIx_nat, HT.sIx_none, List.length_cons, Nat.min_eq_left (by omega)]
  simp
@[simp] theorem strsOf_map (xs : List Str) : strsOf (xs.map PyData.str) = some xs := by
  induction xs with
  | nil => rfl
  | cons x r ih => rw [List.map_cons, ev_strs1, ih]; rfl
theorem ev_join {a : Str} {ys : List Str} (h : (ys.map (·.length)).sum + ys.length * a.length ≤ 16777216) : oJoin (.str a) (.list (ys.map PyData.str)) = some (.str (Txt.join a ys)) := by
  unfold oJoin
  simp only [strsOf_map, Option.bind_some, h, if_true]
theorem len_num {n : Int} (h0 : 0 ≤ n) (h1 : n ≤ 999) : (Str.ofString (toString n)).length ≤ 3 := by
  obtain ⟨k, rfl⟩ : ∃ k : Nat, n = (k : Int) := ⟨n.toNat, by omega⟩
  have e := TL.tl_num k
  have l := TL.numL_len (n := k) (k := 3) (by decide) (by omega)
  rw [← e] at l
  unfold Str.length
  rw [← Array.length_toList]
  exact l
theorem sum_short {l : List Str} {c : Nat} (h : ∀ x ∈ l, x.length ≤ c) : (l.map (·.length)).sum ≤ c * l.length := by
  induction l with
  | nil => simp
  | cons x r ih =>
    have h1 := h x (by simp)
    have h2 := ih fun y hy => h y (by simp [hy])
    simp only [List.map_cons, List.sum_cons, List.length_cons]
    rw [Nat.mul_add]
    omega
/-- names, heads, makers, books as data -/
def nmsD (ns : List Str) : D := .tuple (ns.map .str)
def headD (h : Str × Nat) : D := .tuple [.str h.1, .int (h.2 : Nat)]
def headsD (hs : List (Str × Nat)) : D := .list (hs.map headD)
@[simp] theorem ev_lenH (hs : List (Str × Nat)) : oLen [headsD hs] = some (.int hs.length) := by unfold headsD; simp
@[simp] theorem ev_ixH (hs : List (Str × Nat)) (i : Int) : oIx (headsD hs) (.int i) = atI (hs.map headD) i := rfl
@[simp] theorem ev_lenN (ns : List Str) : oLen [nmsD ns] = some (.int ns.length) := by unfold nmsD; simp
@[simp] theorem ev_ixN (ns : List Str) (i : Int) : oIx (nmsD ns) (.int i) = atI (ns.map PyData.str) i := rfl
@[simp] theorem ev_listN (ns : List Str) : oList [nmsD ns] = some (.list (ns.map .str)) := rfl
@[simp] theorem ev_gTpH (r : List D → En → Option En) (h : Str × Nat) (env : En) : gTp 2 r (headD h) env = r [.str h.1, .int (h.2 : Nat)] env := rfl
structure Mk where
  name : Str
  names : List Str
  sum : Sm
def mkD (m : Mk) : D := .tuple [.str m.name, nmsD m.names, sumD m.sum]
def bookD (b : List Mk) : D := .tuple (b.map mkD)
abbrev nameSets : List (List Str) := [["n"], ["n", "a"], ["a"], ["n", "a", "b"], [], ["a", "b"]]
def headsOf (b : List Mk) : List (Str × Nat) := b.map fun m => (m.name, m.names.length)
theorem set3 {ns : List Str} (h : ns ∈ nameSets) : ns.length ≤ 3 := by
  simp at h
  rcases h with rfl | rfl | rfl | rfl | rfl | rfl <;> decide
/-- what the laws draw: one to four makers named f, g, pow, h in turn -/
structure Drawn (b : List Mk) : Prop where
  pos : 1 ≤ b.length
  four : b.length ≤ 4
  nm : b.map (·.name) = (["f", "g", "pow", "h"] : List Str).take b.length
  sets : ∀ m ∈ b, m.names ∈ nameSets
  wf : ∀ m ∈ b, WfS m.names (headsOf b) 4 m.sum
theorem Drawn.h3 {b : List Mk} (h : Drawn b) : ∀ x ∈ headsOf b, x.2 ≤ 3 := fun x hx => by
  obtain ⟨m, hm, rfl⟩ := List.mem_map.mp hx
  exact set3 (h.sets m hm)
end Z

set_option Elab.async false
set_option linter.all false
set_option maxRecDepth 100000
set_option maxHeartbeats 4000000
/-! ZN: plain laws: comprehensions and loops as lists, equality of data, sums by their parts -/
namespace Z
open PySem L2
/-! comprehensions -/
section
variable {α : Type} {j : Nat} {c : En → Option Bool} {fa : En → Option D} {env : En}
theorem lc_map {e : α → D} {h : α → D} : ∀ {as : List α}, (∀ a ∈ as, fa (env.set j (.im (e a))) = some (h a)) → lcF (gNm j) bYes fa (as.map e) env = some (as.map h)
  | [], _ => rfl
  | a :: r, q => by
    have ih := lc_map (as := r) fun x hx => q x (List.mem_cons_of_mem _ hx)
    rw [List.map_cons, ev_lc1, ih]
    simp [q a (List.mem_cons_self ..)]
theorem lc_flt {e : α → D} {h : α → D} {p : α → Bool} : ∀ {as : List α}, (∀ a ∈ as, c (env.set j (.im (e a))) = some (p a)) → (∀ a ∈ as, p a = true → fa (env.set j (.im (e a))) = some (h a)) → lcF (gNm j) c fa (as.map e) env = some ((as.filter p).map h)
  | [], _, _ => rfl
  | a :: r, q1, q2 => by
    have ih := lc_flt (as := r) (fun x hx => q1 x (List.mem_cons_of_mem _ hx)) (fun x hx => q2 x (List.mem_cons_of_mem _ hx))
    rw [List.map_cons, ev_lc1, ih]
    simp only [ev_gNm, lcT_s, q1 a (List.mem_cons_self ..)]
    cases hp : p a with
    | true => simp [q2 a (List.mem_cons_self ..) hp, hp]
    | false => simp [hp]
theorem lc_mapT {tgt : D → En → Option En} {e : α → D} {h : α → D} : ∀ {as : List α}, (∀ a ∈ as, (tgt (e a) env).bind fa = some (h a)) → lcF tgt bYes fa (as.map e) env = some (as.map h)
  | [], _ => rfl
  | a :: r, q => by
    have ih := lc_mapT (as := r) fun x hx => q x (List.mem_cons_of_mem _ hx)
    rw [List.map_cons, ev_lc1, ih]
    have q1 := q a (List.mem_cons_self ..)
    obtain ⟨e', h1, h2⟩ := Option.bind_eq_some_iff.mp q1
    simp [h1, h2]
theorem lc_fltT {tgt : D → En → Option En} {e : α → D} {h : α → D} {p : α → Bool} : ∀ {as : List α}, (∀ a ∈ as, (tgt (e a) env).bind c = some (p a)) → (∀ a ∈ as, p a = true → (tgt (e a) env).bind fa = some (h a)) → lcF tgt c fa (as.map e) env = some ((as.filter p).map h)
  | [], _, _ => rfl
  | a :: r, q1, q2 => by
    have ih := lc_fltT (as := r) (fun x hx => q1 x (List.mem_cons_of_mem _ hx)) (fun x hx => q2 x (List.mem_cons_of_mem _ hx))
    rw [List.map_cons, ev_lc1, ih]
    obtain ⟨e', h1, h2⟩ := Option.bind_eq_some_iff.mp (q1 a (List.mem_cons_self ..))
    cases hp : p a with
    | true =>
      have q3 := q2 a (List.mem_cons_self ..) hp
      rw [h1, Option.bind_some] at q3
      simp [h1, h2, q3, hp]
    | false => simp [h1, h2, hp]
end
/-! loops -/
theorem for_run {α : Type} {e : α → D} {tgt : D → En → Option En} {body : En → Option Re} (I : List α → En → Prop) (step : ∀ a r env, I (a :: r) env → ∃ env', runO (tgt (e a) env) body = some (.nx env') ∧ I r env') :
    ∀ (as : List α) (env : En), I as env → ∃ env', forF tgt body (as.map e) env = some (.nx env') ∧ I [] env'
  | [], env, h => ⟨env, rfl, h⟩
  | a :: r, env, h => by
    obtain ⟨env1, h1, h2⟩ := step a r env h
    obtain ⟨env2, h3, h4⟩ := for_run I step r env1 h2
    refine ⟨env2, ?_, h4⟩
    rw [List.map_cons, ev_for1, h1, goFor_nx, h3]
/-- .. a loop that may return -/
theorem for_ret {α : Type} {e : α → D} {tgt : D → En → Option En} {body : En → Option Re} (I : List α → En → Prop) (Q : Re → Prop) (step : ∀ a r env, I (a :: r) env → (∃ env', runO (tgt (e a) env) body = some (.nx env') ∧ I r env') ∨ ∃ d, runO (tgt (e a) env) body = some (.rt d) ∧ Q (.rt d)) (fin : ∀ env, I [] env → Q (.nx env)) :
    ∀ (as : List α) (env : En), I as env → ∃ r, forF tgt body (as.map e) env = some r ∧ Q r
  | [], env, h => ⟨_, rfl, fin env h⟩
  | a :: r, env, h => by
    rw [List.map_cons, ev_for1]
    rcases step a r env h with ⟨env1, h1, h2⟩ | ⟨d, h1, h2⟩
    · obtain ⟨x, h3, h4⟩ := for_ret I Q step fin r env1 h2
      exact ⟨x, by rw [h1, goFor_nx, h3], h4⟩
    · exact ⟨_, by rw [h1, goFor_rt], h2⟩
/-! data that are compared -/
def okN (n : Nat) (d : D) : Prop := plain d = true ∧ PyData.canLay0 d = true ∧ d.depth ≤ n
theorem okN.ok {n : Nat} {d : D} (h : okN n d) (hn : n ≤ 64) : okD d = true := by
  unfold okD SeqAt.shaped
  rw [h.1, h.2.1, Bool.true_and, Bool.true_and]
  exact decide_eq_true (Nat.le_trans h.2.2 hn)
theorem okN.mono {n m : Nat} {d : D} (h : okN n d) (hn : n ≤ m) : okN m d := ⟨h.1, h.2.1, Nat.le_trans h.2.2 hn⟩
theorem okN_int (i : Int) {n : Nat} : okN n (.int i) := ⟨rfl, by simp [PyData.canLay0], by simp [PyData.depth]⟩
theorem okN_bool (i : Bool) {n : Nat} : okN n (.bool i) := ⟨rfl, by simp [PyData.canLay0], by simp [PyData.depth]⟩
theorem okN_none {n : Nat} : okN n .none := ⟨rfl, by simp [PyData.canLay0], by simp [PyData.depth]⟩
theorem okN_str {x : Str} (h : PyData.strOk x = true) {n : Nat} : okN n (.str x) := ⟨rfl, by simp [PyData.canLay0, h], by simp [PyData.depth]⟩
theorem okN_all {n : Nat} : ∀ {ds : List D}, (∀ d ∈ ds, okN n d) → plainAll ds = true ∧ PyData.canLayAll0 ds = true ∧ PyData.depthAll ds ≤ n
  | [], _ => ⟨rfl, by simp [PyData.canLayAll0], by simp [PyData.depthAll]⟩
  | d :: r, h => by
    obtain ⟨a1, a2, a3⟩ := h d (List.mem_cons_self ..)
    obtain ⟨b1, b2, b3⟩ := okN_all (ds := r) fun x hx => h x (List.mem_cons_of_mem _ hx)
    refine ⟨by simp [plainAll, a1, b1], by simp [PyData.canLayAll0, a2, b2], ?_⟩
    rw [PyData.depthAll]
    exact Nat.max_le.mpr ⟨a3, b3⟩
theorem okN_tup {n : Nat} {ds : List D} (h : ∀ d ∈ ds, okN n d) : okN (n + 1) (.tuple ds) := by
  obtain ⟨a, b, c⟩ := okN_all h
  exact ⟨by simp [plain, a], by simp [PyData.canLay0, b], by rw [PyData.depth]; omega⟩
theorem okN_lst {n : Nat} {ds : List D} (h : ∀ d ∈ ds, okN n d) : okN (n + 1) (.list ds) := by
  obtain ⟨a, b, c⟩ := okN_all h
  exact ⟨by simp [plain, a], by simp [PyData.canLay0, b], by rw [PyData.depth]; omega⟩
mutual
theorem eqv_refl : ∀ {d : D}, plain d = true → PyData.eqv d d = true
  | .none, _ => by simp [PyData.eqv]
  | .bool _, _ => by simp [PyData.eqv]
  | .int _, _ => by simp [PyData.eqv]
  | .str _, _ => by simp [PyData.eqv]
  | .list ds, h => by rw [PyData.eqv]; exact eqvAll_refl (by simpa [plain] using h)
  | .tuple ds, h => by rw [PyData.eqv]; exact eqvAll_refl (by simpa [plain] using h)
  | .dict _, h => by simp [plain] at h
theorem eqvAll_refl : ∀ {ds : List D}, plainAll ds = true → PyData.eqvAll ds ds = true
  | [], _ => by simp [PyData.eqvAll]
  | d :: r, h => by
    have h' := Bool.and_eq_true_iff.mp (show (plain d && plainAll r) = true from h)
    rw [PyData.eqvAll, eqv_refl h'.1, eqvAll_refl h'.2]; rfl
end
theorem oEq_ok {x y : D} (hx : okN 64 x) (hy : okN 64 y) : oEq x y = some (.bool (PyData.eqv x y)) := by
  unfold oEq
  split
  · rw [PyData.eqv]; congr 2
  · rw [PyData.eqv]; congr 2
  · rw [hx.ok (Nat.le_refl _), hy.ok (Nat.le_refl _)]; rfl
theorem oEq_self {n : Nat} {x : D} (hx : okN n x) (hn : n ≤ 64) : oEq x x = some (.bool true) := by
  rw [oEq_ok (hx.mono hn) (hx.mono hn), eqv_refl hx.1]
theorem oNe_ok {x y : D} (hx : okN 64 x) (hy : okN 64 y) : oNe x y = some (.bool (!PyData.eqv x y)) := by
  unfold oNe
  rw [oEq_ok hx hy]
mutual
/-- no truths in it: what is alike is the same -/
def clean : D → Bool
  | .bool _ => false
  | .dict _ => false
  | .list ds => cleanAll ds
  | .tuple ds => cleanAll ds
  | _ => true
def cleanAll : List D → Bool
  | [] => true
  | d :: r => clean d && cleanAll r
end
mutual
theorem eqv_iff : ∀ {x y : D}, clean x = true → clean y = true → (PyData.eqv x y = true ↔ x = y)
  | .none, y, _, hy => by cases y <;> simp_all [PyData.eqv, clean]
  | .bool _, y, hx, _ => by simp [clean] at hx
  | .int i, y, _, hy => by cases y <;> simp_all [PyData.eqv, clean]
  | .str i, y, _, hy => by cases y <;> simp_all [PyData.eqv, clean]
  | .dict _, y, hx, _ => by simp [clean] at hx
  | .list xs, y, hx, hy => by
    cases y with
    | list ys =>
      rw [PyData.eqv, eqvAll_iff (by simpa [clean] using hx) (by simpa [clean] using hy)]
      simp
    | _ => simp_all [PyData.eqv, clean]
  | .tuple xs, y, hx, hy => by
    cases y with
    | tuple ys =>
      rw [PyData.eqv, eqvAll_iff (by simpa [clean] using hx) (by simpa [clean] using hy)]
      simp
    | _ => simp_all [PyData.eqv, clean]
theorem eqvAll_iff : ∀ {xs ys : List D}, cleanAll xs = true → cleanAll ys = true → (PyData.eqvAll xs ys = true ↔ xs = ys)
  | [], [], _, _ => by simp [PyData.eqvAll]
  | [], _ :: _, _, _ => by simp [PyData.eqvAll]
  | _ :: _, [], _, _ => by simp [PyData.eqvAll]
  | x :: xs, y :: ys, hx, hy => by
    have h1 := Bool.and_eq_true_iff.mp (show (clean x && cleanAll xs) = true from hx)
    have h2 := Bool.and_eq_true_iff.mp (show (clean y && cleanAll ys) = true from hy)
    rw [PyData.eqvAll, Bool.and_eq_true, eqv_iff h1.1 h2.1, eqvAll_iff h1.2 h2.2]
    simp
end
theorem eqv_ne {x y : D} (hx : clean x = true) (hy : clean y = true) (e : x ≠ y) : PyData.eqv x y = false := by
  cases q : PyData.eqv x y with
  | false => rfl
  | true => exact absurd ((eqv_iff hx hy).mp q) e
theorem cleanAll_iff : ∀ {ds : List D}, cleanAll ds = true ↔ ∀ d ∈ ds, clean d = true
  | [] => by simp [cleanAll]
  | d :: r => by simp [cleanAll, cleanAll_iff (ds := r)]
/-! sums -/
theorem op_ok : ∀ w ∈ opWords, PyData.strOk w = true := by decide +kernel
theorem lit_ok : PyData.strOk "if" = true ∧ PyData.strOk "call" = true := by decide +kernel
theorem WfS.okN {ns : List Str} {hs : List (Str × Nat)} (hn : ∀ x ∈ ns, PyData.strOk x = true) (hh : ∀ h ∈ hs, PyData.strOk h.1 = true) {d : Nat} {s : Sm} (h : WfS ns hs d s) : okN (2 * d) (sumD s) := by
  induction h with
  | num _ _ => exact okN_int _
  | nm h => exact okN_str (hn _ h)
  | @op d w a b hw _ _ ia ib =>
    rw [sumD]
    refine (okN_tup (n := 2 * d) fun x hx => ?_).mono (by omega)
    simp at hx
    rcases hx with rfl | rfl | rfl
    · exact okN_str (op_ok _ hw)
    · exact ia
    · exact ib
  | @ite d c a b _ _ _ ic ia ib =>
    rw [sumD]
    refine (okN_tup (n := 2 * d) fun x hx => ?_).mono (by omega)
    simp at hx
    rcases hx with rfl | rfl | rfl | rfl
    · exact okN_str lit_ok.1
    · exact ic
    · exact ia
    · exact ib
  | @call d f as hf _ ih =>
    rw [sumD]
    refine (okN_tup (n := 2 * d + 1) fun x hx => ?_).mono (by omega)
    simp at hx
    rcases hx with rfl | rfl | rfl
    · exact okN_str lit_ok.2
    · exact okN_str (hh _ hf)
    · refine okN_tup fun y hy => ?_
      rw [sumDs_map] at hy
      obtain ⟨a, ha, rfl⟩ := List.mem_map.mp hy
      exact ih a ha
mutual
theorem clean_sum : ∀ s : Sm, clean (sumD s) = true
  | .num _ => rfl
  | .nm _ => rfl
  | .op w a b => by simp [sumD, clean, cleanAll, clean_sum a, clean_sum b]
  | .ite c a b => by simp [sumD, clean, cleanAll, clean_sum c, clean_sum a, clean_sum b]
  | .call f as => by simp [sumD, clean, cleanAll, clean_sums as]
theorem clean_sums : ∀ as : List Sm, cleanAll (sumDs as) = true
  | [] => rfl
  | a :: r => by simp [sumDs, cleanAll, clean_sum a, clean_sums r]
end
theorem pick {α β : Type} [Inhabited β] {as : List α} {P : α → β → Prop} (h : ∀ a ∈ as, ∃ b, P a b) : ∃ g : α → β, ∀ a ∈ as, P a (g a) := by
  classical
  refine ⟨fun a => if q : a ∈ as then (h a q).choose else default, fun a ha => ?_⟩
  simp only [ha, dif_pos]
  exact (h a ha).choose_spec
instance : Inhabited Sm := ⟨.num 0⟩
/-- a sum by its kind: a worth, a name, a call, or another one with parts -/
inductive View (ns : List Str) (hs : List (Str × Nat)) : Nat → Sm → Prop
  | num {d : Nat} (n : Int) : 0 ≤ n → n ≤ 999 → View ns hs d (.num n)
  | nm {d : Nat} (x : Str) : x ∈ ns → View ns hs d (.nm x)
  | nd {d : Nat} {s : Sm} (w : Str) (ps : List Sm) : w ≠ "call" → sumD s = .tuple (.str w :: sumDs ps) → (∀ p ∈ ps, WfS ns hs d p) → 2 ≤ ps.length → ps.length ≤ 3 → (w = "if" ↔ ps.length = 3) → (w ≠ "if" → w ∈ opWords) →
      (∀ (ns' : List Str) (hs' : List (Str × Nat)) (d' : Nat) (ps' : List Sm), ps'.length = ps.length → (∀ p ∈ ps', WfS ns' hs' d' p) → ∃ s', sumD s' = .tuple (.str w :: sumDs ps') ∧ WfS ns' hs' (d' + 1) s') → View ns hs (d + 1) s
  | call {d : Nat} (f : Str) (as : List Sm) : (f, as.length) ∈ hs → (∀ a ∈ as, WfS ns hs d a) → View ns hs (d + 1) (.call f as)
theorem WfS.view {ns : List Str} {hs : List (Str × Nat)} {d : Nat} {s : Sm} (h : WfS ns hs d s) : View ns hs d s := by
  cases h with
  | num a b => exact .num _ a b
  | nm a => exact .nm _ a
  | call a b => exact .call _ _ a b
  | @op d w a b hw ha hb =>
    refine .nd w [a, b] (op_facts w hw).1 (by simp [sumD, sumDs]) (by simp; exact ⟨ha, hb⟩) (by simp) (by simp) ⟨fun e => absurd e (op_facts w hw).2.1, fun e => by simp at e⟩ (fun _ => hw) fun ns' hs' d' ps' hl hp => ?_
    match ps', hl with
    | [x, y], _ => exact ⟨.op w x y, by simp [sumD, sumDs], .op hw (hp x (by simp)) (hp y (by simp))⟩
  | @ite d c a b hc ha hb =>
    refine .nd "if" [c, a, b] if_call (by simp [sumD, sumDs]) (by simp; exact ⟨hc, ha, hb⟩) (by simp) (by simp) ⟨fun _ => rfl, fun _ => rfl⟩ (fun e => absurd rfl e) fun ns' hs' d' ps' hl hp => ?_
    match ps', hl with
    | [x, y, z], _ => exact ⟨.ite x y z, by simp [sumD, sumDs], .ite (hp x (by simp)) (hp y (by simp)) (hp z (by simp))⟩
@[simp] theorem cut01 (x : D) (r : List D) : cutD (x :: r) none (some 1) = [x] := by
  unfold cutD
  rw [show ((1 : Int)) = ((1 : Nat) : Int) from rfl, HT.sIx_nat, HT.sIx_none, List.length_cons, Nat.min_eq_left (by omega)]
  simp
@[simp] theorem cut02 (x y : D) (r : List D) : cutD (x :: y :: r) none (some 2) = [x, y] := by
  unfold cutD
  rw [show ((2 : Int)) = ((2 : Nat) : Int) from rfl, HT.sIx_nat, HT.sIx_none, List.length_cons, List.length_cons, Nat.min_eq_left (by omega)]
  simp
@[simp] theorem ev_dLZ (fa fb : En → Option D) (env : En) : dLZ fa fb env = op2 (fun d e => match d, e with | .tuple as, .tuple bs => some (.list (zipD as bs)) | _, _ => none) (fa env) (fb env) := rfl
/-! drawn books -/
theorem find_name {b : List Mk} {m : Mk} (hn : (b.map (·.name)).Nodup) (hm : m ∈ b) : b.find? (fun x => decide (x.name = m.name)) = some m := by
  induction b with
  | nil => cases hm
  | cons x r ih =>
    rw [List.map_cons, List.nodup_cons] at hn
    rcases List.mem_cons.mp hm with e | e
    · subst e; simp
    · have : x.name ≠ m.name := fun q => hn.1 (by rw [q]; exact List.mem_map.mpr ⟨m, e, rfl⟩)
      rw [List.find?_cons_of_neg (by simpa using this)]
      exact ih hn.2 e
theorem Drawn.nodup {b : List Mk} (h : Drawn b) : (b.map (·.name)).Nodup := by
  rw [h.nm]
  exact List.Nodup.sublist (List.take_sublist _ _) (by decide +kernel)
theorem set_nodup {ns : List Str} (h : ns ∈ nameSets) : ns.Nodup := by
  simp at h
  rcases h with rfl | rfl | rfl | rfl | rfl | rfl <;> decide +kernel
theorem set_ok2 {ns : List Str} (h : ns ∈ nameSets) : ∀ x ∈ ns, PyData.strOk x = true := by
  simp at h
  rcases h with rfl | rfl | rfl | rfl | rfl | rfl <;> decide +kernel
theorem Drawn.mem4 {b : List Mk} (h : Drawn b) : ∀ m ∈ b, m.name ∈ (["f", "g", "pow", "h"] : List Str) := fun m hm => by
  have q : m.name ∈ (["f", "g", "pow", "h"] : List Str).take b.length := by rw [← h.nm]; exact List.mem_map.mpr ⟨m, hm, rfl⟩
  exact List.mem_of_mem_take q
theorem Drawn.nmok {b : List Mk} (h : Drawn b) : ∀ m ∈ b, PyData.strOk m.name = true := fun m hm => by
  have all : ∀ x ∈ (["f", "g", "pow", "h"] : List Str), PyData.strOk x = true := by decide +kernel
  exact all _ (h.mem4 m hm)
theorem Drawn.hdok {b : List Mk} (h : Drawn b) : ∀ x ∈ headsOf b, PyData.strOk x.1 = true := fun x hx => by
  obtain ⟨m, hm, rfl⟩ := List.mem_map.mp hx
  exact h.nmok m hm
/-- a call's many are its maker's -/
theorem Drawn.many {b : List Mk} (h : Drawn b) {m : Mk} (hm : m ∈ b) {k : Nat} (hk : (m.name, k) ∈ headsOf b) : k = m.names.length := by
  obtain ⟨m', hm', e⟩ := List.mem_map.mp hk
  have e1 : m'.name = m.name := congrArg Prod.fst e
  have e2 : m'.names.length = k := congrArg Prod.snd e
  have q1 := find_name h.nodup hm
  have q2 := find_name h.nodup hm'
  rw [e1, q1] at q2
  cases q2
  exact e2.symm
theorem Drawn.okMk {b : List Mk} (h : Drawn b) {m : Mk} (hm : m ∈ b) : okN 9 (mkD m) := by
  unfold mkD
  refine okN_tup fun x hx => ?_
  simp at hx
  rcases hx with rfl | rfl | rfl
  · exact okN_str (h.nmok m hm)
  · unfold nmsD
    refine (okN_tup (n := 0) fun y hy => ?_).mono (by omega)
    obtain ⟨z, hz, rfl⟩ := List.mem_map.mp hy
    exact okN_str (set_ok2 (h.sets m hm) z hz)
  · exact (h.wf m hm).okN (set_ok2 (h.sets m hm)) h.hdok
/-! dicts -/
theorem look_repl (k : Key) (d : D) (k' : Key) : ∀ ds : List (D × D), dLook (ds.map fun p => if keyOf p.1 = some k then (p.1, d) else p) k' = if k = k' then (if (ds.any fun p => decide (keyOf p.1 = some k)) = true then some d else none) else dLook ds k'
  | [] => by simp [dLook]
  | p :: r => by
    have ih := look_repl k d k' r
    rw [List.map_cons, dLook]
    by_cases hp : keyOf p.1 = some k
    · simp only [hp, if_true, List.any_cons, decide_true, Bool.true_or]
      by_cases e : k = k'
      · subst e; simp
      · have e' : ¬ some k = some k' := fun q => e (Option.some.inj q)
        simp only [e, e', if_false]
        rw [ih, dLook]
        simp [e, hp]
    · simp only [hp, if_false, List.any_cons, decide_false, Bool.false_or]
      by_cases e : k = k'
      · subst e
        simp only [if_true, hp, if_false]
        rw [ih]; simp
      · simp only [e, if_false]
        rw [ih, dLook]; simp [e]
theorem look_app (ds : List (D × D)) (k : Key) (d : D) (k' : Key) : dLook (ds ++ [(kD k, d)]) k' = match dLook ds k' with | some x => some x | none => if k = k' then some d else none := by
  induction ds with
  | nil =>
    show (if keyOf (kD k) = some k' then some d else none) = (if k = k' then some d else none)
    rw [keyOf_kD]
    by_cases e : k = k'
    · subst e; simp
    · have e' : ¬ some k = some k' := fun q => e (Option.some.inj q)
      simp [e]
  | cons p r ih =>
    rw [List.cons_append, dLook, dLook, ih]
    split <;> simp_all
theorem look_none {k : Key} : ∀ {ds : List (D × D)}, (ds.any fun p => decide (keyOf p.1 = some k)) = false → dLook ds k = none
  | [], _ => rfl
  | p :: r, h => by
    rw [List.any_cons, Bool.or_eq_false_iff] at h
    rw [dLook, if_neg (by simpa using h.1)]
    exact look_none h.2
theorem look_put (ds : List (D × D)) (k : Key) (d : D) (k' : Key) : dLook (putD ds k d) k' = if k = k' then some d else dLook ds k' := by
  unfold putD
  split
  · rename_i h
    rw [look_repl, h]; simp
  · rename_i h
    have h' : (ds.any fun p => decide (keyOf p.1 = some k)) = false := by simpa using h
    rw [look_app]
    by_cases e : k = k'
    · subst e; rw [look_none h']
    · simp only [e, if_false]
      cases dLook ds k' <;> rfl
/-- dict(list(zip(names, sums))) -/
theorem held_ok : ∀ {ns : List Str} {as : List Sm}, as.length = ns.length → ns.Nodup → ∃ prs, pairsOf (zipD (ns.map .str) (sumDs as)) = some prs ∧ ∀ acc, (∀ x ∈ ns, ∃ a ∈ as, dLook (mergeD acc prs) (.inr x) = some (sumD a)) ∧ ∀ x, x ∉ ns → dLook (mergeD acc prs) (.inr x) = dLook acc (.inr x)
  | [], as, hl, _ => ⟨[], by simp [zipD, pairsOf], fun acc => ⟨fun x hx => absurd hx (by simp), fun x _ => rfl⟩⟩
  | n :: r, [], hl, _ => by simp at hl
  | n :: r, a :: as, hl, hn => by
    rw [List.nodup_cons] at hn
    obtain ⟨prs, h1, h2⟩ := held_ok (ns := r) (as := as) (by simpa using hl) hn.2
    refine ⟨(.inr n, sumD a) :: prs, ?_, fun acc => ?_⟩
    · simp [zipD, sumDs, pairsOf, h1]
    · obtain ⟨g1, g2⟩ := h2 (putD acc (.inr n) (sumD a))
      have e : mergeD acc ((.inr n, sumD a) :: prs) = mergeD (putD acc (.inr n) (sumD a)) prs := rfl
      rw [e]
      refine ⟨fun x hx => ?_, fun x hx => ?_⟩
      · by_cases q : x ∈ r
        · obtain ⟨b, hb, hb2⟩ := g1 x q
          exact ⟨b, List.mem_cons_of_mem _ hb, hb2⟩
        · rcases List.mem_cons.mp hx with e' | e'
          · subst e'
            refine ⟨a, List.mem_cons_self .., ?_⟩
            rw [g2 x q, look_put, if_pos rfl]
          · exact absurd e' q
      · rw [g2 x fun q => hx (List.mem_cons_of_mem _ q), look_put, if_neg fun q => hx (by cases q; exact List.mem_cons_self ..)]
/-! parts gone through -/
theorem lcq {f : List D → Option D} {x : D} {e0 e2 : Sl} {ps : List Sm} {g : Sm → Sm} (hl : ps.length ≤ 1000) (h : ∀ p ∈ ps, f [sumD p, x] = some (sumD (g p))) :
    lcO (some (sumDs ps)) [2] (gNm 2) bYes (dCB f (dCons (dVar 2) (dCons (dVar 1) dNil))) [e0, .im x, e2] = some (.list (sumDs (ps.map g))) := by
  rw [lcO_s (by rw [sumDs_length]; omega), sumDs_map]
  rw [lc_map (h := fun p => sumD (g p)) fun p hp => by simp [h p hp]]
  simp [sumDs_map]
@[simp] theorem boolsOf_map (bs : List Bool) : boolsOf (bs.map PyData.bool) = some bs := by
  induction bs with
  | nil => rfl
  | cons b r ih => rw [List.map_cons]; show (boolsOf (r.map PyData.bool)).map (b :: ·) = _; rw [ih]; rfl
theorem boolsOf_mapF {α : Type} (as : List α) (p : α → Bool) : boolsOf (as.map fun a => PyData.bool (p a)) = some (as.map p) := by
  have := boolsOf_map (as.map p)
  rwa [List.map_map] at this
theorem eq_call {f nm : Str} (h1 : PyData.strOk f = true) (h2 : PyData.strOk nm = true) : oEq (.tuple [.str "call", .str f]) (.tuple [.str "call", .str nm]) = some (.bool (decide (f = nm))) := by
  have o : ∀ x : Str, PyData.strOk x = true → okN 64 (.tuple [.str "call", .str x]) := fun x hx => (okN_tup (n := 0) fun y hy => by
    simp at hy
    rcases hy with rfl | rfl
    · exact okN_str lit_ok.2
    · exact okN_str hx).mono (by decide)
  rw [oEq_ok (o f h1) (o nm h2)]
  by_cases e : f = nm
  · subst e; rw [eqv_refl (o f h1).1]; simp
  · rw [eqv_ne (by simp [clean, cleanAll]) (by simp [clean, cleanAll]) (by simpa using e), decide_eq_false e]
theorem eq_nocall {w nm : Str} {x : D} {n : Nat} (hw : w ≠ "call") (hwo : PyData.strOk w = true) (h1 : okN n x) (hn : n ≤ 60) (hc : clean x = true) (h2 : PyData.strOk nm = true) : oEq (.tuple [.str w, x]) (.tuple [.str "call", .str nm]) = some (.bool false) := by
  rw [oEq_ok ((okN_tup (n := n) fun y hy => ?_).mono (by omega)) ((okN_tup (n := 0) fun y hy => ?_).mono (by decide)), eqv_ne (by simp [clean, cleanAll, hc]) (by simp [clean, cleanAll]) (by simp [hw])]
  · simp at hy
    rcases hy with rfl | rfl
    · exact okN_str hwo
    · exact h1
  · simp at hy
    rcases hy with rfl | rfl
    · exact okN_str lit_ok.2
    · exact okN_str h2
end Z

set_option Elab.async false
set_option linter.all false
set_option maxRecDepth 100000
set_option maxHeartbeats 4000000
namespace W
open PySem L2 Z
def top (i : Nat) : Stmt := PySem.Challenge.pw_copyshapes_k80_inlined.main.body.getD i (.Pass ⟨0, 0, 0, 0⟩)
structure Bu (mg : Str → Option Value) : Prop where
  all : mg "all" = none
  dict : mg "dict" = none
  enumerate : mg "enumerate" = none
  isinstance : mg "isinstance" = none
  len : mg "len" = none
  list : mg "list" = none
  range : mg "range" = none
  str : mg "str" = none
  tuple : mg "tuple" = none
  zip : mg "zip" = none
abbrev i__law_drawn : Nat := 0
abbrev i__law_sum : Nat := 1
abbrev i__law_again : Nat := 2
abbrev i__law_book : Nat := 3
abbrev i__law_cell_at : Nat := 4
abbrev i__law_mixed : Nat := 5
abbrev i_maker_of : Nat := 6
abbrev i_with_parts : Nat := 7
abbrev i_parts_of : Nat := 8
abbrev i_replaced : Nat := 9
abbrev i_is_simple : Nat := 10
abbrev i_placed : Nat := 11
abbrev i_inlined : Nat := 12
abbrev i__law_in_place : Nat := 13
abbrev i__law_placed : Nat := 14
abbrev i_law : Nat := 15
abbrev s__law_drawn : Stmt := top 12
abbrev N__law_drawn : List Str := ["number", "k", "drawn"]
abbrev P__law_drawn : List Str := ["number", "k"]
theorem sc__law_drawn : FnScope N__law_drawn P__law_drawn (defScope s__law_drawn) := ⟨rfl, rfl, rfl, by decide +kernel, rfl, by decide +kernel, by decide +kernel⟩
def b__law_drawn (R : Nat → List D → Option D) : En → Option Re := (sSeq (sAsg (dOp2 oMod (dOp2 oMulZ (dOp2 oAdd (dOp2 oAdd (dVarT 0) (dOp2 oMulZ (dC (.int 104729)) (dVarT 1))) (dC (.int 17))) (dC (.int 69621))) (dC (.int 2147483647))) (gNm 2))
    (sRet (dOp2 oMod (dOp2 oAdd (dOp2 oAdd (dOp2 oMulZ (dVarT 2) (dVarT 2)) (dOp2 oMulZ (dC (.int 3)) (dVarT 2))) (dVarT 1)) (dC (.int 2147483629)))))
def d__law_drawn (R : Nat → List D → Option D) : List D → Option D := dDef 3 (b__law_drawn R)
abbrev s__law_sum : Stmt := top 13
abbrev N__law_sum : List Str := ["number", "names", "heads", "deep", "some", "parts", "k", "name", "many"]
abbrev P__law_sum : List Str := ["number", "names", "heads", "deep"]
theorem sc__law_sum : FnScope N__law_sum P__law_sum (defScope s__law_sum) := ⟨rfl, rfl, rfl, by decide +kernel, rfl, by decide +kernel, by decide +kernel⟩
def b__law_sum (R : Nat → List D → Option D) : En → Option Re := (sSeq (sIf (bOr (bOf (dOp2 oEq (dVarT 3) (dC (.int 0)))) (bOf (dOp2 oEq (dOp2 oMod (dVarT 0) (dC (.int 4))) (dC (.int 0)))))
    (sSeq (sAsg (dOp2 oAdd (dLst (dCons (dOp2 oMod (dOp2 oDiv (dVarT 0) (dC (.int 4))) (dC (.int 1000))) (dCons (dOp2 oMod (dOp2 oDiv (dVarT 0) (dC (.int 4))) (dC (.int 4))) dNil))) (dCB oList (dCons (dVarT 1) dNil))) (gNm 4))
    (sRet (dOp2 oIx (dVarT 4) (dOp2 oMod (dOp2 oDiv (dVarT 0) (dC (.int 64))) (dCB oLen (dCons (dVarT 4) dNil)))))) sNil)
    (sSeq (sAsg (dLc (iSeq (dTup (dCons (dC (.int 1)) (dCons (dC (.int 2)) (dCons (dC (.int 3)) dNil))))) [6] (gNm 6) bYes (dCB (R i__law_sum) (dCons (dOp2 oDiv (dCB (R i__law_drawn) (dCons (dVar 0) (dCons (dVar 6) dNil))) (dC (.int 4))) (dCons (dVar 1) (dCons (dVar 2) (dCons (dOp2 oSub (dVarT 3) (dC (.int 1))) dNil)))))) (gNm 5))
    (sSeq (sIf (bAnd (bOf (dOp2 oEq (dOp2 oMod (dVarT 0) (dC (.int 4))) (dC (.int 1)))) (bOf (dOp2 oGt (dCB oLen (dCons (dVarT 2) dNil)) (dC (.int 0)))))
    (sSeq (sAsg (dOp2 oIx (dVarT 2) (dOp2 oMod (dOp2 oDiv (dVarT 0) (dC (.int 16))) (dCB oLen (dCons (dVarT 2) dNil)))) (gTp 2 (gsCons (gNm 7) (gsCons (gNm 8) gsNil))))
    (sRet (dTup (dCons (dC (.str "call")) (dCons (dVar 7) (dCons (dCB oTuple (dCons (dSl (dVarT 5) pNone (pInt (dVar 8))) dNil)) dNil)))))) sNil)
    (sSeq (sIf (bOf (dOp2 oEq (dOp2 oMod (dVarT 0) (dC (.int 4))) (dC (.int 2))))
    (sRet (dTup (dCons (dC (.str "if")) (dCons (dOp2 oIx (dVarT 5) (dC (.int 0))) (dCons (dOp2 oIx (dVarT 5) (dC (.int 1))) (dCons (dOp2 oIx (dVarT 5) (dC (.int 2))) dNil)))))) sNil)
    (sRet (dTup (dCons (dOp2 oIx (dTup (dCons (dC (.str "plus")) (dCons (dC (.str "less")) (dCons (dC (.str "times")) (dCons (dC (.str "same")) (dCons (dC (.str "under")) (dCons (dC (.str "plus")) dNil))))))) (dOp2 oMod (dOp2 oDiv (dVarT 0) (dC (.int 16))) (dC (.int 6)))) (dCons (dOp2 oIx (dVarT 5) (dC (.int 0))) (dCons (dOp2 oIx (dVarT 5) (dC (.int 1))) dNil)))))))))
def d__law_sum (R : Nat → List D → Option D) : List D → Option D := dDef 9 (b__law_sum R)
abbrev s__law_again : Stmt := top 14
abbrev N__law_again : List Str := ["number", "name", "names", "heads", "its", "many", "sums", "k", "step", "rest", "base", "test"]
abbrev P__law_again : List Str := ["number", "name", "names", "heads"]
theorem sc__law_again : FnScope N__law_again P__law_again (defScope s__law_again) := ⟨rfl, rfl, rfl, by decide +kernel, rfl, by decide +kernel, by decide +kernel⟩
def b__law_again (R : Nat → List D → Option D) : En → Option Re := (sSeq (sAsg (dOp2 oIx (dLst (dCons (dTup (dCons (dVar 1) (dCons (dCB oLen (dCons (dVarT 2) dNil)) dNil))) (dCons (dOp2 oIx (dVarT 3) (dOp2 oMod (dOp2 oDiv (dVarT 0) (dC (.int 4))) (dCB oLen (dCons (dVarT 3) dNil)))) dNil))) (dOp2 oMod (dVarT 0) (dC (.int 2)))) (gTp 2 (gsCons (gNm 4) (gsCons (gNm 5) gsNil))))
    (sSeq (sOwn (dLst (dCons (dTup (dCons (dC (.str "less")) (dCons (dOp2 oIx (dVarT 2) (dC (.int 0))) (dCons (dC (.int 1)) dNil)))) dNil)) 6)
    (sSeq (sFor (iRange2 (dC (.int 1)) (dVar 5)) (gNm 7)
    (sApp 6 (dCB (R i__law_sum) (dCons (dOp2 oDiv (dCB (R i__law_drawn) (dCons (dVar 0) (dCons (dOp2 oAdd (dC (.int 10)) (dVarT 7)) dNil))) (dC (.int 4))) (dCons (dVar 2) (dCons (dLst dNil) (dCons (dC (.int 1)) dNil)))))))
    (sSeq (sAsg (dTup (dCons (dC (.str "call")) (dCons (dVar 4) (dCons (dCB oTuple (dCons (dSl (dVarT 6) pNone (pInt (dVar 5))) dNil)) dNil)))) (gNm 8))
    (sSeq (sAsg (dCB (R i__law_sum) (dCons (dOp2 oDiv (dCB (R i__law_drawn) (dCons (dVar 0) (dCons (dC (.int 14)) dNil))) (dC (.int 4))) (dCons (dVar 2) (dCons (dLst dNil) (dCons (dC (.int 1)) dNil))))) (gNm 9))
    (sSeq (sAsg (dCB (R i__law_sum) (dCons (dOp2 oDiv (dCB (R i__law_drawn) (dCons (dVar 0) (dCons (dC (.int 15)) dNil))) (dC (.int 4))) (dCons (dVar 2) (dCons (dLst dNil) (dCons (dC (.int 2)) dNil))))) (gNm 10))
    (sSeq (sAsg (dOp2 oIx (dLst (dCons (dVar 8) (dCons (dTup (dCons (dC (.str "plus")) (dCons (dVar 9) (dCons (dVar 8) dNil)))) (dCons (dTup (dCons (dC (.str "times")) (dCons (dVar 8) (dCons (dVar 9) dNil)))) (dCons (dTup (dCons (dC (.str "less")) (dCons (dVar 8) (dCons (dVar 9) dNil)))) dNil))))) (dOp2 oMod (dOp2 oDiv (dVarT 0) (dC (.int 64))) (dC (.int 4)))) (gNm 8))
    (sSeq (sAsg (dOp2 oIx (dLst (dCons (dOp2 oIx (dVarT 2) (dC (.int 0))) (dCons (dOp2 oIx (dVarT 2) (dC (.int 0))) (dCons (dTup (dCons (dC (.str "under")) (dCons (dC (.int 0)) (dCons (dOp2 oIx (dVarT 2) (dC (.int 0))) dNil)))) (dCons (dTup (dCons (dC (.str "same")) (dCons (dOp2 oIx (dVarT 2) (dNeg (dC (.int 1)))) (dCons (dC (.int 1)) dNil)))) dNil))))) (dOp2 oMod (dOp2 oDiv (dVarT 0) (dC (.int 256))) (dC (.int 4)))) (gNm 11))
    (sRet (dTup (dCons (dC (.str "if")) (dCons (dVar 11) (dCons (dVar 8) (dCons (dVar 10) dNil))))))))))))))
def d__law_again (R : Nat → List D → Option D) : List D → Option D := dDef 12 (b__law_again R)
abbrev s__law_book : Stmt := top 15
abbrev N__law_book : List Str := ["number", "heads", "k", "drawn", "names", "found", "head", "known", "name", "body"]
abbrev P__law_book : List Str := ["number"]
theorem sc__law_book : FnScope N__law_book P__law_book (defScope s__law_book) := ⟨rfl, rfl, rfl, by decide +kernel, rfl, by decide +kernel, by decide +kernel⟩
def b__law_book (R : Nat → List D → Option D) : En → Option Re := (sSeq (sOwn (dLst dNil) 1)
    (sSeq (sFor (iRange1 (dOp2 oIx (dTup (dCons (dC (.int 2)) (dCons (dC (.int 1)) (dCons (dC (.int 3)) (dCons (dC (.int 4)) (dCons (dC (.int 2)) (dCons (dC (.int 3)) dNil))))))) (dOp2 oMod (dVarT 0) (dC (.int 6))))) (gNm 2)
    (sSeq (sAsg (dOp2 oDiv (dCB (R i__law_drawn) (dCons (dVar 0) (dCons (dVar 2) dNil))) (dC (.int 4))) (gNm 3))
    (sSeq (sAsg (dOp2 oIx (dLst (dCons (dTup (dCons (dC (.str "n")) dNil)) (dCons (dTup (dCons (dC (.str "n")) (dCons (dC (.str "a")) dNil))) (dCons (dTup (dCons (dC (.str "a")) dNil)) (dCons (dTup (dCons (dC (.str "n")) (dCons (dC (.str "a")) (dCons (dC (.str "b")) dNil)))) (dCons (dTup dNil) (dCons (dTup (dCons (dC (.str "a")) (dCons (dC (.str "b")) dNil))) dNil))))))) (dOp2 oMod (dVarT 3) (dC (.int 6)))) (gNm 4))
    (sApp 1 (dTup (dCons (dOp2 oIx (dTup (dCons (dC (.str "f")) (dCons (dC (.str "g")) (dCons (dC (.str "pow")) (dCons (dC (.str "h")) dNil))))) (dVarT 2)) (dCons (dVar 4) dNil)))))))
    (sSeq (sAsg (dTup dNil) (gNm 5))
    (sFrz 1 (sSeq (sFor (iEnumD (dVar 1)) (gTp 2 (gsCons (gNm 2) (gsCons (gNm 6) gsNil)))
    (sSeq (sAsg (dOp2 oDiv (dCB (R i__law_drawn) (dCons (dVar 0) (dCons (dOp2 oAdd (dC (.int 10)) (dVarT 2)) dNil))) (dC (.int 4))) (gNm 3))
    (sFrz 1 (sSeq (sAsg (dLc (iSeq (dVar 1)) [8, 4] (gTp 2 (gsCons (gNm 8) (gsCons (gNm 4) gsNil))) bYes (dTup (dCons (dVar 8) (dCons (dCB oLen (dCons (dVarT 4) dNil)) dNil)))) (gNm 7))
    (sSeq (sIf (bAnd (bOf (dOp2 oGt (dOp2 oMod (dVarT 3) (dC (.int 3))) (dC (.int 0)))) (bOf (dOp2 oNe (dOp2 oIx (dVarT 6) (dC (.int 1))) (dTup dNil))))
    (sAsg (dCB (R i__law_again) (dCons (dOp2 oDiv (dVarT 3) (dC (.int 4))) (dCons (dOp2 oIx (dVarT 6) (dC (.int 0))) (dCons (dOp2 oIx (dVarT 6) (dC (.int 1))) (dCons (dVar 7) dNil))))) (gNm 9)) (sAsg (dCB (R i__law_sum) (dCons (dOp2 oDiv (dVarT 3) (dC (.int 4))) (dCons (dOp2 oIx (dVarT 6) (dC (.int 1))) (dCons (dSl (dVarT 7) pNone (pInt (dVar 2))) (dCons (dC (.int 3)) dNil))))) (gNm 9)))
    (sAsg (dOp2 oAdd (dVarT 5) (dTup (dCons (dTup (dCons (dOp2 oIx (dVarT 6) (dC (.int 0))) (dCons (dOp2 oIx (dVarT 6) (dC (.int 1))) (dCons (dVar 9) dNil)))) dNil))) (gNm 5)))))))
    (sRet (dVar 5)))))))
def d__law_book (R : Nat → List D → Option D) : List D → Option D := dDef 10 (b__law_book R)
abbrev s__law_cell_at : Stmt := top 10
abbrev N__law_cell_at : List Str := ["script", "k"]
abbrev P__law_cell_at : List Str := ["script", "k"]
theorem sc__law_cell_at : FnScope N__law_cell_at P__law_cell_at (defScope s__law_cell_at) := ⟨rfl, rfl, rfl, by decide +kernel, rfl, by decide +kernel, by decide +kernel⟩
def b__law_cell_at (R : Nat → List D → Option D) : En → Option Re := (sSeq (sIf (bOf (dOp2 oLt (dVarT 1) (dCB oLen (dCons (dVarT 0) dNil))))
    (sRet (dOp2 oIx (dVarT 0) (dVarT 1))) sNil)
    (sRet (dC (.int 0))))
def d__law_cell_at (R : Nat → List D → Option D) : List D → Option D := dDef 2 (b__law_cell_at R)
abbrev s__law_mixed : Stmt := top 11
abbrev N__law_mixed : List Str := ["script", "k", "drawn"]
abbrev P__law_mixed : List Str := ["script", "k"]
theorem sc__law_mixed : FnScope N__law_mixed P__law_mixed (defScope s__law_mixed) := ⟨rfl, rfl, rfl, by decide +kernel, rfl, by decide +kernel, by decide +kernel⟩
def b__law_mixed (R : Nat → List D → Option D) : En → Option Re := (sSeq (sAsg (dOp2 oMod (dOp2 oMulZ (dOp2 oAdd (dOp2 oAdd (dCB (R i__law_cell_at) (dCons (dVar 0) (dCons (dVar 1) dNil))) (dOp2 oMulZ (dC (.int 7919)) (dVarT 1))) (dC (.int 1))) (dC (.int 48271))) (dC (.int 2147483647))) (gNm 2))
    (sRet (dOp2 oMod (dOp2 oAdd (dOp2 oAdd (dOp2 oMulZ (dVarT 2) (dVarT 2)) (dOp2 oMulZ (dC (.int 7)) (dVarT 2))) (dVarT 1)) (dC (.int 2147483629)))))
def d__law_mixed (R : Nat → List D → Option D) : List D → Option D := dDef 3 (b__law_mixed R)
abbrev s_maker_of : Stmt := top 1
abbrev N_maker_of : List Str := ["book", "name", "maker"]
abbrev P_maker_of : List Str := ["book", "name"]
theorem sc_maker_of : FnScope N_maker_of P_maker_of (defScope s_maker_of) := ⟨rfl, rfl, rfl, by decide +kernel, rfl, by decide +kernel, by decide +kernel⟩
def b_maker_of (R : Nat → List D → Option D) : En → Option Re := (sRet (dOp2 oIx (dLc (iSeq (dVar 0)) [2] (gNm 2) (bOf (dOp2 oEq (dOp2 oIx (dVarT 2) (dC (.int 0))) (dVarT 1))) (dVar 2)) (dC (.int 0))))
def d_maker_of (R : Nat → List D → Option D) : List D → Option D := dDef 3 (b_maker_of R)
abbrev s_with_parts : Stmt := top 3
abbrev N_with_parts : List Str := ["thing", "parts"]
abbrev P_with_parts : List Str := ["thing", "parts"]
theorem sc_with_parts : FnScope N_with_parts P_with_parts (defScope s_with_parts) := ⟨rfl, rfl, rfl, by decide +kernel, rfl, by decide +kernel, by decide +kernel⟩
def b_with_parts (R : Nat → List D → Option D) : En → Option Re := (sSeq (sIf (bNot (bOf (dIsi isTup (dVarT 0))))
    (sRet (dVar 0)) sNil)
    (sSeq (sIf (bOf (dOp2 oEq (dOp2 oIx (dVarT 0) (dC (.int 0))) (dC (.str "call"))))
    (sRet (dTup (dCons (dC (.str "call")) (dCons (dOp2 oIx (dVarT 0) (dC (.int 1))) (dCons (dCB oTuple (dCons (dVarT 1) dNil)) dNil))))) sNil)
    (sRet (dOp2 oAdd (dSl (dVarT 0) pNone (pInt (dC (.int 1)))) (dCB oTuple (dCons (dVarT 1) dNil))))))
def d_with_parts (R : Nat → List D → Option D) : List D → Option D := dDef 2 (b_with_parts R)
abbrev s_parts_of : Stmt := top 2
abbrev N_parts_of : List Str := ["thing"]
abbrev P_parts_of : List Str := ["thing"]
theorem sc_parts_of : FnScope N_parts_of P_parts_of (defScope s_parts_of) := ⟨rfl, rfl, rfl, by decide +kernel, rfl, by decide +kernel, by decide +kernel⟩
def b_parts_of (R : Nat → List D → Option D) : En → Option Re := (sSeq (sIf (bNot (bOf (dIsi isTup (dVarT 0))))
    (sRet (dTup dNil)) sNil)
    (sSeq (sIf (bOf (dOp2 oEq (dOp2 oIx (dVarT 0) (dC (.int 0))) (dC (.str "call"))))
    (sRet (dOp2 oIx (dVarT 0) (dC (.int 2)))) sNil)
    (sRet (dSl (dVarT 0) (pInt (dC (.int 1))) pNone))))
def d_parts_of (R : Nat → List D → Option D) : List D → Option D := dDef 1 (b_parts_of R)
abbrev s_replaced : Stmt := top 5
abbrev N_replaced : List Str := ["thing", "book", "part"]
abbrev P_replaced : List Str := ["thing", "book"]
theorem sc_replaced : FnScope N_replaced P_replaced (defScope s_replaced) := ⟨rfl, rfl, rfl, by decide +kernel, rfl, by decide +kernel, by decide +kernel⟩
def b_replaced (R : Nat → List D → Option D) : En → Option Re := (sSeq (sIf (bOf (dIsi isStr (dVarT 0)))
    (sRet (dOp2 oIx (dVarT 1) (dVarT 0))) sNil)
    (sRet (dCB (R i_with_parts) (dCons (dVar 0) (dCons (dLc (iSeq (dCB (R i_parts_of) (dCons (dVar 0) dNil))) [2] (gNm 2) bYes (dCB (R i_replaced) (dCons (dVar 2) (dCons (dVar 1) dNil)))) dNil)))))
def d_replaced (R : Nat → List D → Option D) : List D → Option D := dDef 3 (b_replaced R)
abbrev s_is_simple : Stmt := top 6
abbrev N_is_simple : List Str := ["thing"]
abbrev P_is_simple : List Str := ["thing"]
theorem sc_is_simple : FnScope N_is_simple P_is_simple (defScope s_is_simple) := ⟨rfl, rfl, rfl, by decide +kernel, rfl, by decide +kernel, by decide +kernel⟩
def b_is_simple (R : Nat → List D → Option D) : En → Option Re := (sRet (dNotV (dIsi isTup (dVarT 0))))
def d_is_simple (R : Nat → List D → Option D) : List D → Option D := dDef 1 (b_is_simple R)
abbrev s_placed : Stmt := top 7
abbrev N_placed : List Str := ["thing", "maker", "part"]
abbrev P_placed : List Str := ["thing", "maker"]
theorem sc_placed : FnScope N_placed P_placed (defScope s_placed) := ⟨rfl, rfl, rfl, by decide +kernel, rfl, by decide +kernel, by decide +kernel⟩
def b_placed (R : Nat → List D → Option D) : En → Option Re := (sSeq (sIf (bNot (bOf (dIsi isTup (dVarT 0))))
    (sRet (dVar 0)) sNil)
    (sSeq (sIf (bAnd (bOf (dOp2 oEq (dSl (dVarT 0) pNone (pInt (dC (.int 2)))) (dTup (dCons (dC (.str "call")) (dCons (dOp2 oIx (dVarT 1) (dC (.int 0))) dNil))))) (bOf (dCB oAll (dCons (dLc (iSeq (dOp2 oIx (dVarT 0) (dC (.int 2)))) [2] (gNm 2) bYes (dCB (R i_is_simple) (dCons (dVar 2) dNil))) dNil))))
    (sRet (dCB (R i_replaced) (dCons (dOp2 oIx (dVarT 1) (dC (.int 2))) (dCons (dOp1 oDictP (dLZ (dOp2 oIx (dVarT 1) (dC (.int 1))) (dOp2 oIx (dVarT 0) (dC (.int 2))))) dNil)))) sNil)
    (sRet (dCB (R i_with_parts) (dCons (dVar 0) (dCons (dLc (iSeq (dCB (R i_parts_of) (dCons (dVar 0) dNil))) [2] (gNm 2) bYes (dCB (R i_placed) (dCons (dVar 2) (dCons (dVar 1) dNil)))) dNil))))))
def d_placed (R : Nat → List D → Option D) : List D → Option D := dDef 3 (b_placed R)
abbrev s_inlined : Stmt := top 8
abbrev N_inlined : List Str := ["book", "name", "maker", "found", "one"]
abbrev P_inlined : List Str := ["book", "name"]
theorem sc_inlined : FnScope N_inlined P_inlined (defScope s_inlined) := ⟨rfl, rfl, rfl, by decide +kernel, rfl, by decide +kernel, by decide +kernel⟩
def b_inlined (R : Nat → List D → Option D) : En → Option Re := (sSeq (sAsg (dCB (R i_maker_of) (dCons (dVar 0) (dCons (dVar 1) dNil))) (gNm 2))
    (sSeq (sOwn (dLst dNil) 3)
    (sSeq (sFor (iSeq (dVar 0)) (gNm 4)
    (sIf (bOf (dOp2 oEq (dOp2 oIx (dVarT 4) (dC (.int 0))) (dVarT 1)))
    (sApp 3 (dVar 4)) (sApp 3 (dTup (dCons (dOp2 oIx (dVarT 4) (dC (.int 0))) (dCons (dOp2 oIx (dVarT 4) (dC (.int 1))) (dCons (dCB (R i_placed) (dCons (dOp2 oIx (dVarT 4) (dC (.int 2))) (dCons (dVar 2) dNil))) dNil)))))))
    (sRet (dCB oTuple (dCons (dVarT 3) dNil))))))
def d_inlined (R : Nat → List D → Option D) : List D → Option D := dDef 5 (b_inlined R)
abbrev s__law_in_place : Stmt := top 17
abbrev N__law_in_place : List Str := ["thing", "held", "part"]
abbrev P__law_in_place : List Str := ["thing", "held"]
theorem sc__law_in_place : FnScope N__law_in_place P__law_in_place (defScope s__law_in_place) := ⟨rfl, rfl, rfl, by decide +kernel, rfl, by decide +kernel, by decide +kernel⟩
def b__law_in_place (R : Nat → List D → Option D) : En → Option Re := (sSeq (sIf (bOf (dIsi isStr (dVarT 0)))
    (sRet (dOp2 oIx (dVarT 1) (dVarT 0))) sNil)
    (sSeq (sIf (bNot (bOf (dIsi isTup (dVarT 0))))
    (sRet (dVar 0)) sNil)
    (sSeq (sIf (bOf (dOp2 oEq (dOp2 oIx (dVarT 0) (dC (.int 0))) (dC (.str "call"))))
    (sRet (dTup (dCons (dC (.str "call")) (dCons (dOp2 oIx (dVarT 0) (dC (.int 1))) (dCons (dCB oTuple (dCons (dLc (iSeq (dOp2 oIx (dVarT 0) (dC (.int 2)))) [2] (gNm 2) bYes (dCB (R i__law_in_place) (dCons (dVar 2) (dCons (dVar 1) dNil)))) dNil)) dNil))))) sNil)
    (sRet (dOp2 oAdd (dSl (dVarT 0) pNone (pInt (dC (.int 1)))) (dCB oTuple (dCons (dLc (iSeq (dSl (dVarT 0) (pInt (dC (.int 1))) pNone)) [2] (gNm 2) bYes (dCB (R i__law_in_place) (dCons (dVar 2) (dCons (dVar 1) dNil)))) dNil)))))))
def d__law_in_place (R : Nat → List D → Option D) : List D → Option D := dDef 3 (b__law_in_place R)
abbrev s__law_placed : Stmt := top 18
abbrev N__law_placed : List Str := ["thing", "maker", "part"]
abbrev P__law_placed : List Str := ["thing", "maker"]
theorem sc__law_placed : FnScope N__law_placed P__law_placed (defScope s__law_placed) := ⟨rfl, rfl, rfl, by decide +kernel, rfl, by decide +kernel, by decide +kernel⟩
def b__law_placed (R : Nat → List D → Option D) : En → Option Re := (sSeq (sIf (bNot (bOf (dIsi isTup (dVarT 0))))
    (sRet (dVar 0)) sNil)
    (sSeq (sIf (bOf (dOp2 oNe (dOp2 oIx (dVarT 0) (dC (.int 0))) (dC (.str "call"))))
    (sRet (dOp2 oAdd (dSl (dVarT 0) pNone (pInt (dC (.int 1)))) (dCB oTuple (dCons (dLc (iSeq (dSl (dVarT 0) (pInt (dC (.int 1))) pNone)) [2] (gNm 2) bYes (dCB (R i__law_placed) (dCons (dVar 2) (dCons (dVar 1) dNil)))) dNil)))) sNil)
    (sSeq (sIf (bAnd (bOf (dOp2 oEq (dOp2 oIx (dVarT 0) (dC (.int 1))) (dOp2 oIx (dVarT 1) (dC (.int 0))))) (bOf (dOp2 oEq (dLc (iSeq (dOp2 oIx (dVarT 0) (dC (.int 2)))) [2] (gNm 2) (bOf (dIsi isTup (dVarT 2))) (dVar 2)) (dLst dNil))))
    (sRet (dCB (R i__law_in_place) (dCons (dOp2 oIx (dVarT 1) (dC (.int 2))) (dCons (dOp1 oDictP (dLZ (dOp2 oIx (dVarT 1) (dC (.int 1))) (dOp2 oIx (dVarT 0) (dC (.int 2))))) dNil)))) sNil)
    (sRet (dTup (dCons (dC (.str "call")) (dCons (dOp2 oIx (dVarT 0) (dC (.int 1))) (dCons (dCB oTuple (dCons (dLc (iSeq (dOp2 oIx (dVarT 0) (dC (.int 2)))) [2] (gNm 2) bYes (dCB (R i__law_placed) (dCons (dVar 2) (dCons (dVar 1) dNil)))) dNil)) dNil))))))))
def d__law_placed (R : Nat → List D → Option D) : List D → Option D := dDef 3 (b__law_placed R)
abbrev s_law : Stmt := top 19
abbrev N_law : List Str := ["script", "book", "number", "maker", "due", "one"]
abbrev P_law : List Str := ["script"]
theorem sc_law : FnScope N_law P_law (defScope s_law) := ⟨rfl, rfl, rfl, by decide +kernel, rfl, by decide +kernel, by decide +kernel⟩
def b_law (R : Nat → List D → Option D) : En → Option Re := (sSeq (sAsg (dCB (R i__law_book) (dCons (dCB (R i__law_mixed) (dCons (dVar 0) (dCons (dC (.int 0)) dNil))) dNil)) (gNm 1))
    (sSeq (sAsg (dCB (R i__law_mixed) (dCons (dVar 0) (dCons (dC (.int 1)) dNil))) (gNm 2))
    (sSeq (sAsg (dOp2 oIx (dVarT 1) (dOp2 oMod (dVarT 2) (dCB oLen (dCons (dVarT 1) dNil)))) (gNm 3))
    (sSeq (sAsg (dTup dNil) (gNm 4))
    (sSeq (sFor (iSeq (dVar 1)) (gNm 5)
    (sSeq (sIf (bOf (dOp2 oNe (dVarT 5) (dVarT 3)))
    (sAsg (dTup (dCons (dOp2 oIx (dVarT 5) (dC (.int 0))) (dCons (dOp2 oIx (dVarT 5) (dC (.int 1))) (dCons (dCB (R i__law_placed) (dCons (dOp2 oIx (dVarT 5) (dC (.int 2))) (dCons (dVar 3) dNil))) dNil)))) (gNm 5)) sNil)
    (sAsg (dOp2 oAdd (dVarT 4) (dTup (dCons (dVar 5) dNil))) (gNm 4))))
    (sRet (dOp2 oEq (dCB (R i_inlined) (dCons (dVar 1) (dCons (dOp2 oIx (dVarT 3) (dC (.int 0))) dNil))) (dVarT 4))))))))
def d_law (R : Nat → List D → Option D) : List D → Option D := dDef 6 (b_law R)
section
variable {P : Program} {w : World} {K : PySem.W.Frag} {mg : Str → Option Value} {base : Heap} {n : Nat} {fa : Addr} {fd : FuncData} {R : Nat → List D → Option D}
theorem ok__law_drawn (B : Bu mg) (F : Fun K "_law_drawn" "_law_drawn" s__law_drawn fa fd)  : FnZ P w K mg base (n + 1) fa fd P__law_drawn (spZ K P__law_drawn.length (d__law_drawn R)) :=
  fnZ (N := N__law_drawn) (body := b__law_drawn R) F sc__law_drawn fun cdv A outer s H hr => ⟨_, (dss_cons (ds_set 2 sc__law_drawn.nd (de_op op_mod rz_mod (DE.r (de_op op_mulZ rz_mulZ (DE.r (de_op op_addZ rz_add (DE.r (de_op op_addZ rz_add (dr_v 0) (DE.r (de_op op_mulZ rz_mulZ (DE.r de_int) (dr_v 1))))) (DE.r de_int))) (DE.r de_int))) (DE.r de_int)))
    (dss_one (ds_ret (de_op op_mod rz_mod (DE.r (de_op op_addZ rz_add (DE.r (de_op op_addZ rz_add (DE.r (de_op op_mulZ rz_mulZ (dr_v 2) (dr_v 2))) (DE.r (de_op op_mulZ rz_mulZ (DE.r de_int) (dr_v 2))))) (dr_v 1))) (DE.r de_int)))))⟩
theorem ok__law_sum (B : Bu mg) (F : Fun K "_law_sum" "_law_sum" s__law_sum fa fd) (k__law_sum : Kn P w K mg base n "_law_sum" P__law_sum (R i__law_sum)) (k__law_drawn : Kn P w K mg base n "_law_drawn" P__law_drawn (R i__law_drawn)) : FnZ P w K mg base (n + 1) fa fd P__law_sum (spZ K P__law_sum.length (d__law_sum R)) :=
  fnZ (N := N__law_sum) (body := b__law_sum R) F sc__law_sum fun cdv A outer s H hr => ⟨_, (dss_cons (ds_if (DW.tst (dw_or (db_cmp (op_eqZ hr.u64) rz_eq (dr_v 3) (DE.r de_int) (nomark _)) (dw_or1 (db_cmp (op_eqZ hr.u64) rz_eq (DE.r (de_op op_mod rz_mod (dr_v 0) (DE.r de_int))) (DE.r de_int) (nomark _)))))
    (dss_cons (ds_set 4 sc__law_sum.nd (de_op op_addZ rz_add (DE.r (DO.e (do_lst (da_cons (de_op op_mod rz_mod (DE.r (de_op op_fdiv rz_div (dr_v 0) (DE.r de_int))) (DE.r de_int)) (da_cons (de_op op_mod rz_mod (DE.r (de_op op_fdiv rz_div (dr_v 0) (DE.r de_int))) (DE.r de_int)) da_nil))))) (DE.r (de_callTy cz_list call_listZ rfl B.list PyProof.Rows.boot_list (dar_cons (dr_v 1) dar_nil)))))
    (dss_one (ds_ret (de_ix hr.u1 (dr_v 4) (DE.r (de_op op_mod rz_mod (DE.r (de_op op_fdiv rz_div (dr_v 0) (DE.r de_int))) (DE.r (de_callB cz_len call_lenZ rfl B.len PySem.boot_len (dar_cons (dr_v 4) dar_nil))))))))) dss_nil)
    (dss_cons (ds_lc 5 [("k", 6)] sc__law_sum.nd (di_seq (de_tup (da_cons de_int (da_cons de_int (da_cons de_int da_nil))))) (blkOk_by (N := N__law_sum) (sc := defScope s__law_sum) (by decide +kernel)) (fun _ _ _ _ _ => (dg_name (vs := [6]) 6 sc__law_sum.nd)) (fun _ _ _ _ _ => dpt_nil) (fun _ _ _ _ _ => (de_call k__law_sum hr rfl (da_cons (de_op op_fdiv rz_div (DE.r (de_call k__law_drawn hr rfl (da_cons (de_v 0) (da_cons (de_v 6) da_nil)))) (DE.r de_int)) (da_cons (de_v 1) (da_cons (de_v 2) (da_cons (de_op op_sub rz_sub (dr_v 3) (DE.r de_int)) da_nil)))))) (sw_true rfl rfl rfl (by decide +kernel)))
    (dss_cons (ds_if (DW.tst (dw_and (db_cmp (op_eqZ hr.u64) rz_eq (DE.r (de_op op_mod rz_mod (dr_v 0) (DE.r de_int))) (DE.r de_int) (nomark _)) (dw_and1 (db_cmp op_gt rz_gt (DE.r (de_callB cz_len call_lenZ rfl B.len PySem.boot_len (dar_cons (dr_v 2) dar_nil))) (DE.r de_int) (nomark _)))))
    (dss_cons (ds_asg (de_ix hr.u1 (dr_v 2) (DE.r (de_op op_mod rz_mod (DE.r (de_op op_fdiv rz_div (dr_v 0) (DE.r de_int))) (DE.r (de_callB cz_len call_lenZ rfl B.len PySem.boot_len (dar_cons (dr_v 2) dar_nil)))))) (dg_tup (n := 2) rfl (dgs_cons (dg_name (vs := [7, 8]) 7 sc__law_sum.nd) (dgs_cons (dg_name (vs := [7, 8]) 8 sc__law_sum.nd) dgs_nil))))
    (dss_one (ds_ret (de_tup (da_cons de_str (da_cons (de_v 7) (da_cons (de_callTy cz_tuple call_tupleZ rfl B.tuple PyProof.Rows.boot_tuple (dar_cons (DE.r (de_sl (dr_v 5) dpo_none (dpo_some (de_v 8)))) dar_nil)) da_nil))))))) dss_nil)
    (dss_cons (ds_if (db_cmp (op_eqZ hr.u64) rz_eq (DE.r (de_op op_mod rz_mod (dr_v 0) (DE.r de_int))) (DE.r de_int) (nomark _))
    (dss_one (ds_ret (de_tup (da_cons de_str (da_cons (de_ix hr.u1 (dr_v 5) (DE.r de_int)) (da_cons (de_ix hr.u1 (dr_v 5) (DE.r de_int)) (da_cons (de_ix hr.u1 (dr_v 5) (DE.r de_int)) da_nil))))))) dss_nil)
    (dss_one (ds_ret (de_tup (da_cons (de_ix hr.u1 (DE.r (de_tup (da_cons de_str (da_cons de_str (da_cons de_str (da_cons de_str (da_cons de_str (da_cons de_str da_nil)))))))) (DE.r (de_op op_mod rz_mod (DE.r (de_op op_fdiv rz_div (dr_v 0) (DE.r de_int))) (DE.r de_int)))) (da_cons (de_ix hr.u1 (dr_v 5) (DE.r de_int)) (da_cons (de_ix hr.u1 (dr_v 5) (DE.r de_int)) da_nil))))))))))⟩
theorem ok__law_again (B : Bu mg) (F : Fun K "_law_again" "_law_again" s__law_again fa fd) (k__law_sum : Kn P w K mg base n "_law_sum" P__law_sum (R i__law_sum)) (k__law_drawn : Kn P w K mg base n "_law_drawn" P__law_drawn (R i__law_drawn)) : FnZ P w K mg base (n + 1) fa fd P__law_again (spZ K P__law_again.length (d__law_again R)) :=
  fnZ (N := N__law_again) (body := b__law_again R) F sc__law_again fun cdv A outer s H hr => ⟨_, (dss_cons (ds_asg (de_ix hr.u1 (DE.r (DO.e (do_lst (da_cons (de_tup (da_cons (de_v 1) (da_cons (de_callB cz_len call_lenZ rfl B.len PySem.boot_len (dar_cons (dr_v 2) dar_nil)) da_nil))) (da_cons (de_ix hr.u1 (dr_v 3) (DE.r (de_op op_mod rz_mod (DE.r (de_op op_fdiv rz_div (dr_v 0) (DE.r de_int))) (DE.r (de_callB cz_len call_lenZ rfl B.len PySem.boot_len (dar_cons (dr_v 3) dar_nil)))))) da_nil))))) (DE.r (de_op op_mod rz_mod (dr_v 0) (DE.r de_int)))) (dg_tup (n := 2) rfl (dgs_cons (dg_name (vs := [4, 5]) 4 sc__law_again.nd) (dgs_cons (dg_name (vs := [4, 5]) 5 sc__law_again.nd) dgs_nil))))
    (dss_cons (ds_setO 6 sc__law_again.nd (do_lst (da_cons (de_tup (da_cons de_str (da_cons (de_ix hr.u1 (dr_v 2) (DE.r de_int)) (da_cons de_int da_nil)))) da_nil)))
    (dss_cons (ds_for PassesOwn.never rfl (di_range2 rfl B.range de_int (de_v 5)) (dg_name (vs := [7]) 7 sc__law_again.nd)
    (dss_one (ds_app 6 (de_call k__law_sum hr rfl (da_cons (de_op op_fdiv rz_div (DE.r (de_call k__law_drawn hr rfl (da_cons (de_v 0) (da_cons (de_op op_addZ rz_add (DE.r de_int) (dr_v 7)) da_nil)))) (DE.r de_int)) (da_cons (de_v 2) (da_cons (DO.e (do_lst da_nil)) (da_cons de_int da_nil))))))))
    (dss_cons (ds_set 8 sc__law_again.nd (de_tup (da_cons de_str (da_cons (de_v 4) (da_cons (de_callTy cz_tuple call_tupleZ rfl B.tuple PyProof.Rows.boot_tuple (dar_cons (DE.r (de_sl (dr_v 6) dpo_none (dpo_some (de_v 5)))) dar_nil)) da_nil)))))
    (dss_cons (ds_set 9 sc__law_again.nd (de_call k__law_sum hr rfl (da_cons (de_op op_fdiv rz_div (DE.r (de_call k__law_drawn hr rfl (da_cons (de_v 0) (da_cons de_int da_nil)))) (DE.r de_int)) (da_cons (de_v 2) (da_cons (DO.e (do_lst da_nil)) (da_cons de_int da_nil))))))
    (dss_cons (ds_set 10 sc__law_again.nd (de_call k__law_sum hr rfl (da_cons (de_op op_fdiv rz_div (DE.r (de_call k__law_drawn hr rfl (da_cons (de_v 0) (da_cons de_int da_nil)))) (DE.r de_int)) (da_cons (de_v 2) (da_cons (DO.e (do_lst da_nil)) (da_cons de_int da_nil))))))
    (dss_cons (ds_set 8 sc__law_again.nd (de_ix hr.u1 (DE.r (DO.e (do_lst (da_cons (de_v 8) (da_cons (de_tup (da_cons de_str (da_cons (de_v 9) (da_cons (de_v 8) da_nil)))) (da_cons (de_tup (da_cons de_str (da_cons (de_v 8) (da_cons (de_v 9) da_nil)))) (da_cons (de_tup (da_cons de_str (da_cons (de_v 8) (da_cons (de_v 9) da_nil)))) da_nil))))))) (DE.r (de_op op_mod rz_mod (DE.r (de_op op_fdiv rz_div (dr_v 0) (DE.r de_int))) (DE.r de_int)))))
    (dss_cons (ds_set 11 sc__law_again.nd (de_ix hr.u1 (DE.r (DO.e (do_lst (da_cons (de_ix hr.u1 (dr_v 2) (DE.r de_int)) (da_cons (de_ix hr.u1 (dr_v 2) (DE.r de_int)) (da_cons (de_tup (da_cons de_str (da_cons de_int (da_cons (de_ix hr.u1 (dr_v 2) (DE.r de_int)) da_nil)))) (da_cons (de_tup (da_cons de_str (da_cons (de_ix hr.u1 (dr_v 2) (DE.r (de_neg de_int))) (da_cons de_int da_nil)))) da_nil))))))) (DE.r (de_op op_mod rz_mod (DE.r (de_op op_fdiv rz_div (dr_v 0) (DE.r de_int))) (DE.r de_int)))))
    (dss_one (ds_ret (de_tup (da_cons de_str (da_cons (de_v 11) (da_cons (de_v 8) (da_cons (de_v 10) da_nil)))))))))))))))⟩
theorem ok__law_book (B : Bu mg) (F : Fun K "_law_book" "_law_book" s__law_book fa fd) (k__law_drawn : Kn P w K mg base n "_law_drawn" P__law_drawn (R i__law_drawn)) (k__law_again : Kn P w K mg base n "_law_again" P__law_again (R i__law_again)) (k__law_sum : Kn P w K mg base n "_law_sum" P__law_sum (R i__law_sum)) : FnZ P w K mg base (n + 1) fa fd P__law_book (spZ K P__law_book.length (d__law_book R)) :=
  fnZ (N := N__law_book) (body := b__law_book R) F sc__law_book fun cdv A outer s H hr => ⟨_, (dss_cons (ds_setO 1 sc__law_book.nd (do_lst da_nil))
    (dss_cons (ds_for PassesOwn.never rfl (di_range1 rfl B.range (de_ix hr.u1 (DE.r (de_tup (da_cons de_int (da_cons de_int (da_cons de_int (da_cons de_int (da_cons de_int (da_cons de_int da_nil)))))))) (DE.r (de_op op_mod rz_mod (dr_v 0) (DE.r de_int))))) (dg_name (vs := [2]) 2 sc__law_book.nd)
    (dss_cons (ds_set 3 sc__law_book.nd (de_op op_fdiv rz_div (DE.r (de_call k__law_drawn hr rfl (da_cons (de_v 0) (da_cons (de_v 2) da_nil)))) (DE.r de_int)))
    (dss_cons (ds_set 4 sc__law_book.nd (de_ix hr.u1 (DE.r (DO.e (do_lst (da_cons (de_tup (da_cons de_str da_nil)) (da_cons (de_tup (da_cons de_str (da_cons de_str da_nil))) (da_cons (de_tup (da_cons de_str da_nil)) (da_cons (de_tup (da_cons de_str (da_cons de_str (da_cons de_str da_nil)))) (da_cons (de_tup da_nil) (da_cons (de_tup (da_cons de_str (da_cons de_str da_nil))) da_nil))))))))) (DE.r (de_op op_mod rz_mod (dr_v 3) (DE.r de_int)))))
    (dss_one (ds_app 1 (de_tup (da_cons (de_ix hr.u1 (DE.r (de_tup (da_cons de_str (da_cons de_str (da_cons de_str (da_cons de_str da_nil)))))) (dr_v 2)) (da_cons (de_v 4) da_nil))))))))
    (dss_cons (ds_set 5 sc__law_book.nd (de_tup da_nil))
    (dss_frz 1 (dss_cons (ds_for PassesOwn.never rfl (di_enum rfl B.enumerate (de_v 1)) (dg_tup (n := 2) rfl (dgs_cons (dg_name (vs := [2, 6]) 2 sc__law_book.nd) (dgs_cons (dg_name (vs := [2, 6]) 6 sc__law_book.nd) dgs_nil)))
    (dss_cons (ds_set 3 sc__law_book.nd (de_op op_fdiv rz_div (DE.r (de_call k__law_drawn hr rfl (da_cons (de_v 0) (da_cons (de_op op_addZ rz_add (DE.r de_int) (dr_v 2)) da_nil)))) (DE.r de_int)))
    (dss_frz 1 (dss_cons (ds_lc 7 [("name", 8), ("names", 4)] sc__law_book.nd (di_seq (de_v 1)) (blkOk_by (N := N__law_book) (sc := defScope s__law_book) (by decide +kernel)) (fun _ _ _ _ _ => (dg_tup (n := 2) rfl (dgs_cons (dg_name (vs := [8, 4]) 8 sc__law_book.nd) (dgs_cons (dg_name (vs := [8, 4]) 4 sc__law_book.nd) dgs_nil)))) (fun _ _ _ _ _ => dpt_nil) (fun _ _ _ _ _ => (de_tup (da_cons (de_v 8) (da_cons (de_callB cz_len call_lenZ rfl B.len PySem.boot_len (dar_cons (dr_v 4) dar_nil)) da_nil)))) (sw_true rfl rfl rfl (by decide +kernel)))
    (dss_cons (ds_if (DW.tst (dw_and (db_cmp op_gt rz_gt (DE.r (de_op op_mod rz_mod (dr_v 3) (DE.r de_int))) (DE.r de_int) (nomark _)) (dw_and1 (db_cmp (op_neZ hr.u64) rz_ne (DE.r (de_ix hr.u1 (dr_v 6) (DE.r de_int))) (DE.r (de_tup da_nil)) (nomark _)))))
    (dss_one (ds_set 9 sc__law_book.nd (de_call k__law_again hr rfl (da_cons (de_op op_fdiv rz_div (dr_v 3) (DE.r de_int)) (da_cons (de_ix hr.u1 (dr_v 6) (DE.r de_int)) (da_cons (de_ix hr.u1 (dr_v 6) (DE.r de_int)) (da_cons (de_v 7) da_nil))))))) (dss_one (ds_set 9 sc__law_book.nd (de_call k__law_sum hr rfl (da_cons (de_op op_fdiv rz_div (dr_v 3) (DE.r de_int)) (da_cons (de_ix hr.u1 (dr_v 6) (DE.r de_int)) (da_cons (de_sl (dr_v 7) dpo_none (dpo_some (de_v 2))) (da_cons de_int da_nil))))))))
    (dss_one (ds_set 5 sc__law_book.nd (de_op op_addZ rz_add (dr_v 5) (DE.r (de_tup (da_cons (de_tup (da_cons (de_ix hr.u1 (dr_v 6) (DE.r de_int)) (da_cons (de_ix hr.u1 (dr_v 6) (DE.r de_int)) (da_cons (de_v 9) da_nil)))) da_nil)))))))))))
    (dss_one (ds_ret (de_v 5))))))))⟩
theorem ok__law_cell_at (B : Bu mg) (F : Fun K "_law_cell_at" "_law_cell_at" s__law_cell_at fa fd)  : FnZ P w K mg base (n + 1) fa fd P__law_cell_at (spZ K P__law_cell_at.length (d__law_cell_at R)) :=
  fnZ (N := N__law_cell_at) (body := b__law_cell_at R) F sc__law_cell_at fun cdv A outer s H hr => ⟨_, (dss_cons (ds_if (db_cmp op_lt rz_lt (dr_v 1) (DE.r (de_callB cz_len call_lenZ rfl B.len PySem.boot_len (dar_cons (dr_v 0) dar_nil))) (nomark _))
    (dss_one (ds_ret (de_ix hr.u1 (dr_v 0) (dr_v 1)))) dss_nil)
    (dss_one (ds_ret de_int)))⟩
theorem ok__law_mixed (B : Bu mg) (F : Fun K "_law_mixed" "_law_mixed" s__law_mixed fa fd) (k__law_cell_at : Kn P w K mg base n "_law_cell_at" P__law_cell_at (R i__law_cell_at)) : FnZ P w K mg base (n + 1) fa fd P__law_mixed (spZ K P__law_mixed.length (d__law_mixed R)) :=
  fnZ (N := N__law_mixed) (body := b__law_mixed R) F sc__law_mixed fun cdv A outer s H hr => ⟨_, (dss_cons (ds_set 2 sc__law_mixed.nd (de_op op_mod rz_mod (DE.r (de_op op_mulZ rz_mulZ (DE.r (de_op op_addZ rz_add (DE.r (de_op op_addZ rz_add (DE.r (de_call k__law_cell_at hr rfl (da_cons (de_v 0) (da_cons (de_v 1) da_nil)))) (DE.r (de_op op_mulZ rz_mulZ (DE.r de_int) (dr_v 1))))) (DE.r de_int))) (DE.r de_int))) (DE.r de_int)))
    (dss_one (ds_ret (de_op op_mod rz_mod (DE.r (de_op op_addZ rz_add (DE.r (de_op op_addZ rz_add (DE.r (de_op op_mulZ rz_mulZ (dr_v 2) (dr_v 2))) (DE.r (de_op op_mulZ rz_mulZ (DE.r de_int) (dr_v 2))))) (dr_v 1))) (DE.r de_int)))))⟩
theorem ok_maker_of (B : Bu mg) (F : Fun K "maker_of" "maker_of" s_maker_of fa fd)  : FnZ P w K mg base (n + 1) fa fd P_maker_of (spZ K P_maker_of.length (d_maker_of R)) :=
  fnZ (N := N_maker_of) (body := b_maker_of R) F sc_maker_of fun cdv A outer s H hr => ⟨_, (dss_one (ds_ret (de_ix hr.u1 (DE.r (DO.e (do_lc [("maker", 2)] sc_maker_of.nd (di_seq (de_v 0)) (blkOk_by (N := N_maker_of) (sc := defScope s_maker_of) (by decide +kernel)) (fun _ _ _ _ _ => (dg_name (vs := [2]) 2 sc_maker_of.nd)) (fun _ _ _ _ _ => (dpt_one (db_cmp (op_eqZ hr.u64) rz_eq (DE.r (de_ix hr.u1 (dr_v 2) (DE.r de_int))) (dr_v 1) (nomark _)))) (fun _ _ _ _ _ => (de_v 2))))) (DE.r de_int))))⟩
theorem ok_with_parts (B : Bu mg) (F : Fun K "with_parts" "with_parts" s_with_parts fa fd)  : FnZ P w K mg base (n + 1) fa fd P_with_parts (spZ K P_with_parts.length (d_with_parts R)) :=
  fnZ (N := N_with_parts) (body := b_with_parts R) F sc_with_parts fun cdv A outer s H hr => ⟨_, (dss_cons (ds_if (db_not (db_val (de_isi kit_tup PyProof.Rows.boot_tuple rfl B.isinstance rfl B.tuple (dr_v 0))))
    (dss_one (ds_ret (de_v 0))) dss_nil)
    (dss_cons (ds_if (db_cmp (op_eqZ hr.u64) rz_eq (DE.r (de_ix hr.u1 (dr_v 0) (DE.r de_int))) (DE.r de_str) (nomark _))
    (dss_one (ds_ret (de_tup (da_cons de_str (da_cons (de_ix hr.u1 (dr_v 0) (DE.r de_int)) (da_cons (de_callTy cz_tuple call_tupleZ rfl B.tuple PyProof.Rows.boot_tuple (dar_cons (dr_v 1) dar_nil)) da_nil)))))) dss_nil)
    (dss_one (ds_ret (de_op op_addZ rz_add (DE.r (de_sl (dr_v 0) dpo_none (dpo_some de_int))) (DE.r (de_callTy cz_tuple call_tupleZ rfl B.tuple PyProof.Rows.boot_tuple (dar_cons (dr_v 1) dar_nil))))))))⟩
theorem ok_parts_of (B : Bu mg) (F : Fun K "parts_of" "parts_of" s_parts_of fa fd)  : FnZ P w K mg base (n + 1) fa fd P_parts_of (spZ K P_parts_of.length (d_parts_of R)) :=
  fnZ (N := N_parts_of) (body := b_parts_of R) F sc_parts_of fun cdv A outer s H hr => ⟨_, (dss_cons (ds_if (db_not (db_val (de_isi kit_tup PyProof.Rows.boot_tuple rfl B.isinstance rfl B.tuple (dr_v 0))))
    (dss_one (ds_ret (de_tup da_nil))) dss_nil)
    (dss_cons (ds_if (db_cmp (op_eqZ hr.u64) rz_eq (DE.r (de_ix hr.u1 (dr_v 0) (DE.r de_int))) (DE.r de_str) (nomark _))
    (dss_one (ds_ret (de_ix hr.u1 (dr_v 0) (DE.r de_int)))) dss_nil)
    (dss_one (ds_ret (de_sl (dr_v 0) (dpo_some de_int) dpo_none)))))⟩
theorem ok_replaced (B : Bu mg) (F : Fun K "replaced" "replaced" s_replaced fa fd) (k_with_parts : Kn P w K mg base n "with_parts" P_with_parts (R i_with_parts)) (k_parts_of : Kn P w K mg base n "parts_of" P_parts_of (R i_parts_of)) (k_replaced : Kn P w K mg base n "replaced" P_replaced (R i_replaced)) : FnZ P w K mg base (n + 1) fa fd P_replaced (spZ K P_replaced.length (d_replaced R)) :=
  fnZ (N := N_replaced) (body := b_replaced R) F sc_replaced fun cdv A outer s H hr => ⟨_, (dss_cons (ds_if (db_val (de_isi kit_str PyProof.Rows.boot_str rfl B.isinstance rfl B.str (dr_v 0)))
    (dss_one (ds_ret (de_ix hr.u1 (dr_v 1) (dr_v 0)))) dss_nil)
    (dss_one (ds_ret (de_call k_with_parts hr rfl (da_cons (de_v 0) (da_cons (DO.e (do_lc [("part", 2)] sc_replaced.nd (di_seq (de_call k_parts_of hr rfl (da_cons (de_v 0) da_nil))) (blkOk_by (N := N_replaced) (sc := defScope s_replaced) (by decide +kernel)) (fun _ _ _ _ _ => (dg_name (vs := [2]) 2 sc_replaced.nd)) (fun _ _ _ _ _ => dpt_nil) (fun _ _ _ _ _ => (de_call k_replaced hr rfl (da_cons (de_v 2) (da_cons (de_v 1) da_nil)))))) da_nil))))))⟩
theorem ok_is_simple (B : Bu mg) (F : Fun K "is_simple" "is_simple" s_is_simple fa fd)  : FnZ P w K mg base (n + 1) fa fd P_is_simple (spZ K P_is_simple.length (d_is_simple R)) :=
  fnZ (N := N_is_simple) (body := b_is_simple R) F sc_is_simple fun cdv A outer s H hr => ⟨_, (dss_one (ds_ret (de_not (de_isi kit_tup PyProof.Rows.boot_tuple rfl B.isinstance rfl B.tuple (dr_v 0)))))⟩
theorem ok_placed (B : Bu mg) (F : Fun K "placed" "placed" s_placed fa fd) (k_is_simple : Kn P w K mg base n "is_simple" P_is_simple (R i_is_simple)) (k_replaced : Kn P w K mg base n "replaced" P_replaced (R i_replaced)) (k_with_parts : Kn P w K mg base n "with_parts" P_with_parts (R i_with_parts)) (k_parts_of : Kn P w K mg base n "parts_of" P_parts_of (R i_parts_of)) (k_placed : Kn P w K mg base n "placed" P_placed (R i_placed)) : FnZ P w K mg base (n + 1) fa fd P_placed (spZ K P_placed.length (d_placed R)) :=
  fnZ (N := N_placed) (body := b_placed R) F sc_placed fun cdv A outer s H hr => ⟨_, (dss_cons (ds_if (db_not (db_val (de_isi kit_tup PyProof.Rows.boot_tuple rfl B.isinstance rfl B.tuple (dr_v 0))))
    (dss_one (ds_ret (de_v 0))) dss_nil)
    (dss_cons (ds_if (DW.tst (dw_and (db_cmp (op_eqZ hr.u64) rz_eq (DE.r (de_sl (dr_v 0) dpo_none (dpo_some de_int))) (DE.r (de_tup (da_cons de_str (da_cons (de_ix hr.u1 (dr_v 1) (DE.r de_int)) da_nil)))) (nomark _)) (dw_and1 (db_val (de_callB cz_all (cr_all rfl) rfl B.all PyProof.Rows.boot_all (dar_cons (DE.r (DO.e (do_lc [("part", 2)] sc_placed.nd (di_seq (de_ix hr.u1 (dr_v 0) (DE.r de_int))) (blkOk_by (N := N_placed) (sc := defScope s_placed) (by decide +kernel)) (fun _ _ _ _ _ => (dg_name (vs := [2]) 2 sc_placed.nd)) (fun _ _ _ _ _ => dpt_nil) (fun _ _ _ _ _ => (de_call k_is_simple hr rfl (da_cons (de_v 2) da_nil)))))) dar_nil))))))
    (dss_one (ds_ret (de_call k_replaced hr rfl (da_cons (de_ix hr.u1 (dr_v 1) (DE.r de_int)) (da_cons (DO.e (do_dictP rfl rfl B.dict (DE.r (DO.e (do_lz rfl rfl B.list rfl B.zip (de_ix hr.u1 (dr_v 1) (DE.r de_int)) (de_ix hr.u1 (dr_v 0) (DE.r de_int))))))) da_nil))))) dss_nil)
    (dss_one (ds_ret (de_call k_with_parts hr rfl (da_cons (de_v 0) (da_cons (DO.e (do_lc [("part", 2)] sc_placed.nd (di_seq (de_call k_parts_of hr rfl (da_cons (de_v 0) da_nil))) (blkOk_by (N := N_placed) (sc := defScope s_placed) (by decide +kernel)) (fun _ _ _ _ _ => (dg_name (vs := [2]) 2 sc_placed.nd)) (fun _ _ _ _ _ => dpt_nil) (fun _ _ _ _ _ => (de_call k_placed hr rfl (da_cons (de_v 2) (da_cons (de_v 1) da_nil)))))) da_nil)))))))⟩
theorem ok_inlined (B : Bu mg) (F : Fun K "inlined" "inlined" s_inlined fa fd) (k_maker_of : Kn P w K mg base n "maker_of" P_maker_of (R i_maker_of)) (k_placed : Kn P w K mg base n "placed" P_placed (R i_placed)) : FnZ P w K mg base (n + 1) fa fd P_inlined (spZ K P_inlined.length (d_inlined R)) :=
  fnZ (N := N_inlined) (body := b_inlined R) F sc_inlined fun cdv A outer s H hr => ⟨_, (dss_cons (ds_set 2 sc_inlined.nd (de_call k_maker_of hr rfl (da_cons (de_v 0) (da_cons (de_v 1) da_nil))))
    (dss_cons (ds_setO 3 sc_inlined.nd (do_lst da_nil))
    (dss_cons (ds_for PassesOwn.never rfl (di_seq (de_v 0)) (dg_name (vs := [4]) 4 sc_inlined.nd)
    (dss_one (ds_if (db_cmp (op_eqZ hr.u64) rz_eq (DE.r (de_ix hr.u1 (dr_v 4) (DE.r de_int))) (dr_v 1) (nomark _))
    (dss_one (ds_app 3 (de_v 4))) (dss_one (ds_app 3 (de_tup (da_cons (de_ix hr.u1 (dr_v 4) (DE.r de_int)) (da_cons (de_ix hr.u1 (dr_v 4) (DE.r de_int)) (da_cons (de_call k_placed hr rfl (da_cons (de_ix hr.u1 (dr_v 4) (DE.r de_int)) (da_cons (de_v 2) da_nil))) da_nil)))))))))
    (dss_one (ds_ret (de_callTy cz_tuple call_tupleZ rfl B.tuple PyProof.Rows.boot_tuple (dar_cons (dr_v 3) dar_nil)))))))⟩
theorem ok__law_in_place (B : Bu mg) (F : Fun K "_law_in_place" "_law_in_place" s__law_in_place fa fd) (k__law_in_place : Kn P w K mg base n "_law_in_place" P__law_in_place (R i__law_in_place)) : FnZ P w K mg base (n + 1) fa fd P__law_in_place (spZ K P__law_in_place.length (d__law_in_place R)) :=
  fnZ (N := N__law_in_place) (body := b__law_in_place R) F sc__law_in_place fun cdv A outer s H hr => ⟨_, (dss_cons (ds_if (db_val (de_isi kit_str PyProof.Rows.boot_str rfl B.isinstance rfl B.str (dr_v 0)))
    (dss_one (ds_ret (de_ix hr.u1 (dr_v 1) (dr_v 0)))) dss_nil)
    (dss_cons (ds_if (db_not (db_val (de_isi kit_tup PyProof.Rows.boot_tuple rfl B.isinstance rfl B.tuple (dr_v 0))))
    (dss_one (ds_ret (de_v 0))) dss_nil)
    (dss_cons (ds_if (db_cmp (op_eqZ hr.u64) rz_eq (DE.r (de_ix hr.u1 (dr_v 0) (DE.r de_int))) (DE.r de_str) (nomark _))
    (dss_one (ds_ret (de_tup (da_cons de_str (da_cons (de_ix hr.u1 (dr_v 0) (DE.r de_int)) (da_cons (de_callTy cz_tuple call_tupleZ rfl B.tuple PyProof.Rows.boot_tuple (dar_cons (DE.r (DO.e (do_lc [("part", 2)] sc__law_in_place.nd (di_seq (de_ix hr.u1 (dr_v 0) (DE.r de_int))) (blkOk_by (N := N__law_in_place) (sc := defScope s__law_in_place) (by decide +kernel)) (fun _ _ _ _ _ => (dg_name (vs := [2]) 2 sc__law_in_place.nd)) (fun _ _ _ _ _ => dpt_nil) (fun _ _ _ _ _ => (de_call k__law_in_place hr rfl (da_cons (de_v 2) (da_cons (de_v 1) da_nil))))))) dar_nil)) da_nil)))))) dss_nil)
    (dss_one (ds_ret (de_op op_addZ rz_add (DE.r (de_sl (dr_v 0) dpo_none (dpo_some de_int))) (DE.r (de_callTy cz_tuple call_tupleZ rfl B.tuple PyProof.Rows.boot_tuple (dar_cons (DE.r (DO.e (do_lc [("part", 2)] sc__law_in_place.nd (di_seq (de_sl (dr_v 0) (dpo_some de_int) dpo_none)) (blkOk_by (N := N__law_in_place) (sc := defScope s__law_in_place) (by decide +kernel)) (fun _ _ _ _ _ => (dg_name (vs := [2]) 2 sc__law_in_place.nd)) (fun _ _ _ _ _ => dpt_nil) (fun _ _ _ _ _ => (de_call k__law_in_place hr rfl (da_cons (de_v 2) (da_cons (de_v 1) da_nil))))))) dar_nil)))))))))⟩
theorem ok__law_placed (B : Bu mg) (F : Fun K "_law_placed" "_law_placed" s__law_placed fa fd) (k__law_placed : Kn P w K mg base n "_law_placed" P__law_placed (R i__law_placed)) (k__law_in_place : Kn P w K mg base n "_law_in_place" P__law_in_place (R i__law_in_place)) : FnZ P w K mg base (n + 1) fa fd P__law_placed (spZ K P__law_placed.length (d__law_placed R)) :=
  fnZ (N := N__law_placed) (body := b__law_placed R) F sc__law_placed fun cdv A outer s H hr => ⟨_, (dss_cons (ds_if (db_not (db_val (de_isi kit_tup PyProof.Rows.boot_tuple rfl B.isinstance rfl B.tuple (dr_v 0))))
    (dss_one (ds_ret (de_v 0))) dss_nil)
    (dss_cons (ds_if (db_cmp (op_neZ hr.u64) rz_ne (DE.r (de_ix hr.u1 (dr_v 0) (DE.r de_int))) (DE.r de_str) (nomark _))
    (dss_one (ds_ret (de_op op_addZ rz_add (DE.r (de_sl (dr_v 0) dpo_none (dpo_some de_int))) (DE.r (de_callTy cz_tuple call_tupleZ rfl B.tuple PyProof.Rows.boot_tuple (dar_cons (DE.r (DO.e (do_lc [("part", 2)] sc__law_placed.nd (di_seq (de_sl (dr_v 0) (dpo_some de_int) dpo_none)) (blkOk_by (N := N__law_placed) (sc := defScope s__law_placed) (by decide +kernel)) (fun _ _ _ _ _ => (dg_name (vs := [2]) 2 sc__law_placed.nd)) (fun _ _ _ _ _ => dpt_nil) (fun _ _ _ _ _ => (de_call k__law_placed hr rfl (da_cons (de_v 2) (da_cons (de_v 1) da_nil))))))) dar_nil)))))) dss_nil)
    (dss_cons (ds_if (DW.tst (dw_and (db_cmp (op_eqZ hr.u64) rz_eq (DE.r (de_ix hr.u1 (dr_v 0) (DE.r de_int))) (DE.r (de_ix hr.u1 (dr_v 1) (DE.r de_int))) (nomark _)) (dw_and1 (db_cmp (op_eqZ hr.u64) rz_eq (DE.r (DO.e (do_lc [("part", 2)] sc__law_placed.nd (di_seq (de_ix hr.u1 (dr_v 0) (DE.r de_int))) (blkOk_by (N := N__law_placed) (sc := defScope s__law_placed) (by decide +kernel)) (fun _ _ _ _ _ => (dg_name (vs := [2]) 2 sc__law_placed.nd)) (fun _ _ _ _ _ => (dpt_one (db_val (de_isi kit_tup PyProof.Rows.boot_tuple rfl B.isinstance rfl B.tuple (dr_v 2))))) (fun _ _ _ _ _ => (de_v 2))))) (DE.r (DO.e (do_lst da_nil))) (nomark _)))))
    (dss_one (ds_ret (de_call k__law_in_place hr rfl (da_cons (de_ix hr.u1 (dr_v 1) (DE.r de_int)) (da_cons (DO.e (do_dictP rfl rfl B.dict (DE.r (DO.e (do_lz rfl rfl B.list rfl B.zip (de_ix hr.u1 (dr_v 1) (DE.r de_int)) (de_ix hr.u1 (dr_v 0) (DE.r de_int))))))) da_nil))))) dss_nil)
    (dss_one (ds_ret (de_tup (da_cons de_str (da_cons (de_ix hr.u1 (dr_v 0) (DE.r de_int)) (da_cons (de_callTy cz_tuple call_tupleZ rfl B.tuple PyProof.Rows.boot_tuple (dar_cons (DE.r (DO.e (do_lc [("part", 2)] sc__law_placed.nd (di_seq (de_ix hr.u1 (dr_v 0) (DE.r de_int))) (blkOk_by (N := N__law_placed) (sc := defScope s__law_placed) (by decide +kernel)) (fun _ _ _ _ _ => (dg_name (vs := [2]) 2 sc__law_placed.nd)) (fun _ _ _ _ _ => dpt_nil) (fun _ _ _ _ _ => (de_call k__law_placed hr rfl (da_cons (de_v 2) (da_cons (de_v 1) da_nil))))))) dar_nil)) da_nil)))))))))⟩
theorem ok_law (B : Bu mg) (F : Fun K "law" "law" s_law fa fd) (k__law_book : Kn P w K mg base n "_law_book" P__law_book (R i__law_book)) (k__law_mixed : Kn P w K mg base n "_law_mixed" P__law_mixed (R i__law_mixed)) (k__law_placed : Kn P w K mg base n "_law_placed" P__law_placed (R i__law_placed)) (k_inlined : Kn P w K mg base n "inlined" P_inlined (R i_inlined)) : FnZ P w K mg base (n + 1) fa fd P_law (spZ K P_law.length (d_law R)) :=
  fnZ (N := N_law) (body := b_law R) F sc_law fun cdv A outer s H hr => ⟨_, (dss_cons (ds_set 1 sc_law.nd (de_call k__law_book hr rfl (da_cons (de_call k__law_mixed hr rfl (da_cons (de_v 0) (da_cons de_int da_nil))) da_nil)))
    (dss_cons (ds_set 2 sc_law.nd (de_call k__law_mixed hr rfl (da_cons (de_v 0) (da_cons de_int da_nil))))
    (dss_cons (ds_set 3 sc_law.nd (de_ix hr.u1 (dr_v 1) (DE.r (de_op op_mod rz_mod (dr_v 2) (DE.r (de_callB cz_len call_lenZ rfl B.len PySem.boot_len (dar_cons (dr_v 1) dar_nil)))))))
    (dss_cons (ds_set 4 sc_law.nd (de_tup da_nil))
    (dss_cons (ds_for PassesOwn.never rfl (di_seq (de_v 1)) (dg_name (vs := [5]) 5 sc_law.nd)
    (dss_cons (ds_if (db_cmp (op_neZ hr.u64) rz_ne (dr_v 5) (dr_v 3) (nomark _))
    (dss_one (ds_set 5 sc_law.nd (de_tup (da_cons (de_ix hr.u1 (dr_v 5) (DE.r de_int)) (da_cons (de_ix hr.u1 (dr_v 5) (DE.r de_int)) (da_cons (de_call k__law_placed hr rfl (da_cons (de_ix hr.u1 (dr_v 5) (DE.r de_int)) (da_cons (de_v 3) da_nil))) da_nil)))))) dss_nil)
    (dss_one (ds_set 4 sc_law.nd (de_op op_addZ rz_add (dr_v 4) (DE.r (de_tup (da_cons (de_v 5) da_nil))))))))
    (dss_one (ds_ret (de_cmp (op_eqZ hr.u64) rz_eq (DE.r (de_call k_inlined hr rfl (da_cons (de_v 1) (da_cons (de_ix hr.u1 (dr_v 3) (DE.r de_int)) da_nil)))) (dr_v 4) (nomark _)))))))))⟩
end
def Rn : Nat → Nat → List D → Option D
  | 0, _ => fun _ => none
  | n + 1, 0 => d__law_drawn (Rn n)
  | n + 1, 1 => d__law_sum (Rn n)
  | n + 1, 2 => d__law_again (Rn n)
  | n + 1, 3 => d__law_book (Rn n)
  | n + 1, 4 => d__law_cell_at (Rn n)
  | n + 1, 5 => d__law_mixed (Rn n)
  | n + 1, 6 => d_maker_of (Rn n)
  | n + 1, 7 => d_with_parts (Rn n)
  | n + 1, 8 => d_parts_of (Rn n)
  | n + 1, 9 => d_replaced (Rn n)
  | n + 1, 10 => d_is_simple (Rn n)
  | n + 1, 11 => d_placed (Rn n)
  | n + 1, 12 => d_inlined (Rn n)
  | n + 1, 13 => d__law_in_place (Rn n)
  | n + 1, 14 => d__law_placed (Rn n)
  | n + 1, 15 => d_law (Rn n)
  | _ + 1, _ => fun _ => none
structure Tx (K : PySem.W.Frag) (mg : Str → Option Value) : Prop where
  _law_drawn : Ft K mg "_law_drawn" s__law_drawn P__law_drawn
  _law_sum : Ft K mg "_law_sum" s__law_sum P__law_sum
  _law_again : Ft K mg "_law_again" s__law_again P__law_again
  _law_book : Ft K mg "_law_book" s__law_book P__law_book
  _law_cell_at : Ft K mg "_law_cell_at" s__law_cell_at P__law_cell_at
  _law_mixed : Ft K mg "_law_mixed" s__law_mixed P__law_mixed
  maker_of : Ft K mg "maker_of" s_maker_of P_maker_of
  with_parts : Ft K mg "with_parts" s_with_parts P_with_parts
  parts_of : Ft K mg "parts_of" s_parts_of P_parts_of
  replaced : Ft K mg "replaced" s_replaced P_replaced
  is_simple : Ft K mg "is_simple" s_is_simple P_is_simple
  placed : Ft K mg "placed" s_placed P_placed
  inlined : Ft K mg "inlined" s_inlined P_inlined
  _law_in_place : Ft K mg "_law_in_place" s__law_in_place P__law_in_place
  _law_placed : Ft K mg "_law_placed" s__law_placed P__law_placed
  law : Ft K mg "law" s_law P_law
structure Al (P : Program) (w : World) (K : PySem.W.Frag) (mg : Str → Option Value) (base : Heap) (n : Nat) : Prop where
  _law_drawn : Kn P w K mg base n "_law_drawn" P__law_drawn (Rn n i__law_drawn)
  _law_sum : Kn P w K mg base n "_law_sum" P__law_sum (Rn n i__law_sum)
  _law_again : Kn P w K mg base n "_law_again" P__law_again (Rn n i__law_again)
  _law_book : Kn P w K mg base n "_law_book" P__law_book (Rn n i__law_book)
  _law_cell_at : Kn P w K mg base n "_law_cell_at" P__law_cell_at (Rn n i__law_cell_at)
  _law_mixed : Kn P w K mg base n "_law_mixed" P__law_mixed (Rn n i__law_mixed)
  maker_of : Kn P w K mg base n "maker_of" P_maker_of (Rn n i_maker_of)
  with_parts : Kn P w K mg base n "with_parts" P_with_parts (Rn n i_with_parts)
  parts_of : Kn P w K mg base n "parts_of" P_parts_of (Rn n i_parts_of)
  replaced : Kn P w K mg base n "replaced" P_replaced (Rn n i_replaced)
  is_simple : Kn P w K mg base n "is_simple" P_is_simple (Rn n i_is_simple)
  placed : Kn P w K mg base n "placed" P_placed (Rn n i_placed)
  inlined : Kn P w K mg base n "inlined" P_inlined (Rn n i_inlined)
  _law_in_place : Kn P w K mg base n "_law_in_place" P__law_in_place (Rn n i__law_in_place)
  _law_placed : Kn P w K mg base n "_law_placed" P__law_placed (Rn n i__law_placed)
  law : Kn P w K mg base n "law" P_law (Rn n i_law)
theorem al {P : Program} {w : World} {K : PySem.W.Frag} {mg : Str → Option Value} {base : Heap} (B : Bu mg) (T : Tx K mg) : ∀ n, Al P w K mg base n
  | 0 => ⟨.zero T._law_drawn, .zero T._law_sum, .zero T._law_again, .zero T._law_book, .zero T._law_cell_at, .zero T._law_mixed, .zero T.maker_of, .zero T.with_parts, .zero T.parts_of, .zero T.replaced, .zero T.is_simple, .zero T.placed, .zero T.inlined, .zero T._law_in_place, .zero T._law_placed, .zero T.law⟩
  | n + 1 => by
    have ih := al (P := P) (w := w) (base := base) B T n
    exact ⟨.succ T._law_drawn fun _ _ F => ok__law_drawn B F ,
      .succ T._law_sum fun _ _ F => ok__law_sum B F ih._law_sum ih._law_drawn,
      .succ T._law_again fun _ _ F => ok__law_again B F ih._law_sum ih._law_drawn,
      .succ T._law_book fun _ _ F => ok__law_book B F ih._law_drawn ih._law_again ih._law_sum,
      .succ T._law_cell_at fun _ _ F => ok__law_cell_at B F ,
      .succ T._law_mixed fun _ _ F => ok__law_mixed B F ih._law_cell_at,
      .succ T.maker_of fun _ _ F => ok_maker_of B F ,
      .succ T.with_parts fun _ _ F => ok_with_parts B F ,
      .succ T.parts_of fun _ _ F => ok_parts_of B F ,
      .succ T.replaced fun _ _ F => ok_replaced B F ih.with_parts ih.parts_of ih.replaced,
      .succ T.is_simple fun _ _ F => ok_is_simple B F ,
      .succ T.placed fun _ _ F => ok_placed B F ih.is_simple ih.replaced ih.with_parts ih.parts_of ih.placed,
      .succ T.inlined fun _ _ F => ok_inlined B F ih.maker_of ih.placed,
      .succ T._law_in_place fun _ _ F => ok__law_in_place B F ih._law_in_place,
      .succ T._law_placed fun _ _ F => ok__law_placed B F ih._law_placed ih._law_in_place,
      .succ T.law fun _ _ F => ok_law B F ih._law_book ih._law_mixed ih._law_placed ih.inlined⟩
end W

namespace W
open PySem L2 Z
def mixZ (c k : Int) : Int := (((c + 7919 * k + 1) * 48271 % 2147483647) * ((c + 7919 * k + 1) * 48271 % 2147483647) + 7 * ((c + 7919 * k + 1) * 48271 % 2147483647) + k) % 2147483629
def drwZ (a k : Int) : Int := (((a + 104729 * k + 17) * 69621 % 2147483647) * ((a + 104729 * k + 17) * 69621 % 2147483647) + 3 * ((a + 104729 * k + 17) * 69621 % 2147483647) + k) % 2147483629
theorem mixZ_nn (c k : Int) : 0 ≤ mixZ c k := Int.emod_nonneg _ (by decide)
theorem drwZ_nn (c k : Int) : 0 ≤ drwZ c k := Int.emod_nonneg _ (by decide)
theorem ev_sq (x : Int) : oMulZ (.int (x % 2147483647)) (.int (x % 2147483647)) = some (.int (x % 2147483647 * (x % 2147483647))) :=
  ev_mulS (Int.emod_nonneg _ (by decide)) (by have := Int.emod_lt_of_pos x (show (0 : Int) < 2147483647 by decide); omega)
section
variable {R : Nat → List D → Option D}
theorem cell_ok (ns : List Int) (k : Nat) : ∃ c : Int, d__law_cell_at R [.list (ns.map .int), .int k] = some (.int c) := by
  by_cases h : (k : Int) < ns.length
  · have h2 : k < ns.length := by omega
    refine ⟨ns[k], ?_⟩
    simp [d__law_cell_at, b__law_cell_at, h, h2, atI_ofNat]
  · refine ⟨0, ?_⟩
    simp [d__law_cell_at, b__law_cell_at, h]
theorem mixed_ok {s : D} {c : Int} {k : Nat} (hc : R i__law_cell_at [s, .int k] = some (.int c)) : d__law_mixed R [s, .int k] = some (.int (mixZ c k)) := by
  simp [-ev_mulI, d__law_mixed, b__law_mixed, hc, ev_sq, ev_mulI 7919, ev_mulI _ 48271, ev_mulI 7, mixZ]
theorem drawn_ok (a k : Int) : d__law_drawn R [.int a, .int k] = some (.int (drwZ a k)) := by
  simp [-ev_mulI, d__law_drawn, b__law_drawn, ev_sq, ev_mulI 104729, ev_mulI _ 69621, ev_mulI 3, drwZ]
/-- the leaf that is drawn -/
theorem leaf_ok {num : Int} {ns : List Str} (h0 : 0 ≤ num) (hn : ns.length ≤ 3) (hs : List (Str × Nat)) (d : Nat) :
    ∃ s : Sm, WfS ns hs d s ∧ atI ([PyData.int (num / 4 % 1000), .int (num / 4 % 4)] ++ ns.map PyData.str) (num / 64 % ((2 + ns.length : Nat) : Int)) = some (sumD s) := by
  obtain ⟨x, hx, hm⟩ := atI_nn (l := [PyData.int (num / 4 % 1000), .int (num / 4 % 4)] ++ ns.map PyData.str) (i := num / 64 % ((2 + ns.length : Nat) : Int)) (Int.emod_nonneg _ (by omega)) (by
    have := Int.emod_lt_of_pos (num / 64) (show (0 : Int) < ((2 + ns.length : Nat) : Int) by omega)
    simp only [List.length_append, List.length_cons, List.length_nil, List.length_map]
    omega)
  rw [hx]
  rcases List.mem_append.mp hm with hm | hm
  · rcases List.mem_cons.mp hm with e | hm
    · exact ⟨.num (num / 4 % 1000), .num (Int.emod_nonneg _ (by decide)) (by have := Int.emod_lt_of_pos (num / 4) (show (0 : Int) < 1000 by decide); omega), by rw [e]; rfl⟩
    · rcases List.mem_cons.mp hm with e | hm
      · exact ⟨.num (num / 4 % 4), .num (Int.emod_nonneg _ (by decide)) (by have := Int.emod_lt_of_pos (num / 4) (show (0 : Int) < 4 by decide); omega), by rw [e]; rfl⟩
      · cases hm
  · obtain ⟨y, hy, e⟩ := List.mem_map.mp hm
    exact ⟨.nm y, .nm hy, by rw [← e]; rfl⟩
theorem sum_leaf {num : Int} {ns : List Str} {hs : List (Str × Nat)} {deep : Int} (h0 : 0 ≤ num) (hn : ns.length ≤ 3) (hd : deep = 0 ∨ num % 4 = 0) (d : Nat) :
    ∃ s : Sm, WfS ns hs d s ∧ d__law_sum R [.int num, nmsD ns, headsD hs, .int deep] = some (sumD s) := by
  obtain ⟨s, h1, h2⟩ := leaf_ok h0 hn hs d
  refine ⟨s, h1, ?_⟩
  have hz : 2 + ns.length ≤ sizeLine := sz (by omega)
  have hl : (0 : Int) < 2 + (ns.length : Int) := by omega
  have hb : (bOr (bOf (dOp2 oEq (dVarT 3) (dC (.int 0)))) (bOf (dOp2 oEq (dOp2 oMod (dVarT 0) (dC (.int 4))) (dC (.int 0))))) [.im (.int num), .im (nmsD ns), .im (headsD hs), .im (.int deep), .no, .no, .no, .no, .no] = some true := by
    by_cases hd0 : deep = 0
    · simp [hd0]
    · have : num % 4 = 0 := hd.resolve_left hd0
      simp [hd0, this]
  have e1 : (ns.length : Int) + 1 + 1 = 2 + (ns.length : Int) := by omega
  simp at h2
  simp [-ev_bOr, d__law_sum, b__law_sum, hb]
  simp [hz, e1, hl, h2]
/-- three parts, by the machine one level down -/
theorem sum_parts {num : Int} {ns : List Str} {hs : List (Str × Nat)} {d : Nat} (hdr : ∀ a k, R i__law_drawn [.int a, .int k] = some (.int (drwZ a k)))
    (hR : ∀ num : Int, 0 ≤ num → ∃ s : Sm, WfS ns hs d s ∧ R i__law_sum [.int num, nmsD ns, headsD hs, .int d] = some (sumD s)) :
    ∃ a b c : Sm, WfS ns hs d a ∧ WfS ns hs d b ∧ WfS ns hs d c ∧ R i__law_sum [.int (drwZ num 1 / 4), nmsD ns, headsD hs, .int d] = some (sumD a) ∧ R i__law_sum [.int (drwZ num 2 / 4), nmsD ns, headsD hs, .int d] = some (sumD b) ∧ R i__law_sum [.int (drwZ num 3 / 4), nmsD ns, headsD hs, .int d] = some (sumD c) := by
  obtain ⟨a, ha, ra⟩ := hR (drwZ num 1 / 4) (Int.ediv_nonneg (drwZ_nn _ _) (by decide))
  obtain ⟨b, hb, rb⟩ := hR (drwZ num 2 / 4) (Int.ediv_nonneg (drwZ_nn _ _) (by decide))
  obtain ⟨c, hc, rc⟩ := hR (drwZ num 3 / 4) (Int.ediv_nonneg (drwZ_nn _ _) (by decide))
  exact ⟨a, b, c, ha, hb, hc, ra, rb, rc⟩
theorem sum_step {num : Int} {ns : List Str} {hs : List (Str × Nat)} {d : Nat} (h0 : 0 ≤ num) (hn : ns.length ≤ 3) (h3 : ∀ h ∈ hs, h.2 ≤ 3) (hdr : ∀ a k, R i__law_drawn [.int a, .int k] = some (.int (drwZ a k)))
    (hR : ∀ num : Int, 0 ≤ num → ∃ s : Sm, WfS ns hs d s ∧ R i__law_sum [.int num, nmsD ns, headsD hs, .int d] = some (sumD s)) :
    ∃ s : Sm, WfS ns hs (d + 1) s ∧ d__law_sum R [.int num, nmsD ns, headsD hs, .int ((d + 1 : Nat) : Int)] = some (sumD s) := by
  by_cases h4 : num % 4 = 0
  · exact sum_leaf h0 hn (.inr h4) (d + 1)
  have hd1 : ¬ ((d : Int) + 1 = 0) := by omega
  have hd2 : (d : Int) + 1 - 1 = d := by omega
  obtain ⟨a, b, c, wa, wb, wc, ra, rb, rc⟩ := sum_parts (num := num) hdr hR
  by_cases h1 : num % 4 = 1 ∧ 0 < hs.length
  · obtain ⟨h1, hl⟩ := h1
    have hl' : (0 : Int) < (hs.length : Int) := by omega
    obtain ⟨x, hx, hm⟩ := atI_nn (l := hs.map headD) (i := num / 16 % (hs.length : Int)) (Int.emod_nonneg _ (by omega)) (by rw [List.length_map]; exact Int.emod_lt_of_pos _ hl')
    obtain ⟨⟨f, m⟩, hf, e⟩ := List.mem_map.mp hm
    subst e
    have hm3 : m ≤ 3 := h3 _ hf
    refine ⟨.call f ([a, b, c].take m), .call (by rw [List.length_take]; simp; rw [Nat.min_eq_left (by omega)]; exact hf) (fun s hs => ?_), ?_⟩
    · have := List.mem_of_mem_take hs
      simp at this
      rcases this with rfl | rfl | rfl <;> assumption
    · have ep : (oSl (.list [sumD a, sumD b, sumD c]) none (some (m : Int))) = some (.list (sumDs ([a, b, c].take m))) := by
        match m, hm3 with
        | 0, _ => rfl
        | 1, _ => rfl
        | 2, _ => rfl
        | 3, _ => rfl
      simp [-ev_slL, d__law_sum, b__law_sum, h4, hd1, hd2, ev_lc1, lcO_s, hdr, ra, rb, rc, h1, hl, hx, ep, sumD]
  · have hb : (bAnd (bOf (dOp2 oEq (dOp2 oMod (dVarT 0) (dC (.int 4))) (dC (.int 1)))) (bOf (dOp2 oGt (dCB oLen (dCons (dVarT 2) dNil)) (dC (.int 0))))) [.im (.int num), .im (nmsD ns), .im (headsD hs), .im (.int ((d : Int) + 1)), .no, .im (.list [sumD a, sumD b, sumD c]), .no, .no, .no] = some false := by
      by_cases q : num % 4 = 1
      · have : ¬ 0 < hs.length := fun z => h1 ⟨q, z⟩
        have e : hs = [] := List.eq_nil_of_length_eq_zero (by omega)
        simp [q, e]
      · simp [q]
    by_cases h2 : num % 4 = 2
    · refine ⟨.ite a b c, .ite wa wb wc, ?_⟩
      simp [-ev_bAnd, d__law_sum, b__law_sum, h4, hd1, hd2, ev_lc1, lcO_s, hdr, ra, rb, rc, hb, h2, sumD]
    · obtain ⟨x, hx, hm⟩ := atI_nn (l := ([.str "plus", .str "less", .str "times", .str "same", .str "under", .str "plus"] : List D)) (i := num / 16 % 6) (Int.emod_nonneg _ (by decide)) (by
        have := Int.emod_lt_of_pos (num / 16) (show (0 : Int) < 6 by decide)
        simp
        omega)
      obtain ⟨w, hw, e⟩ : ∃ w : Str, w ∈ opWords ∧ x = .str w := by
        simp at hm
        rcases hm with e | e | e | e | e | e <;> exact ⟨_, by simp, e⟩
      subst e
      refine ⟨.op w a b, .op hw wa wb, ?_⟩
      simp [-ev_bAnd, d__law_sum, b__law_sum, h4, hd1, hd2, ev_lc1, lcO_s, hdr, ra, rb, rc, hb, h2, sumD, hx]
end
theorem drawn_Rn (n : Nat) (a k : Int) : Rn (n + 1) i__law_drawn [.int a, .int k] = some (.int (drwZ a k)) := drawn_ok (R := Rn n) a k
theorem mixed_Rn (n : Nat) (ns : List Int) (k : Nat) : ∃ m : Int, 0 ≤ m ∧ Rn (n + 2) i__law_mixed [.list (ns.map .int), .int k] = some (.int m) := by
  obtain ⟨c, hc⟩ := cell_ok (R := Rn n) ns k
  exact ⟨mixZ c k, mixZ_nn _ _, mixed_ok (R := Rn (n + 1)) hc⟩
/-- all sums, by fuel -/
theorem sum_Rn {ns : List Str} {hs : List (Str × Nat)} (hn : ns.length ≤ 3) (h3 : ∀ h ∈ hs, h.2 ≤ 3) : ∀ (d n : Nat) (num : Int), 0 ≤ num → ∃ s : Sm, WfS ns hs d s ∧ Rn (n + d + 2) i__law_sum [.int num, nmsD ns, headsD hs, .int (d : Nat)] = some (sumD s)
  | 0, n, num, h0 => sum_leaf (R := Rn (n + 1)) (hs := hs) h0 hn (.inl rfl) 0
  | d + 1, n, num, h0 => sum_step (R := Rn (n + d + 2)) h0 hn h3 (fun a k => drawn_Rn _ a k) fun num h => sum_Rn hn h3 d n num h
section
variable {R : Nat → List D → Option D}
theorem atI2 {x y : D} (num : Int) : atI [x, y] (num % 2) = some (if num % 2 = 0 then x else y) := by
  by_cases h : num % 2 = 0
  · rw [if_pos h, h]; rfl
  · have : num % 2 = 1 := by omega
    rw [if_neg h, this]; rfl
theorem atI4 {x0 x1 x2 x3 : D} (i : Int) : ∃ z, z ∈ [x0, x1, x2, x3] ∧ atI [x0, x1, x2, x3] (i % 4) = some z := by
  obtain ⟨x, hx, hm⟩ := atI_nn (l := [x0, x1, x2, x3]) (i := i % 4) (Int.emod_nonneg _ (by decide)) (by
    have := Int.emod_lt_of_pos i (show (0 : Int) < 4 by decide)
    simp
    omega)
  exact ⟨x, hm, hx⟩
/-- a maker that calls itself or another, again and again -/
theorem again_ok {num : Int} {name n0 : Str} {ns : List Str} {hs : List (Str × Nat)} (h0 : 0 ≤ num) (hn : ns.length ≤ 3) (h00 : ns[0]? = some n0) (h3 : ∀ h ∈ hs, h.2 ≤ 3) (hin : (name, ns.length) ∈ hs)
    (hdr : ∀ a k, R i__law_drawn [.int a, .int k] = some (.int (drwZ a k)))
    (hR : ∀ (d : Nat) (num : Int), d ≤ 2 → 0 ≤ num → ∃ s : Sm, WfS ns [] d s ∧ R i__law_sum [.int num, nmsD ns, .list [], .int (d : Nat)] = some (sumD s)) :
    ∃ s : Sm, WfS ns hs 4 s ∧ d__law_again R [.int num, .str name, nmsD ns, headsD hs] = some (sumD s) := by
  have hn0 : n0 ∈ ns := List.mem_of_getElem? h00
  have hl : 0 < hs.length := List.length_pos_of_mem hin
  have hl' : (0 : Int) < (hs.length : Int) := by omega
  obtain ⟨x, hx, hm⟩ := atI_nn (l := hs.map headD) (i := num / 4 % (hs.length : Int)) (Int.emod_nonneg _ (by omega)) (by rw [List.length_map]; exact Int.emod_lt_of_pos _ hl')
  obtain ⟨h1, hh1, e⟩ := List.mem_map.mp hm
  subst e
  -- which is called
  obtain ⟨⟨f, m⟩, hf, hsel⟩ : ∃ h : Str × Nat, h ∈ hs ∧ atI [PyData.tuple [.str name, .int (ns.length : Nat)], headD h1] (num % 2) = some (headD h) := by
    rw [atI2]
    by_cases q : num % 2 = 0
    · rw [if_pos q]; exact ⟨_, hin, rfl⟩
    · rw [if_neg q]; exact ⟨_, hh1, rfl⟩
  have hm3 : m ≤ 3 := h3 _ hf
  obtain ⟨s1, w1, r1⟩ := hR 1 (drwZ num 11 / 4) (by decide) (Int.ediv_nonneg (drwZ_nn _ _) (by decide))
  obtain ⟨s2, w2, r2⟩ := hR 1 (drwZ num 12 / 4) (by decide) (Int.ediv_nonneg (drwZ_nn _ _) (by decide))
  obtain ⟨sr, wr, rr⟩ := hR 1 (drwZ num 14 / 4) (by decide) (Int.ediv_nonneg (drwZ_nn _ _) (by decide))
  obtain ⟨sb, wb, rb⟩ := hR 2 (drwZ num 15 / 4) (by decide) (Int.ediv_nonneg (drwZ_nn _ _) (by decide))
  have nohs : ∀ {d d' : Nat} {s : Sm}, WfS ns [] d s → d ≤ d' → WfS ns hs d' s := fun h hd => h.mono hd fun x hx => nomatch hx
  have wl : ∀ d : Nat, WfS ns hs (d + 1) (.op "less" (.nm n0) (.num 1)) := fun d => .op (by simp) (.nm hn0) (.num (by decide) (by decide))
  have fin : ∀ as : List Sm, (∀ a ∈ as, WfS ns hs 1 a) → as.length = m → ∃ st : Sm, WfS ns hs 3 st ∧
      atI [PyData.tuple [.str "call", .str f, .tuple (sumDs as)], .tuple [.str "plus", sumD sr, .tuple [.str "call", .str f, .tuple (sumDs as)]], .tuple [.str "times", .tuple [.str "call", .str f, .tuple (sumDs as)], sumD sr], .tuple [.str "less", .tuple [.str "call", .str f, .tuple (sumDs as)], sumD sr]] (num / 64 % 4) = some (sumD st) := by
    intro as ha hlen
    have wc : WfS ns hs 2 (.call f as) := .call (by rw [hlen]; exact hf) ha
    have wr' : WfS ns hs 2 sr := nohs wr (by decide)
    obtain ⟨z, hz, ez⟩ := atI4 (x0 := PyData.tuple [.str "call", .str f, .tuple (sumDs as)]) (x1 := .tuple [.str "plus", sumD sr, .tuple [.str "call", .str f, .tuple (sumDs as)]]) (x2 := .tuple [.str "times", .tuple [.str "call", .str f, .tuple (sumDs as)], sumD sr]) (x3 := .tuple [.str "less", .tuple [.str "call", .str f, .tuple (sumDs as)], sumD sr]) (num / 64)
    rw [ez]
    simp at hz
    rcases hz with e | e | e | e
    · exact ⟨.call f as, wc.mono (by decide) fun _ h => h, by rw [e]; rfl⟩
    · exact ⟨.op "plus" sr (.call f as), .op (by simp) wr' wc, by rw [e]; rfl⟩
    · exact ⟨.op "times" (.call f as) sr, .op (by simp) wc wr', by rw [e]; rfl⟩
    · exact ⟨.op "less" (.call f as) sr, .op (by simp) wc wr', by rw [e]; rfl⟩
  obtain ⟨nl, hnl, enl⟩ : ∃ nl : Str, nl ∈ ns ∧ atI (ns.map PyData.str) (-1) = some (.str nl) := by
    have hne : ns ≠ [] := fun z => by rw [z] at hn0; cases hn0
    refine ⟨ns.getLast hne, List.getLast_mem _, ?_⟩
    have e : ns.map PyData.str = (ns.dropLast.map PyData.str) ++ [.str (ns.getLast hne)] := by
      rw [← List.map_singleton, ← List.map_append, List.dropLast_concat_getLast]
    rw [e]
    exact atI_last _ _
  obtain ⟨t, wt, et⟩ : ∃ t : Sm, WfS ns hs 3 t ∧ atI [PyData.str n0, .str n0, .tuple [.str "under", .int 0, .str n0], .tuple [.str "same", .str nl, .int 1]] (num / 256 % 4) = some (sumD t) := by
    obtain ⟨z, hz, ez⟩ := atI4 (x0 := PyData.str n0) (x1 := .str n0) (x2 := .tuple [.str "under", .int 0, .str n0]) (x3 := .tuple [.str "same", .str nl, .int 1]) (num / 256)
    rw [ez]
    simp at hz
    rcases hz with e | e | e
    · exact ⟨.nm n0, .nm hn0, by rw [e]; rfl⟩
    · exact ⟨.op "under" (.num 0) (.nm n0), .op (by simp) (.num (by decide) (by decide)) (.nm hn0), by rw [e]; rfl⟩
    · exact ⟨.op "same" (.nm nl) (.num 1), .op (by simp) (.nm hnl) (.num (by decide) (by decide)), by rw [e]; rfl⟩
  have wb' : WfS ns hs 3 sb := nohs wb (by decide)
  have nn0 : ∀ k : Int, 0 ≤ drwZ num k / 4 := fun k => Int.ediv_nonneg (drwZ_nn _ _) (by decide)
  have r1 : R i__law_sum [.int (drwZ num 11 / 4), nmsD ns, .list [], .int 1] = some (sumD s1) := r1
  have r2 : R i__law_sum [.int (drwZ num 12 / 4), nmsD ns, .list [], .int 1] = some (sumD s2) := r2
  have rr : R i__law_sum [.int (drwZ num 14 / 4), nmsD ns, .list [], .int 1] = some (sumD sr) := rr
  have rb : R i__law_sum [.int (drwZ num 15 / 4), nmsD ns, .list [], .int 2] = some (sumD sb) := rb
  have wl1 : WfS ns hs 1 (.op "less" (.nm n0) (.num 1)) := wl 0
  match m, hm3, hsel, fin with
  | 0, _, hsel, fin =>
    obtain ⟨st, ws, es⟩ := fin [] (by simp) rfl
    refine ⟨.ite t st sb, .ite wt ws wb', ?_⟩
    have sl : oSl (.list [PyData.tuple [.str "less", .str n0, .int 1]]) none (some 0) = some (.list (sumDs [])) := rfl
    simp [-ev_slL, d__law_again, b__law_again, hx, hsel, rng2O_s, rangeD, hdr, rr, rb, sl, hl, h00, enl, et, es, sumD]
  | 1, _, hsel, fin =>
    obtain ⟨st, ws, es⟩ := fin [.op "less" (.nm n0) (.num 1)] (by simpa using wl1) rfl
    refine ⟨.ite t st sb, .ite wt ws wb', ?_⟩
    have sl : oSl (.list [PyData.tuple [.str "less", .str n0, .int 1]]) none (some 1) = some (.list (sumDs [.op "less" (.nm n0) (.num 1)])) := rfl
    simp [-ev_slL, d__law_again, b__law_again, hx, hsel, rng2O_s, rangeD, hdr, rr, rb, sl, hl, h00, enl, et, es, sumD]
  | 2, _, hsel, fin =>
    obtain ⟨st, ws, es⟩ := fin [.op "less" (.nm n0) (.num 1), s1] (by simp; exact ⟨wl1, nohs w1 (by decide)⟩) rfl
    refine ⟨.ite t st sb, .ite wt ws wb', ?_⟩
    have sl : oSl (.list [PyData.tuple [.str "less", .str n0, .int 1], sumD s1]) none (some 2) = some (.list (sumDs [.op "less" (.nm n0) (.num 1), s1])) := rfl
    simp [-ev_slL, d__law_again, b__law_again, hx, hsel, rng2O_s, rangeD, List.range_succ, ev_for1, appR_s, hdr, r1, rr, rb, sl, hl, h00, enl, et, es, sumD]
  | 3, _, hsel, fin =>
    obtain ⟨st, ws, es⟩ := fin [.op "less" (.nm n0) (.num 1), s1, s2] (by simp; exact ⟨wl1, nohs w1 (by decide), nohs w2 (by decide)⟩) rfl
    refine ⟨.ite t st sb, .ite wt ws wb', ?_⟩
    have sl : oSl (.list [PyData.tuple [.str "less", .str n0, .int 1], sumD s1, sumD s2]) none (some 3) = some (.list (sumDs [.op "less" (.nm n0) (.num 1), s1, s2])) := rfl
    simp [-ev_slL, d__law_again, b__law_again, hx, hsel, rng2O_s, rangeD, List.range_succ, ev_for1, appR_s, hdr, r1, r2, rr, rb, sl, hl, h00, enl, et, es, sumD]
/-- the second loop of the book -/
def hdD (p : Str × List Str) : D := .tuple [.str p.1, nmsD p.2]
def hdH (p : Str × List Str) : Str × Nat := (p.1, p.2.length)
def bk2 (R : Nat → List D → Option D) : En → Option Re := (sSeq (sAsg (dOp2 oDiv (dCB (R i__law_drawn) (dCons (dVar 0) (dCons (dOp2 oAdd (dC (.int 10)) (dVarT 2)) dNil))) (dC (.int 4))) (gNm 3))
    (sFrz 1 (sSeq (sAsg (dLc (iSeq (dVar 1)) [8, 4] (gTp 2 (gsCons (gNm 8) (gsCons (gNm 4) gsNil))) bYes (dTup (dCons (dVar 8) (dCons (dCB oLen (dCons (dVarT 4) dNil)) dNil)))) (gNm 7))
    (sSeq (sIf (bAnd (bOf (dOp2 oGt (dOp2 oMod (dVarT 3) (dC (.int 3))) (dC (.int 0)))) (bOf (dOp2 oNe (dOp2 oIx (dVarT 6) (dC (.int 1))) (dTup dNil))))
    (sAsg (dCB (R i__law_again) (dCons (dOp2 oDiv (dVarT 3) (dC (.int 4))) (dCons (dOp2 oIx (dVarT 6) (dC (.int 0))) (dCons (dOp2 oIx (dVarT 6) (dC (.int 1))) (dCons (dVar 7) dNil))))) (gNm 9)) (sAsg (dCB (R i__law_sum) (dCons (dOp2 oDiv (dVarT 3) (dC (.int 4))) (dCons (dOp2 oIx (dVarT 6) (dC (.int 1))) (dCons (dSl (dVarT 7) pNone (pInt (dVar 2))) (dCons (dC (.int 3)) dNil))))) (gNm 9)))
    (sAsg (dOp2 oAdd (dVarT 5) (dTup (dCons (dTup (dCons (dOp2 oIx (dVarT 6) (dC (.int 0))) (dCons (dOp2 oIx (dVarT 6) (dC (.int 1))) (dCons (dVar 9) dNil)))) dNil))) (gNm 5))))))
theorem lcHeads (e0 e1 e2 e3 e4 e5 e6 e7 e8 e9 : Sl) : ∀ ps : List (Str × List Str), lcF (gTp 2 (gsCons (gNm 8) (gsCons (gNm 4) gsNil))) bYes (dTup (dCons (dVar 8) (dCons (dCB oLen (dCons (dVarT 4) dNil)) dNil))) (ps.map hdD) [e0, e1, e2, e3, e4, e5, e6, e7, e8, e9] = some ((ps.map hdH).map headD)
  | [] => rfl
  | p :: r => by
    have ih := lcHeads e0 e1 e2 e3 e4 e5 e6 e7 e8 e9 r
    rw [List.map_cons, ev_lc1, ih]
    simp [hdD, hdH, headD]
theorem strOk_lits : PyData.strOk "n" = true ∧ PyData.strOk "a" = true ∧ PyData.strOk "b" = true := by decide +kernel
theorem ne_empty {ns : List Str} (h : ns ∈ nameSets) : oNe (nmsD ns) (.tuple []) = some (.bool (decide (ns ≠ []))) := by
  obtain ⟨h1, h2, h3⟩ := strOk_lits
  simp at h
  rcases h with rfl | rfl | rfl | rfl | rfl | rfl <;>
    simp [oNe, oEq, okD, nmsD, Z.plain, Z.plainAll, SeqAt.shaped, PyData.canLay0, PyData.canLayAll0, PyData.depth, PyData.depthAll, PyData.eqv, PyData.eqvAll, h1, h2, h3]
theorem turn2 {num : Int} {whole : List (Str × List Str)} {k : Nat} {p : Str × List Str} {done : List Mk} (hp : whole[k]? = some p) (h4 : whole.length ≤ 4) (hs : ∀ p ∈ whole, p.2 ∈ nameSets) (hd : done.length ≤ 4)
    (hdr : ∀ a k, R i__law_drawn [.int a, .int k] = some (.int (drwZ a k)))
    (hA : ∀ (num : Int) (name n0 : Str) (ns : List Str) (hs : List (Str × Nat)), 0 ≤ num → ns.length ≤ 3 → ns[0]? = some n0 → (∀ h ∈ hs, h.2 ≤ 3) → (name, ns.length) ∈ hs → ∃ s : Sm, WfS ns hs 4 s ∧ R i__law_again [.int num, .str name, nmsD ns, headsD hs] = some (sumD s))
    (hS : ∀ (num : Int) (ns : List Str) (hs : List (Str × Nat)), 0 ≤ num → ns.length ≤ 3 → (∀ h ∈ hs, h.2 ≤ 3) → ∃ s : Sm, WfS ns hs 3 s ∧ R i__law_sum [.int num, nmsD ns, headsD hs, .int 3] = some (sumD s))
    (e3 e4 e7 e8 e9 : Sl) : ∃ (m : Mk) (f3 f7 f9 : Sl), (m.name, m.names) = p ∧ WfS m.names (whole.map hdH) 4 m.sum ∧
      bk2 R [.im (.int num), .im (.list (whole.map hdD)), .im (.int (k : Nat)), e3, e4, .im (.tuple (done.map mkD)), .im (hdD p), e7, e8, e9] =
        some (.nx [.im (.int num), .im (.list (whole.map hdD)), .im (.int (k : Nat)), f3, e4, .im (.tuple ((done ++ [m]).map mkD)), .im (hdD p), f7, e8, f9]) := by
  have hset : p.2 ∈ nameSets := hs p (List.mem_of_getElem? hp)
  have hl3 : ∀ ns : List Str, ns ∈ nameSets → ns.length ≤ 3 := fun ns h => by
    simp at h
    rcases h with rfl | rfl | rfl | rfl | rfl | rfl <;> decide
  have hh3 : ∀ h ∈ whole.map hdH, h.2 ≤ 3 := fun h hm => by
    obtain ⟨q, hq, rfl⟩ := List.mem_map.mp hm
    exact hl3 _ (hs q hq)
  have hin : hdH p ∈ whole.map hdH := List.mem_map.mpr ⟨p, List.mem_of_getElem? hp, rfl⟩
  have hz : (whole.map hdD).length ≤ 1000000 := by rw [List.length_map]; omega
  have hz2 : done.length + 1 ≤ sizeLine := sz (by omega)
  have hln : ∀ env : En, lcO (some (whole.map hdD)) [8, 4] (gTp 2 (gsCons (gNm 8) (gsCons (gNm 4) gsNil))) bYes (dTup (dCons (dVar 8) (dCons (dCB oLen (dCons (dVarT 4) dNil)) dNil))) env = (lcF (gTp 2 (gsCons (gNm 8) (gsCons (gNm 4) gsNil))) bYes (dTup (dCons (dVar 8) (dCons (dCB oLen (dCons (dVarT 4) dNil)) dNil))) (whole.map hdD) (wipeE env [8, 4])).map .list := fun env => lcO_s hz
  have d0 : ∀ x : Int, 0 ≤ drwZ num x / 4 / 4 := fun x => Int.ediv_nonneg (Int.ediv_nonneg (drwZ_nn _ _) (by decide)) (by decide)
  have eH : PyData.list (whole.map (headD ∘ hdH)) = headsD (whole.map hdH) := by unfold headsD; rw [List.map_map]
  by_cases hb : 0 < drwZ num (10 + (k : Int)) / 4 % 3 ∧ p.2 ≠ []
  · obtain ⟨hb1, hb2⟩ := hb
    obtain ⟨n0, nr, e⟩ : ∃ n0 nr, p.2 = n0 :: nr := by
      cases q : p.2 with
      | nil => exact absurd q hb2
      | cons a b => exact ⟨a, b, rfl⟩
    obtain ⟨s, ws, rs⟩ := hA (drwZ num (10 + (k : Int)) / 4 / 4) p.1 n0 p.2 (whole.map hdH) (d0 _) (hl3 _ hset) (by rw [e]; rfl) hh3 hin
    refine ⟨⟨p.1, p.2, s⟩, .im (.int (drwZ num (10 + (k : Int)) / 4)), .im (headsD (whole.map hdH)), .im (sumD s), rfl, ws, ?_⟩
    have hne := ne_empty hset
    rw [decide_eq_true hb2] at hne
    simp [bk2, hdr, hln, lcHeads, hdD, hb1, hne, eH, rs, hz2, mkD]
  · obtain ⟨s, ws, rs⟩ := hS (drwZ num (10 + (k : Int)) / 4 / 4) p.2 ((whole.map hdH).take k) (d0 _) (hl3 _ hset) (fun h hm => hh3 h (List.mem_of_mem_take hm))
    refine ⟨⟨p.1, p.2, s⟩, .im (.int (drwZ num (10 + (k : Int)) / 4)), .im (headsD (whole.map hdH)), .im (sumD s), rfl, ws.mono (by decide) fun x hx => List.mem_of_mem_take hx, ?_⟩
    have hk : k ≤ whole.length := Nat.le_of_lt (List.getElem?_eq_some_iff.mp hp).1
    have ec : oSl (headsD (whole.map hdH)) none (some (k : Int)) = some (headsD ((whole.map hdH).take k)) := by
      unfold headsD
      rw [ev_slL]
      unfold cutD
      rw [HT.sIx_none, HT.sIx_nat, List.length_map, List.length_map, Nat.min_eq_left hk, List.drop_zero, Nat.sub_zero, List.map_take]
    have hne := ne_empty hset
    by_cases q : 0 < drwZ num (10 + (k : Int)) / 4 % 3
    · have q2 : p.2 = [] := by
        cases e : p.2 with
        | nil => rfl
        | cons a b => exact absurd ⟨q, by rw [e]; simp⟩ hb
      rw [decide_eq_false (by simpa using q2)] at hne
      simp [bk2, hdr, hln, lcHeads, hdD, q, hne, eH, rs, hz2, mkD, ec]
    · simp [bk2, hdr, hln, lcHeads, hdD, q, eH, rs, hz2, mkD, ec]
theorem loop2 {num : Int} {whole : List (Str × List Str)} (h4 : whole.length ≤ 4) (hs : ∀ p ∈ whole, p.2 ∈ nameSets)
    (hdr : ∀ a k, R i__law_drawn [.int a, .int k] = some (.int (drwZ a k)))
    (hA : ∀ (num : Int) (name n0 : Str) (ns : List Str) (hs : List (Str × Nat)), 0 ≤ num → ns.length ≤ 3 → ns[0]? = some n0 → (∀ h ∈ hs, h.2 ≤ 3) → (name, ns.length) ∈ hs → ∃ s : Sm, WfS ns hs 4 s ∧ R i__law_again [.int num, .str name, nmsD ns, headsD hs] = some (sumD s))
    (hS : ∀ (num : Int) (ns : List Str) (hs : List (Str × Nat)), 0 ≤ num → ns.length ≤ 3 → (∀ h ∈ hs, h.2 ≤ 3) → ∃ s : Sm, WfS ns hs 3 s ∧ R i__law_sum [.int num, nmsD ns, headsD hs, .int 3] = some (sumD s)) :
    ∀ (rest pre : List (Str × List Str)) (done : List Mk) (e2 e3 e4 e6 e7 e8 e9 : Sl), whole = pre ++ rest → done.length = pre.length → ∃ (more : List Mk) (f2 f3 f6 f7 f9 : Sl), more.map (fun m => (m.name, m.names)) = rest ∧ (∀ m ∈ more, WfS m.names (whole.map hdH) 4 m.sum) ∧
      forF (gTp 2 (gsCons (gNm 2) (gsCons (gNm 6) gsNil))) (bk2 R) (enumD pre.length (rest.map hdD)) [.im (.int num), .im (.list (whole.map hdD)), e2, e3, e4, .im (.tuple (done.map mkD)), e6, e7, e8, e9] =
        some (.nx [.im (.int num), .im (.list (whole.map hdD)), f2, f3, e4, .im (.tuple ((done ++ more).map mkD)), f6, f7, e8, f9])
  | [], pre, done, e2, e3, e4, e6, e7, e8, e9, _, _ => ⟨[], e2, e3, e6, e7, e9, rfl, fun _ h => (nomatch h), by simp [enumD]⟩
  | p :: r, pre, done, e2, e3, e4, e6, e7, e8, e9, hw, hl => by
    have hp : whole[pre.length]? = some p := by rw [hw]; simp
    have hlen : pre.length < 4 := by
      have : whole.length = pre.length + (r.length + 1) := by rw [hw]; simp
      omega
    obtain ⟨m, f3, f7, f9, hm, wm, em⟩ := turn2 (R := R) (num := num) (done := done) hp h4 hs (by omega) hdr hA hS e3 e4 e7 e8 e9
    obtain ⟨more, g2, g3, g6, g7, g9, h1, h2, h3⟩ := loop2 h4 hs hdr hA hS r (pre ++ [p]) (done ++ [m]) (.im (.int (pre.length : Nat))) f3 e4 (.im (hdD p)) f7 e8 f9 (by rw [hw]; simp) (by simp [hl])
    refine ⟨m :: more, g2, g3, g6, g7, g9, by rw [List.map_cons, hm, h1], fun x hx => ?_, ?_⟩
    · rcases List.mem_cons.mp hx with e | hx
      · rw [e]; exact wm
      · exact h2 x hx
    · rw [List.map_cons]
      show forF _ _ (.tuple [.int (pre.length : Nat), hdD p] :: enumD (pre.length + 1) (r.map hdD)) _ = _
      rw [ev_for1]
      have e5 : runO (gTp 2 (gsCons (gNm 2) (gsCons (gNm 6) gsNil)) (.tuple [.int (pre.length : Nat), hdD p]) [.im (.int num), .im (.list (whole.map hdD)), e2, e3, e4, .im (.tuple (done.map mkD)), e6, e7, e8, e9]) (bk2 R) = bk2 R [.im (.int num), .im (.list (whole.map hdD)), .im (.int (pre.length : Nat)), e3, e4, .im (.tuple (done.map mkD)), .im (hdD p), e7, e8, e9] := by simp
      rw [e5, em, goFor_nx]
      have e6 : (pre ++ [p]).length = pre.length + 1 := by simp
      rw [e6] at h3
      rw [h3, List.append_assoc]
      rfl
/-- the names that are drawn -/
theorem set_ok (x : Int) : ∃ ns ∈ nameSets, atI [PyData.tuple [.str "n"], .tuple [.str "n", .str "a"], .tuple [.str "a"], .tuple [.str "n", .str "a", .str "b"], .tuple [], .tuple [.str "a", .str "b"]] (x % 6) = some (nmsD ns) := by
  obtain ⟨z, hz, hm⟩ := atI_nn (l := [PyData.tuple [.str "n"], .tuple [.str "n", .str "a"], .tuple [.str "a"], .tuple [.str "n", .str "a", .str "b"], .tuple [], .tuple [.str "a", .str "b"]]) (i := x % 6) (Int.emod_nonneg _ (by decide)) (by
    have := Int.emod_lt_of_pos x (show (0 : Int) < 6 by decide)
    simp
    omega)
  rw [hz]
  simp at hm
  rcases hm with rfl | rfl | rfl | rfl | rfl | rfl
  · exact ⟨["n"], by simp, rfl⟩
  · exact ⟨["n", "a"], by simp, rfl⟩
  · exact ⟨["a"], by simp, rfl⟩
  · exact ⟨["n", "a", "b"], by simp, rfl⟩
  · exact ⟨[], by simp, rfl⟩
  · exact ⟨["a", "b"], by simp, rfl⟩
theorem many_ok (x : Int) : ∃ c : Nat, (c = 1 ∨ c = 2 ∨ c = 3 ∨ c = 4) ∧ atI [PyData.int 2, .int 1, .int 3, .int 4, .int 2, .int 3] (x % 6) = some (.int (c : Nat)) := by
  obtain ⟨z, hz, hm⟩ := atI_nn (l := [PyData.int 2, .int 1, .int 3, .int 4, .int 2, .int 3]) (i := x % 6) (Int.emod_nonneg _ (by decide)) (by
    have := Int.emod_lt_of_pos x (show (0 : Int) < 6 by decide)
    simp
    omega)
  rw [hz]
  simp at hm
  rcases hm with rfl | rfl | rfl | rfl | rfl | rfl
  · exact ⟨2, by simp, rfl⟩
  · exact ⟨1, by simp, rfl⟩
  · exact ⟨3, by simp, rfl⟩
  · exact ⟨4, by simp, rfl⟩
  · exact ⟨2, by simp, rfl⟩
  · exact ⟨3, by simp, rfl⟩
theorem book_ok {num : Int} (hdr : ∀ a k, R i__law_drawn [.int a, .int k] = some (.int (drwZ a k)))
    (hA : ∀ (num : Int) (name n0 : Str) (ns : List Str) (hs : List (Str × Nat)), 0 ≤ num → ns.length ≤ 3 → ns[0]? = some n0 → (∀ h ∈ hs, h.2 ≤ 3) → (name, ns.length) ∈ hs → ∃ s : Sm, WfS ns hs 4 s ∧ R i__law_again [.int num, .str name, nmsD ns, headsD hs] = some (sumD s))
    (hS : ∀ (num : Int) (ns : List Str) (hs : List (Str × Nat)), 0 ≤ num → ns.length ≤ 3 → (∀ h ∈ hs, h.2 ≤ 3) → ∃ s : Sm, WfS ns hs 3 s ∧ R i__law_sum [.int num, nmsD ns, headsD hs, .int 3] = some (sumD s)) :
    ∃ b : List Mk, Drawn b ∧ d__law_book R [.int num] = some (bookD b) := by
  obtain ⟨c, hc, ec⟩ := many_ok num
  obtain ⟨n0, s0, q0⟩ := set_ok (drwZ num 0 / 4)
  obtain ⟨n1, s1, q1⟩ := set_ok (drwZ num 1 / 4)
  obtain ⟨n2, s2, q2⟩ := set_ok (drwZ num 2 / 4)
  obtain ⟨n3, s3, q3⟩ := set_ok (drwZ num 3 / 4)
  have fin : ∀ (whole : List (Str × List Str)), whole.length ≤ 4 → 1 ≤ whole.length → whole.map (·.1) = (["f", "g", "pow", "h"] : List Str).take whole.length → (∀ p ∈ whole, p.2 ∈ nameSets) → ∀ e2 e3 e4 e6 e7 e8 e9 : Sl, ∃ b : List Mk, ∃ f2 f3 f6 f7 f9 : Sl, Drawn b ∧
      forF (gTp 2 (gsCons (gNm 2) (gsCons (gNm 6) gsNil))) (bk2 R) (enumD 0 (whole.map hdD)) [.im (.int num), .im (.list (whole.map hdD)), e2, e3, e4, .im (.tuple []), e6, e7, e8, e9] =
        some (.nx [.im (.int num), .im (.list (whole.map hdD)), f2, f3, e4, .im (bookD b), f6, f7, e8, f9]) := by
    intro whole h4 h1 hn hs e2 e3 e4 e6 e7 e8 e9
    obtain ⟨more, f2, f3, f6, f7, f9, a1, a2, a3⟩ := loop2 (num := num) h4 hs hdr hA hS whole [] [] e2 e3 e4 e6 e7 e8 e9 rfl rfl
    have el : more.length = whole.length := by rw [← a1, List.length_map]
    have eh : headsOf more = whole.map hdH := by
      rw [← a1, List.map_map]
      rfl
    refine ⟨more, f2, f3, f6, f7, f9, ⟨by omega, by omega, ?_, fun m hm => ?_, fun m hm => ?_⟩, a3⟩
    · rw [el, ← hn, ← a1, List.map_map]
      rfl
    · have : (m.name, m.names) ∈ whole := by rw [← a1]; exact List.mem_map.mpr ⟨m, hm, rfl⟩
      exact hs _ this
    · rw [eh]
      exact a2 m hm
  rcases hc with rfl | rfl | rfl | rfl
  · obtain ⟨b, f2, f3, f6, f7, f9, db, eb⟩ := fin [("f", n0)] (by simp) (by simp) rfl (by simpa using s0) (.im (.int 0)) (.im (.int (drwZ num 0 / 4))) (.im (nmsD n0)) .no .no .no .no
    refine ⟨b, db, ?_⟩
    simp [hdD, bk2] at eb
    simp [d__law_book, b__law_book, ec, rng1O_s, rangeD, List.range_succ, ev_for1, appR_s, hdr, q0, q1, q2, q3, eb]
  · obtain ⟨b, f2, f3, f6, f7, f9, db, eb⟩ := fin [("f", n0), ("g", n1)] (by simp) (by simp) rfl (by simp; exact ⟨by simpa using s0, by simpa using s1⟩) (.im (.int 1)) (.im (.int (drwZ num 1 / 4))) (.im (nmsD n1)) .no .no .no .no
    refine ⟨b, db, ?_⟩
    simp [hdD, bk2] at eb
    simp [d__law_book, b__law_book, ec, rng1O_s, rangeD, List.range_succ, ev_for1, appR_s, hdr, q0, q1, q2, q3, eb]
  · obtain ⟨b, f2, f3, f6, f7, f9, db, eb⟩ := fin [("f", n0), ("g", n1), ("pow", n2)] (by simp) (by simp) rfl (by simp; exact ⟨by simpa using s0, by simpa using s1, by simpa using s2⟩) (.im (.int 2)) (.im (.int (drwZ num 2 / 4))) (.im (nmsD n2)) .no .no .no .no
    refine ⟨b, db, ?_⟩
    simp [hdD, bk2] at eb
    simp [d__law_book, b__law_book, ec, rng1O_s, rangeD, List.range_succ, ev_for1, appR_s, hdr, q0, q1, q2, q3, eb]
  · obtain ⟨b, f2, f3, f6, f7, f9, db, eb⟩ := fin [("f", n0), ("g", n1), ("pow", n2), ("h", n3)] (by simp) (by simp) rfl (by simp; exact ⟨by simpa using s0, by simpa using s1, by simpa using s2, by simpa using s3⟩) (.im (.int 3)) (.im (.int (drwZ num 3 / 4))) (.im (nmsD n3)) .no .no .no .no
    refine ⟨b, db, ?_⟩
    simp [hdD, bk2] at eb
    simp [d__law_book, b__law_book, ec, rng1O_s, rangeD, List.range_succ, ev_for1, appR_s, hdr, q0, q1, q2, q3, eb]
end
/-- THE BOOK: whatever is drawn, it is a book -/
theorem book_Rn (n : Nat) (num : Int) (h0 : 0 ≤ num) : ∃ b : List Mk, Drawn b ∧ Rn (n + 8) i__law_book [.int num] = some (bookD b) := by
  refine book_ok (R := Rn (n + 7)) (fun a k => drawn_Rn _ a k) (fun num name n0 ns hs h0 hn h00 h3 hin => ?_) fun num ns hs h0 hn h3 => ?_
  · exact again_ok (R := Rn (n + 6)) h0 hn h00 h3 hin (fun a k => drawn_Rn _ a k) fun d num hd h0 => by
      obtain ⟨s, w, r⟩ := sum_Rn (ns := ns) (hs := []) hn (fun h hm => nomatch hm) d (n + 4 - d) num h0
      refine ⟨s, w, ?_⟩
      have e : n + 4 - d + d + 2 = n + 6 := by omega
      rw [e] at r
      exact r
  · exact sum_Rn hn h3 3 (n + 2) num h0

end W

namespace W
open PySem L2 Z
/-! parts_of, with_parts, maker_of -/
section
variable {R : Nat → List D → Option D}
theorem pt_int (n : Int) : d_parts_of R [.int n] = some (.tuple []) := by simp [d_parts_of, b_parts_of]
theorem pt_str (x : Str) : d_parts_of R [.str x] = some (.tuple []) := by simp [d_parts_of, b_parts_of]
theorem pt_nd {w : Str} (hw : w ≠ "call") (ps : List D) : d_parts_of R [.tuple (.str w :: ps)] = some (.tuple ps) := by simp [d_parts_of, b_parts_of, hw]
theorem pt_call (f : Str) (as : List D) : d_parts_of R [.tuple [.str "call", .str f, .tuple as]] = some (.tuple as) := by simp [d_parts_of, b_parts_of]
theorem wp_int (n : Int) (x : D) : d_with_parts R [.int n, x] = some (.int n) := by simp [d_with_parts, b_with_parts]
theorem wp_str (n : Str) (x : D) : d_with_parts R [.str n, x] = some (.str n) := by simp [d_with_parts, b_with_parts]
theorem wp_nd {w : Str} (hw : w ≠ "call") (ps qs : List D) (hl : qs.length ≤ 1000) : d_with_parts R [.tuple (.str w :: ps), .list qs] = some (.tuple (.str w :: qs)) := by
  have h1 : 1 + qs.length ≤ sizeLine := sz (by omega)
  simp [d_with_parts, b_with_parts, hw, h1]
theorem wp_ndT {w : Str} (hw : w ≠ "call") (ps qs : List D) (hl : qs.length ≤ 1000) : d_with_parts R [.tuple (.str w :: ps), .tuple qs] = some (.tuple (.str w :: qs)) := by
  have h1 : 1 + qs.length ≤ sizeLine := sz (by omega)
  simp [d_with_parts, b_with_parts, hw, h1]
theorem wp_call (f : Str) (as : D) (qs : List D) : d_with_parts R [.tuple [.str "call", .str f, as], .list qs] = some (.tuple [.str "call", .str f, .tuple qs]) := by simp [d_with_parts, b_with_parts]
end

end W

namespace W
open PySem L2 Z
section
variable {R : Nat → List D → Option D}
theorem maker_ok {b : List Mk} {nm : Str} {m : Mk} (h : b.find? (fun m => decide (m.name = nm)) = some m) (hl : b.length ≤ 1000) : d_maker_of R [bookD b, .str nm] = some (mkD m) := by
  have q : lcF (gNm 2) (bOf (dOp2 oEq (dOp2 oIx (dVarT 2) (dC (.int 0))) (dVarT 1))) (dVar 2) (b.map mkD) [.im (bookD b), .im (.str nm), .no] = some ((b.filter fun m => decide (m.name = nm)).map mkD) :=
    lc_flt (fun a _ => by simp [mkD]) (fun a _ _ => by simp)
  have e : (b.filter fun m => decide (m.name = nm))[0]? = some m := by
    rw [← List.head?_eq_getElem?, List.head?_filter, h]
  simp [d_maker_of, b_maker_of, bookD] at q ⊢
  rw [lcO_s (by rw [List.length_map]; omega)]
  simp [q, e]
end

end W

namespace W
open PySem L2 Z
/-! names put for by others -/
theorem sub_Rn {ns0 ns : List Str} {hs : List (Str × Nat)} {held : List (D × D)} (hh : ∀ x ∈ ns0, ∃ a, dLook held (.inr x) = some (sumD a) ∧ WfS ns hs 0 a) (h3 : ∀ h ∈ hs, h.2 ≤ 3) :
    ∀ (d : Nat) (s : Sm), WfS ns0 hs d s → ∃ s', WfS ns hs d s' ∧ (∀ n, Rn (n + d + 2) i_replaced [sumD s, .dict held] = some (sumD s')) ∧ ∀ n, Rn (n + d + 2) i__law_in_place [sumD s, .dict held] = some (sumD s') := by
  intro d
  induction d with
  | zero =>
    intro s h
    cases h with
    | num a b =>
      refine ⟨_, .num a b, fun n => ?_, fun n => ?_⟩
      · show d_replaced (Rn (n + 1)) _ = _
        have p1 : ∀ k : Int, Rn (n + 1) i_parts_of [.int k] = some (.tuple []) := fun k => pt_int (R := Rn n) k
        have p2 : ∀ (k : Int) (x : D), Rn (n + 1) i_with_parts [.int k, x] = some (.int k) := fun k x => wp_int (R := Rn n) k x
        simp [d_replaced, b_replaced, sumD, p1, p2, lcO_s]
      · show d__law_in_place (Rn (n + 1)) _ = _
        simp [d__law_in_place, b__law_in_place, sumD]
    | nm hx =>
      obtain ⟨a, h1, h2⟩ := hh _ hx
      refine ⟨a, h2, fun n => ?_, fun n => ?_⟩
      · show d_replaced (Rn (n + 1)) _ = _
        simp [d_replaced, b_replaced, sumD, h1]
      · show d__law_in_place (Rn (n + 1)) _ = _
        simp [d__law_in_place, b__law_in_place, sumD, h1]
  | succ d ih =>
    intro s h
    cases h.view with
    | num k a b =>
      refine ⟨_, .num a b, fun n => ?_, fun n => ?_⟩
      · show d_replaced (Rn (n + d + 2)) _ = _
        have p1 : ∀ k : Int, Rn (n + d + 2) i_parts_of [.int k] = some (.tuple []) := fun k => pt_int (R := Rn (n + d + 1)) k
        have p2 : ∀ (k : Int) (x : D), Rn (n + d + 2) i_with_parts [.int k, x] = some (.int k) := fun k x => wp_int (R := Rn (n + d + 1)) k x
        simp [d_replaced, b_replaced, sumD, p1, p2, lcO_s]
      · show d__law_in_place (Rn (n + d + 2)) _ = _
        simp [d__law_in_place, b__law_in_place, sumD]
    | nm x hx =>
      obtain ⟨a, h1, h2⟩ := hh _ hx
      refine ⟨a, h2.mono (by omega) fun _ z => z, fun n => ?_, fun n => ?_⟩
      · show d_replaced (Rn (n + d + 2)) _ = _
        simp [d_replaced, b_replaced, sumD, h1]
      · show d__law_in_place (Rn (n + d + 2)) _ = _
        simp [d__law_in_place, b__law_in_place, sumD, h1]
    | nd w ps hw es hp l2 l3 _ _ mk =>
      obtain ⟨g, hg⟩ := pick (as := ps) (P := fun p p' => WfS ns hs d p' ∧ (∀ n, Rn (n + d + 2) i_replaced [sumD p, .dict held] = some (sumD p')) ∧ ∀ n, Rn (n + d + 2) i__law_in_place [sumD p, .dict held] = some (sumD p')) fun p q => ih p (hp p q)
      obtain ⟨s', e', w'⟩ := mk ns hs d (ps.map g) (by simp) (by
        intro x hx
        obtain ⟨p, hp', rfl⟩ := List.mem_map.mp hx
        exact (hg p hp').1)
      refine ⟨s', w', fun n => ?_, fun n => ?_⟩
      · show d_replaced (Rn (n + d + 2)) _ = _
        have p1 : Rn (n + d + 2) i_parts_of [.tuple (.str w :: sumDs ps)] = some (.tuple (sumDs ps)) := pt_nd (R := Rn (n + d + 1)) hw _
        have p2 : Rn (n + d + 2) i_with_parts [.tuple (.str w :: sumDs ps), .list (sumDs (ps.map g))] = some (.tuple (.str w :: sumDs (ps.map g))) := wp_nd (R := Rn (n + d + 1)) hw _ _ (by rw [sumDs_length, List.length_map]; omega)
        have q := lcq (f := Rn (n + d + 2) i_replaced) (x := .dict held) (e0 := .im (.tuple (.str w :: sumDs ps))) (e2 := .no) (ps := ps) (g := g) (by omega) fun p hp' => (hg p hp').2.1 n
        simp [d_replaced, b_replaced, es, e', p1, p2, q]
      · show d__law_in_place (Rn (n + d + 2)) _ = _
        have q := lcq (f := Rn (n + d + 2) i__law_in_place) (x := .dict held) (e0 := .im (.tuple (.str w :: sumDs ps))) (e2 := .no) (ps := ps) (g := g) (by omega) fun p hp' => (hg p hp').2.2 n
        have hz : 1 + (sumDs (ps.map g)).length ≤ sizeLine := sz (by rw [sumDs_length, List.length_map]; omega)
        simp [d__law_in_place, b__law_in_place, es, e', q, hw, hz]
    | call f as hf ha =>
      obtain ⟨g, hg⟩ := pick (as := as) (P := fun p p' => WfS ns hs d p' ∧ (∀ n, Rn (n + d + 2) i_replaced [sumD p, .dict held] = some (sumD p')) ∧ ∀ n, Rn (n + d + 2) i__law_in_place [sumD p, .dict held] = some (sumD p')) fun p q => ih p (ha p q)
      have l3 : as.length ≤ 3 := h3 _ hf
      refine ⟨.call f (as.map g), .call (by rw [List.length_map]; exact hf) (by
        intro x hx
        obtain ⟨p, hp', rfl⟩ := List.mem_map.mp hx
        exact (hg p hp').1), fun n => ?_, fun n => ?_⟩
      · show d_replaced (Rn (n + d + 2)) _ = _
        have p1 : Rn (n + d + 2) i_parts_of [.tuple [.str "call", .str f, .tuple (sumDs as)]] = some (.tuple (sumDs as)) := pt_call (R := Rn (n + d + 1)) f _
        have p2 : Rn (n + d + 2) i_with_parts [.tuple [.str "call", .str f, .tuple (sumDs as)], .list (sumDs (as.map g))] = some (.tuple [.str "call", .str f, .tuple (sumDs (as.map g))]) := wp_call (R := Rn (n + d + 1)) f _ _
        have q := lcq (f := Rn (n + d + 2) i_replaced) (x := .dict held) (e0 := .im (.tuple [.str "call", .str f, .tuple (sumDs as)])) (e2 := .no) (ps := as) (g := g) (by omega) fun p hp' => (hg p hp').2.1 n
        simp [d_replaced, b_replaced, sumD, p1, p2, q]
      · show d__law_in_place (Rn (n + d + 2)) _ = _
        have q := lcq (f := Rn (n + d + 2) i__law_in_place) (x := .dict held) (e0 := .im (.tuple [.str "call", .str f, .tuple (sumDs as)])) (e2 := .no) (ps := as) (g := g) (by omega) fun p hp' => (hg p hp').2.2 n
        simp [d__law_in_place, b__law_in_place, sumD, q]
/-! calls put in place -/
def leafB (s : Sm) : Bool := !isTup (sumD s)
theorem leaf0 {ns : List Str} {hs : List (Str × Nat)} {d : Nat} {s : Sm} (h : WfS ns hs d s) (hl : leafB s = true) : WfS ns hs 0 s := by
  cases h with
  | num a b => exact .num a b
  | nm a => exact .nm a
  | op _ _ _ => simp [leafB, sumD] at hl
  | ite _ _ _ => simp [leafB, sumD] at hl
  | call _ _ => simp [leafB, sumD] at hl
theorem simple_Rn (n : Nat) (s : Sm) : Rn (n + 1) i_is_simple [sumD s] = some (.bool (leafB s)) := by
  show d_is_simple (Rn n) _ = _
  simp [d_is_simple, b_is_simple, leafB]
theorem lc_simple {f : List D → Option D} {e0 e1 e2 : Sl} {as : List Sm} (hl : as.length ≤ 1000) (h : ∀ s, f [sumD s] = some (.bool (leafB s))) :
    lcO (some (sumDs as)) [2] (gNm 2) bYes (dCB f (dCons (dVar 2) dNil)) [e0, e1, e2] = some (.list (as.map fun a => .bool (leafB a))) := by
  rw [lcO_s (by rw [sumDs_length]; omega), sumDs_map]
  rw [lc_map (h := fun p => .bool (leafB p)) fun p hp => by simp [h p]]
  rfl
theorem lc_tups {e0 e1 e2 : Sl} {as : List Sm} (hl : as.length ≤ 1000) :
    lcO (some (sumDs as)) [2] (gNm 2) (bOf (dIsi isTup (dVarT 2))) (dVar 2) [e0, e1, e2] = some (.list ((as.filter fun a => !leafB a).map sumD)) := by
  rw [lcO_s (by rw [sumDs_length]; omega), sumDs_map]
  rw [lc_flt (p := fun a => !leafB a) (h := sumD) (fun p hp => by simp [leafB]) fun p hp _ => by simp]
  rfl
theorem tups_nil {ns : List Str} {hs : List (Str × Nat)} (hn : ∀ x ∈ ns, PyData.strOk x = true) (hh : ∀ h ∈ hs, PyData.strOk h.1 = true) {d : Nat} (hd : d ≤ 20) {as : List Sm} (ha : ∀ a ∈ as, WfS ns hs d a) :
    oEq (.list ((as.filter fun a => !leafB a).map sumD)) (.list []) = some (.bool (as.all leafB)) := by
  have o1 : okN 64 (.list ((as.filter fun a => !leafB a).map sumD)) := (okN_lst (n := 2 * d) fun x hx => by
    obtain ⟨a, h1, rfl⟩ := List.mem_map.mp hx
    exact (ha a (List.mem_filter.mp h1).1).okN hn hh).mono (by omega)
  have o2 : okN 64 (.list []) := (okN_lst (n := 0) fun x hx => absurd hx (by simp)).mono (by decide)
  have e : ∀ l : List Sm, PyData.eqv (.list ((l.filter fun a => !leafB a).map sumD)) (.list []) = l.all leafB := by
    intro l
    induction l with
    | nil => simp [PyData.eqv, PyData.eqvAll]
    | cons a r ih =>
      cases q : leafB a with
      | true => simpa [q] using ih
      | false => simp [q, PyData.eqv, PyData.eqvAll]
  rw [oEq_ok o1 o2, e]
theorem plc_Rn {b : List Mk} (hb : Drawn b) {m : Mk} (hm : m ∈ b) {ns : List Str} (hn : ∀ x ∈ ns, PyData.strOk x = true) :
    ∀ (d : Nat), d ≤ 4 → ∀ (s : Sm), WfS ns (headsOf b) d s → ∃ s', WfS ns (headsOf b) (d + 4) s' ∧ (∀ n, Rn (n + d + 8) i_placed [sumD s, mkD m] = some (sumD s')) ∧ ∀ n, Rn (n + d + 8) i__law_placed [sumD s, mkD m] = some (sumD s') := by
  intro d
  induction d with
  | zero =>
    intro _ s h
    refine ⟨s, h.mono (by omega) fun _ z => z, fun n => ?_, fun n => ?_⟩
    · show d_placed (Rn (n + 7)) _ = _
      cases h <;> simp [d_placed, b_placed, sumD]
    · show d__law_placed (Rn (n + 7)) _ = _
      cases h <;> simp [d__law_placed, b__law_placed, sumD]
  | succ d ih =>
    intro hd s h
    have hmd : ∀ x : D, mkD m = .tuple [.str m.name, nmsD m.names, sumD m.sum] := fun _ => rfl
    cases h.view with
    | num k a b =>
      refine ⟨_, .num a b, fun n => ?_, fun n => ?_⟩
      · show d_placed (Rn (n + d + 8)) _ = _
        simp [d_placed, b_placed, sumD]
      · show d__law_placed (Rn (n + d + 8)) _ = _
        simp [d__law_placed, b__law_placed, sumD]
    | nm x hx =>
      refine ⟨_, .nm hx, fun n => ?_, fun n => ?_⟩
      · show d_placed (Rn (n + d + 8)) _ = _
        simp [d_placed, b_placed, sumD]
      · show d__law_placed (Rn (n + d + 8)) _ = _
        simp [d__law_placed, b__law_placed, sumD]
    | nd w ps hw es hp l2 l3 hif hop mk =>
      obtain ⟨g, hg⟩ := pick (as := ps) (P := fun p p' => WfS ns (headsOf b) (d + 4) p' ∧ (∀ n, Rn (n + d + 8) i_placed [sumD p, mkD m] = some (sumD p')) ∧ ∀ n, Rn (n + d + 8) i__law_placed [sumD p, mkD m] = some (sumD p')) fun p q => ih (by omega) p (hp p q)
      obtain ⟨s', e', w'⟩ := mk ns (headsOf b) (d + 4) (ps.map g) (by simp) (by
        intro x hx
        obtain ⟨p, hp', rfl⟩ := List.mem_map.mp hx
        exact (hg p hp').1)
      refine ⟨s', w'.mono (by omega) fun _ z => z, fun n => ?_, fun n => ?_⟩
      · show d_placed (Rn (n + d + 8)) _ = _
        have p1 : Rn (n + d + 8) i_parts_of [.tuple (.str w :: sumDs ps)] = some (.tuple (sumDs ps)) := pt_nd (R := Rn (n + d + 7)) hw _
        have p2 : Rn (n + d + 8) i_with_parts [.tuple (.str w :: sumDs ps), .list (sumDs (ps.map g))] = some (.tuple (.str w :: sumDs (ps.map g))) := wp_nd (R := Rn (n + d + 7)) hw _ _ (by rw [sumDs_length, List.length_map]; omega)
        have q := lcq (f := Rn (n + d + 8) i_placed) (x := mkD m) (e0 := .im (.tuple (.str w :: sumDs ps))) (e2 := .no) (ps := ps) (g := g) (by omega) fun p hp' => (hg p hp').2.1 n
        have hwo : PyData.strOk w = true := by
          by_cases e : w = "if"
          · subst e; exact lit_ok.1
          · exact op_ok w (hop e)
        obtain ⟨p, hpm, c2⟩ : ∃ p ∈ ps, cutD (PyData.str w :: sumDs ps) none (some 2) = [.str w, sumD p] := by
          cases ps with
          | nil => simp at l2
          | cons p r => exact ⟨p, by simp, by rw [sumDs]; exact cut02 _ _ _⟩
        have c3 : oEq (.tuple [.str w, sumD p]) (.tuple [.str "call", .str m.name]) = some (.bool false) := eq_nocall hw hwo ((hp p hpm).okN hn hb.hdok) (by omega) (clean_sum _) (hb.nmok m hm)
        have c4 : oIx (mkD m) (.int 0) = some (.str m.name) := by simp [mkD]
        simp [d_placed, b_placed, es, e', p1, p2, q, c2, c3, c4]
      · show d__law_placed (Rn (n + d + 8)) _ = _
        have q := lcq (f := Rn (n + d + 8) i__law_placed) (x := mkD m) (e0 := .im (.tuple (.str w :: sumDs ps))) (e2 := .no) (ps := ps) (g := g) (by omega) fun p hp' => (hg p hp').2.2 n
        have hz : 1 + (sumDs (ps.map g)).length ≤ sizeLine := sz (by rw [sumDs_length, List.length_map]; omega)
        simp [d__law_placed, b__law_placed, es, e', q, hw, hz]
    | call f as hf ha =>
      have l3 : as.length ≤ 3 := hb.h3 _ hf
      have c4 : oIx (mkD m) (.int 0) = some (.str m.name) := by simp [mkD]
      have c5 : oIx (mkD m) (.int 1) = some (nmsD m.names) := by simp [mkD]
      have c6 : oIx (mkD m) (.int 2) = some (sumD m.sum) := by simp [mkD]
      have fok : PyData.strOk f = true := hb.hdok _ hf
      have q2 : ∀ n, lcO (some (sumDs as)) [2] (gNm 2) bYes (dCB (Rn (n + d + 8) i_is_simple) (dCons (dVar 2) dNil)) [.im (.tuple [.str "call", .str f, .tuple (sumDs as)]), .im (mkD m), .no] = some (.list (as.map fun a => .bool (leafB a))) := fun n => lc_simple (by omega) fun s => simple_Rn (n + d + 7) s
      have q3 : boolsOf (as.map fun a => PyData.bool (leafB a)) = some (as.map leafB) := boolsOf_mapF as leafB
      have q4 : (as.map leafB).all (fun b => b) = as.all leafB := by rw [List.all_map]; rfl
      have q5 : lcO (some (sumDs as)) [2] (gNm 2) (bOf (dIsi isTup (dVarT 2))) (dVar 2) [.im (.tuple [.str "call", .str f, .tuple (sumDs as)]), .im (mkD m), .no] = some (.list ((as.filter fun a => !leafB a).map sumD)) := lc_tups (by omega)
      have q6 := tups_nil hn hb.hdok (d := d) (by omega) ha
      have c7 := eq_call fok (hb.nmok m hm)
      by_cases hyes : f = m.name ∧ as.all leafB = true
      · obtain ⟨rfl, hall⟩ := hyes
        have hlen : as.length = m.names.length := hb.many hm hf
        obtain ⟨prs, r1, r2⟩ := held_ok hlen (set_nodup (hb.sets m hm))
        obtain ⟨s', w', e1, e2⟩ := sub_Rn (ns0 := m.names) (ns := ns) (hs := headsOf b) (held := mergeD [] prs) (fun x hx => by
          obtain ⟨a, h1, h2⟩ := (r2 []).1 x hx
          exact ⟨a, h2, leaf0 (ha a h1) (List.all_eq_true.mp hall a h1)⟩) hb.h3 4 _ (hb.wf m hm)
        have e3 : oDictP (.list (zipD (m.names.map .str) (sumDs as))) = some (.dict (mergeD [] prs)) := by simp [oDictP, r1]
        refine ⟨s', w'.mono (by omega) fun _ z => z, fun n => ?_, fun n => ?_⟩
        · show d_placed (Rn (n + d + 8)) _ = _
          have e1' : Rn (n + d + 8) i_replaced [sumD m.sum, .dict (mergeD [] prs)] = some (sumD s') := e1 (n + d + 2)
          simp [d_placed, b_placed, sumD, c4, c5, c6, c7, q2, q3, q4, hall, nmsD, e3, e1']
        · show d__law_placed (Rn (n + d + 8)) _ = _
          have e2' : Rn (n + d + 8) i__law_in_place [sumD m.sum, .dict (mergeD [] prs)] = some (sumD s') := e2 (n + d + 2)
          simp [d__law_placed, b__law_placed, sumD, c4, c5, c6, q5, q6, hall, nmsD, e3, e2']
      · obtain ⟨g, hg⟩ := pick (as := as) (P := fun p p' => WfS ns (headsOf b) (d + 4) p' ∧ (∀ n, Rn (n + d + 8) i_placed [sumD p, mkD m] = some (sumD p')) ∧ ∀ n, Rn (n + d + 8) i__law_placed [sumD p, mkD m] = some (sumD p')) fun p q => ih (by omega) p (ha p q)
        refine ⟨.call f (as.map g), (WfS.call (d := d + 4) (by rw [List.length_map]; exact hf) (by
          intro x hx
          obtain ⟨p, hp', rfl⟩ := List.mem_map.mp hx
          exact (hg p hp').1)).mono (by omega) fun _ z => z, fun n => ?_, fun n => ?_⟩
        · show d_placed (Rn (n + d + 8)) _ = _
          have p1 : Rn (n + d + 8) i_parts_of [.tuple [.str "call", .str f, .tuple (sumDs as)]] = some (.tuple (sumDs as)) := pt_call (R := Rn (n + d + 7)) f _
          have p2 : Rn (n + d + 8) i_with_parts [.tuple [.str "call", .str f, .tuple (sumDs as)], .list (sumDs (as.map g))] = some (.tuple [.str "call", .str f, .tuple (sumDs (as.map g))]) := wp_call (R := Rn (n + d + 7)) f _ _
          have q := lcq (f := Rn (n + d + 8) i_placed) (x := mkD m) (e0 := .im (.tuple [.str "call", .str f, .tuple (sumDs as)])) (e2 := .no) (ps := as) (g := g) (by omega) fun p hp' => (hg p hp').2.1 n
          by_cases e : f = m.name
          · have hall : as.all leafB = false := by cases z : as.all leafB with | false => rfl | true => exact absurd ⟨e, z⟩ hyes
            subst e
            simp [d_placed, b_placed, sumD, p1, p2, q, c4, c7, q2, q3, q4, hall]
          · simp [d_placed, b_placed, sumD, p1, p2, q, c4, c7, e]
        · show d__law_placed (Rn (n + d + 8)) _ = _
          have q := lcq (f := Rn (n + d + 8) i__law_placed) (x := mkD m) (e0 := .im (.tuple [.str "call", .str f, .tuple (sumDs as)])) (e2 := .no) (ps := as) (g := g) (by omega) fun p hp' => (hg p hp').2.2 n
          by_cases e : f = m.name
          · have hall : as.all leafB = false := by cases z : as.all leafB with | false => rfl | true => exact absurd ⟨e, z⟩ hyes
            subst e
            simp [d__law_placed, b__law_placed, sumD, q, c4, q5, q6, hall]
          · simp [d__law_placed, b__law_placed, sumD, q, c4, e]
/-! the books -/
def outM (m : Mk) (g : Mk → Sm) (x : Mk) : D := if x.name = m.name then mkD x else .tuple [.str x.name, nmsD x.names, sumD (g x)]
theorem inl_loop {R : Nat → List D → Option D} {b : List Mk} {m : Mk} {g : Mk → Sm} (hl : b.length ≤ 4) (hg : ∀ x ∈ b, R i_placed [sumD x.sum, mkD m] = some (sumD (g x))) (hmk : R i_maker_of [bookD b, .str m.name] = some (mkD m)) :
    d_inlined R [bookD b, .str m.name] = some (.tuple (b.map (outM m g))) := by
  obtain ⟨env', h1, done, hd, e4, rfl⟩ := for_run (e := mkD) (tgt := gNm 4) (body := sIf (bOf (dOp2 oEq (dOp2 oIx (dVarT 4) (dC (.int 0))) (dVarT 1))) (sApp 3 (dVar 4)) (sApp 3 (dTup (dCons (dOp2 oIx (dVarT 4) (dC (.int 0))) (dCons (dOp2 oIx (dVarT 4) (dC (.int 1))) (dCons (dCB (R i_placed) (dCons (dOp2 oIx (dVarT 4) (dC (.int 2))) (dCons (dVar 2) dNil))) dNil))))))
    (fun r env => ∃ done, b = done ++ r ∧ ∃ e4, env = [.im (bookD b), .im (.str m.name), .im (mkD m), .ow (.list (done.map (outM m g))), e4])
    (fun a r env => by
      rintro ⟨done, hd, e4, rfl⟩
      have ha : a ∈ b := by rw [hd]; simp
      have hz : (done.map (outM m g)).length < 1000000 := by rw [List.length_map]; have := congrArg List.length hd; simp at this; omega
      have c1 : oIx (mkD a) (.int 0) = some (.str a.name) := by simp [mkD]
      have c2 : oIx (mkD a) (.int 1) = some (nmsD a.names) := by simp [mkD]
      have c3 : oIx (mkD a) (.int 2) = some (sumD a.sum) := by simp [mkD]
      refine ⟨_, ?_, done ++ [a], by rw [hd]; simp, .im (mkD a), rfl⟩
      by_cases e : a.name = m.name
      · simp only [ev_gNm, List.set, runO_s]
        simp [c1, e, appR_s hz, outM]
      · simp only [ev_gNm, List.set, runO_s]
        simp [c1, c2, c3, e, appR_s hz, outM, hg a ha])
    b _ ⟨[], rfl, .no, rfl⟩
  rw [List.append_nil] at hd
  subst hd
  simp [bookD] at h1 hmk
  simp [d_inlined, b_inlined, bookD, hmk, h1]
theorem ne_mk {b : List Mk} (hb : Drawn b) {a m : Mk} (ha : a ∈ b) (hm : m ∈ b) : oNe (mkD a) (mkD m) = some (.bool (!decide (a.name = m.name))) := by
  rw [oNe_ok ((hb.okMk ha).mono (by decide)) ((hb.okMk hm).mono (by decide))]
  by_cases e : a.name = m.name
  · have q1 := find_name hb.nodup ha
    have q2 := find_name hb.nodup hm
    rw [e, q2] at q1
    cases q1
    rw [eqv_refl (hb.okMk hm).1]
    simp
  · have cl : ∀ x : Mk, clean (mkD x) = true := fun x => by
      have : ∀ ns : List Str, cleanAll (ns.map PyData.str) = true := fun ns => by
        induction ns with
        | nil => rfl
        | cons y r ih => simp [cleanAll, clean, ih]
      simp [mkD, nmsD, clean, cleanAll, clean_sum, this]
    rw [eqv_ne (cl a) (cl m) (by simp [mkD, e])]
    simp [e]
theorem outs_ok {b : List Mk} (hb : Drawn b) {m : Mk} {g : Mk → Sm} (hg : ∀ x ∈ b, WfS x.names (headsOf b) 8 (g x)) : okN 20 (.tuple (b.map (outM m g))) := by
  refine (okN_tup (n := 18) fun y hy => ?_).mono (by decide)
  obtain ⟨x, hx, rfl⟩ := List.mem_map.mp hy
  unfold outM
  split
  · exact (hb.okMk hx).mono (by decide)
  · refine (okN_tup (n := 16) fun y hy => ?_).mono (by decide)
    simp at hy
    rcases hy with rfl | rfl | rfl
    · exact okN_str (hb.nmok x hx)
    · unfold nmsD
      refine (okN_tup (n := 0) fun y hy => ?_).mono (by omega)
      obtain ⟨z, hz, rfl⟩ := List.mem_map.mp hy
      exact okN_str (set_ok2 (hb.sets x hx) z hz)
    · exact (hg x hx).okN (set_ok2 (hb.sets x hx)) hb.hdok
theorem law_true (ns : List Int) (h : ns.length ≤ 63) : d_law (Rn 40) [.list (ns.map .int)] = some (.bool true) := by
  obtain ⟨m0, p0, em0⟩ := mixed_Rn 38 ns 0
  obtain ⟨m1, p1, em1⟩ := mixed_Rn 38 ns 1
  obtain ⟨b, hb, eb⟩ := book_Rn 32 m0 p0
  have em0 : Rn 40 i__law_mixed [.list (ns.map .int), .int 0] = some (.int m0) := em0
  have em1 : Rn 40 i__law_mixed [.list (ns.map .int), .int 1] = some (.int m1) := em1
  have l4 := hb.four
  have l1 := hb.pos
  obtain ⟨md, hm1, hm2⟩ := atI_nn (l := b.map mkD) (i := m1 % (b.length : Int)) (Int.emod_nonneg _ (by omega)) (by rw [List.length_map]; exact Int.emod_lt_of_pos _ (by omega))
  obtain ⟨m, hm, rfl⟩ := List.mem_map.mp hm2
  obtain ⟨g, hg⟩ := pick (as := b) (P := fun x s' => WfS x.names (headsOf b) 8 s' ∧ (∀ n, Rn (n + 4 + 8) i_placed [sumD x.sum, mkD m] = some (sumD s')) ∧ ∀ n, Rn (n + 4 + 8) i__law_placed [sumD x.sum, mkD m] = some (sumD s')) fun x hx => plc_Rn hb hm (set_ok2 (hb.sets x hx)) 4 (by decide) _ (hb.wf x hx)
  have w1 : Rn 40 i_inlined [bookD b, .str m.name] = some (.tuple (b.map (outM m g))) := inl_loop (R := Rn 39) l4 (fun x hx => (hg x hx).2.1 27) (maker_ok (R := Rn 38) (find_name hb.nodup hm) (by omega))
  have w2 : oEq (.tuple (b.map (outM m g))) (.tuple (b.map (outM m g))) = some (.bool true) := oEq_self (outs_ok hb fun x hx => (hg x hx).1) (by decide)
  obtain ⟨env', h1, done, hd, e5, rfl⟩ := for_run (e := mkD) (tgt := gNm 5) (body := (sSeq (sIf (bOf (dOp2 oNe (dVarT 5) (dVarT 3)))
    (sAsg (dTup (dCons (dOp2 oIx (dVarT 5) (dC (.int 0))) (dCons (dOp2 oIx (dVarT 5) (dC (.int 1))) (dCons (dCB (Rn 40 i__law_placed) (dCons (dOp2 oIx (dVarT 5) (dC (.int 2))) (dCons (dVar 3) dNil))) dNil)))) (gNm 5)) sNil)
    (sAsg (dOp2 oAdd (dVarT 4) (dTup (dCons (dVar 5) dNil))) (gNm 4))))
    (fun r env => ∃ done, b = done ++ r ∧ ∃ e5, env = [.im (.list (ns.map .int)), .im (bookD b), .im (.int m1), .im (mkD m), .im (.tuple (done.map (outM m g))), e5])
    (fun a r env => by
      rintro ⟨done, hd, e5, rfl⟩
      have ha : a ∈ b := by rw [hd]; simp
      have hz : done.length + 1 ≤ sizeLine := sz (by have := congrArg List.length hd; simp at this; omega)
      have c1 : oIx (mkD a) (.int 0) = some (.str a.name) := by simp [mkD]
      have c2 : oIx (mkD a) (.int 1) = some (nmsD a.names) := by simp [mkD]
      have c3 : oIx (mkD a) (.int 2) = some (sumD a.sum) := by simp [mkD]
      have c4 := ne_mk hb ha hm
      have c5 : Rn 40 i__law_placed [sumD a.sum, mkD m] = some (sumD (g a)) := (hg a ha).2.2 28
      refine ⟨_, ?_, done ++ [a], by rw [hd]; simp, .im (outM m g a), rfl⟩
      by_cases e : a.name = m.name
      · simp only [ev_gNm, List.set, runO_s]
        simp [c4, e, hz, outM]
      · simp only [ev_gNm, List.set, runO_s]
        simp [c1, c2, c3, c4, c5, e, hz, outM])
    b [.im (.list (ns.map .int)), .im (bookD b), .im (.int m1), .im (mkD m), .im (.tuple []), .no] ⟨[], rfl, .no, rfl⟩
  rw [List.append_nil] at hd
  subst hd
  have c1 : oIx (mkD m) (.int 0) = some (.str m.name) := by simp [mkD]
  have lb : 0 < b.length := by omega
  simp [bookD] at h1 eb w1
  simp [d_law, b_law, em0, em1, bookD, eb, lb, hm1, h1, c1, w1, w2]

end W

namespace W
open PySem L2 Z
def fn : List He.DefD := [⟨("_law_drawn", none), "_law_drawn", "_law_drawn", defArgs s__law_drawn, defBody s__law_drawn, defScope s__law_drawn, [], []⟩, ⟨("_law_sum", none), "_law_sum", "_law_sum", defArgs s__law_sum, defBody s__law_sum, defScope s__law_sum, [], []⟩, ⟨("_law_again", none), "_law_again", "_law_again", defArgs s__law_again, defBody s__law_again, defScope s__law_again, [], []⟩, ⟨("_law_book", none), "_law_book", "_law_book", defArgs s__law_book, defBody s__law_book, defScope s__law_book, [], []⟩, ⟨("_law_cell_at", none), "_law_cell_at", "_law_cell_at", defArgs s__law_cell_at, defBody s__law_cell_at, defScope s__law_cell_at, [], []⟩, ⟨("_law_mixed", none), "_law_mixed", "_law_mixed", defArgs s__law_mixed, defBody s__law_mixed, defScope s__law_mixed, [], []⟩, ⟨("maker_of", none), "maker_of", "maker_of", defArgs s_maker_of, defBody s_maker_of, defScope s_maker_of, [], []⟩, ⟨("with_parts", none), "with_parts", "with_parts", defArgs s_with_parts, defBody s_with_parts, defScope s_with_parts, [], []⟩, ⟨("parts_of", none), "parts_of", "parts_of", defArgs s_parts_of, defBody s_parts_of, defScope s_parts_of, [], []⟩, ⟨("replaced", none), "replaced", "replaced", defArgs s_replaced, defBody s_replaced, defScope s_replaced, [], []⟩, ⟨("is_simple", none), "is_simple", "is_simple", defArgs s_is_simple, defBody s_is_simple, defScope s_is_simple, [], []⟩, ⟨("placed", none), "placed", "placed", defArgs s_placed, defBody s_placed, defScope s_placed, [], []⟩, ⟨("inlined", none), "inlined", "inlined", defArgs s_inlined, defBody s_inlined, defScope s_inlined, [], []⟩, ⟨("_law_in_place", none), "_law_in_place", "_law_in_place", defArgs s__law_in_place, defBody s__law_in_place, defScope s__law_in_place, [], []⟩, ⟨("_law_placed", none), "_law_placed", "_law_placed", defArgs s__law_placed, defBody s__law_placed, defScope s__law_placed, [], []⟩, ⟨("law", none), "law", "law", defArgs s_law, defBody s_law, defScope s_law, [], []⟩]
def fa : List He.Fa := [.glo "_law_drawn", .glo "_law_sum", .glo "_law_again", .glo "_law_book", .glo "_law_cell_at", .glo "_law_mixed", .glo "maker_of", .glo "with_parts", .glo "parts_of", .glo "replaced", .glo "is_simple", .glo "placed", .glo "inlined", .glo "_law_in_place", .glo "_law_placed", .glo "law", .free "all", .free "dict", .free "enumerate", .free "isinstance", .free "len", .free "list", .free "range", .free "str", .free "tuple", .free "zip"]
def xb (K : PySem.W.Frag) : Bool := noLst K
abbrev R0 : PySem.W.OpenRow := PySem.W.OpenLaw.row PySem.Challenge.rw_copyshapes_k80_inlined
abbrev hk : PySem.W.Hook := hookZ 4 fa fn xb
def ob (s : PySem.W.SharedT) : Bool × He.AlD := obZ 4 fa fn xb s
theorem ob_eq (s : PySem.W.SharedT) : ob s = hk.obs s.abs := obZ_eq 4 fa fn xb s
def loose0 : List PySem.Str := ["maker_of", "parts_of", "with_parts", "replaced", "is_simple", "placed", "inlined", "_law_cell_at", "_law_mixed", "_law_drawn", "_law_sum", "_law_again", "_law_book", "_law_worths", "_law_in_place", "_law_placed"]
def loose : List PySem.Str := loose0
theorem run (w : World) : HandSHeadRun.RunEq R0 (PySem.W.view R0.prog [19]) hk ob 3000 loose w := by
  intro os
  kernel_rfl
theorem facts {K : PySem.W.Frag} {h : Heap} {mg : Str → Option Value} (X : K.In h) (G : h.Ns mainGlobals mg) (b : xb K = true) (c : He.SaysD fa fn K) : noLst K = true ∧ Bu mg ∧ Tx K mg := by
  refine ⟨b, ⟨He.free_ok X G (c.fact 16 (f := .free "all") rfl), He.free_ok X G (c.fact 17 (f := .free "dict") rfl), He.free_ok X G (c.fact 18 (f := .free "enumerate") rfl), He.free_ok X G (c.fact 19 (f := .free "isinstance") rfl), He.free_ok X G (c.fact 20 (f := .free "len") rfl), He.free_ok X G (c.fact 21 (f := .free "list") rfl), He.free_ok X G (c.fact 22 (f := .free "range") rfl), He.free_ok X G (c.fact 23 (f := .free "str") rfl), He.free_ok X G (c.fact 24 (f := .free "tuple") rfl), He.free_ok X G (c.fact 25 (f := .free "zip") rfl)⟩, ⟨.mk (c.def_ 0 rfl) (He.glo_ok X G (c.fact 0 (f := .glo "_law_drawn") rfl)) fun _ _ _ _ _ _ us hl => match us, hl with | [_, _], _ => rfl,
    .mk (c.def_ 1 rfl) (He.glo_ok X G (c.fact 1 (f := .glo "_law_sum") rfl)) fun _ _ _ _ _ _ us hl => match us, hl with | [_, _, _, _], _ => rfl,
    .mk (c.def_ 2 rfl) (He.glo_ok X G (c.fact 2 (f := .glo "_law_again") rfl)) fun _ _ _ _ _ _ us hl => match us, hl with | [_, _, _, _], _ => rfl,
    .mk (c.def_ 3 rfl) (He.glo_ok X G (c.fact 3 (f := .glo "_law_book") rfl)) fun _ _ _ _ _ _ us hl => match us, hl with | [_], _ => rfl,
    .mk (c.def_ 4 rfl) (He.glo_ok X G (c.fact 4 (f := .glo "_law_cell_at") rfl)) fun _ _ _ _ _ _ us hl => match us, hl with | [_, _], _ => rfl,
    .mk (c.def_ 5 rfl) (He.glo_ok X G (c.fact 5 (f := .glo "_law_mixed") rfl)) fun _ _ _ _ _ _ us hl => match us, hl with | [_, _], _ => rfl,
    .mk (c.def_ 6 rfl) (He.glo_ok X G (c.fact 6 (f := .glo "maker_of") rfl)) fun _ _ _ _ _ _ us hl => match us, hl with | [_, _], _ => rfl,
    .mk (c.def_ 7 rfl) (He.glo_ok X G (c.fact 7 (f := .glo "with_parts") rfl)) fun _ _ _ _ _ _ us hl => match us, hl with | [_, _], _ => rfl,
    .mk (c.def_ 8 rfl) (He.glo_ok X G (c.fact 8 (f := .glo "parts_of") rfl)) fun _ _ _ _ _ _ us hl => match us, hl with | [_], _ => rfl,
    .mk (c.def_ 9 rfl) (He.glo_ok X G (c.fact 9 (f := .glo "replaced") rfl)) fun _ _ _ _ _ _ us hl => match us, hl with | [_, _], _ => rfl,
    .mk (c.def_ 10 rfl) (He.glo_ok X G (c.fact 10 (f := .glo "is_simple") rfl)) fun _ _ _ _ _ _ us hl => match us, hl with | [_], _ => rfl,
    .mk (c.def_ 11 rfl) (He.glo_ok X G (c.fact 11 (f := .glo "placed") rfl)) fun _ _ _ _ _ _ us hl => match us, hl with | [_, _], _ => rfl,
    .mk (c.def_ 12 rfl) (He.glo_ok X G (c.fact 12 (f := .glo "inlined") rfl)) fun _ _ _ _ _ _ us hl => match us, hl with | [_, _], _ => rfl,
    .mk (c.def_ 13 rfl) (He.glo_ok X G (c.fact 13 (f := .glo "_law_in_place") rfl)) fun _ _ _ _ _ _ us hl => match us, hl with | [_, _], _ => rfl,
    .mk (c.def_ 14 rfl) (He.glo_ok X G (c.fact 14 (f := .glo "_law_placed") rfl)) fun _ _ _ _ _ _ us hl => match us, hl with | [_, _], _ => rfl,
    .mk (c.def_ 15 rfl) (He.glo_ok X G (c.fact 15 (f := .glo "law") rfl)) fun _ _ _ _ _ _ us hl => match us, hl with | [_], _ => rfl⟩⟩
theorem ends {P : Program} {w : World} {K : PySem.W.Frag} {h : Heap} {mg : Str → Option Value} {fa0 : Addr} (X : K.In h) (G : h.Ns mainGlobals mg) (hm : mg ("law" : Str) = some (.ref fa0)) (b : xb K = true) (c : He.SaysD fa fn K) :
    ∃ (fd : FuncData) (sp : Sp), (∀ (s : Shared) (u : Value), BindsTo s fd ⟨[u], []⟩ [("script", u)]) ∧ (∀ (H : Hp) (a : Addr) (ns : List Int), ns.length ≤ 63 → Only H → SqL K H a (ns.map V.int) → sp [.ref a] H (fun v _ => v = .bl true) fun _ _ _ => False) ∧ ∀ base : Heap, FnOk P w K mg base CX0 231 fa0 fd ["script"] sp := by
  obtain ⟨n1, B, T⟩ := facts X G b c
  refine end_of (n := 40 + 1) (g := d_law (Rn 40)) T.law hm n1 (fun base f fd F => ?_) law_true (by decide) (by decide)
  have ih := al (P := P) (w := w) (base := base) B T 40
  exact ok_law B F ih._law_book ih._law_mixed ih._law_placed ih.inlined
end W
open PySem PySem.W PySem.Calls PyProof.Rows
set_option maxRecDepth 100000 in
set_option maxHeartbeats 0 in
theorem PySem.Challenge.cw_copyshapes_k80_inlined_holds : PySem.Challenge.rw_copyshapes_k80_inlined.Holds := by
  w_on; o_law
  refine HandSHeadRun.head_any (r := OpenLaw.row PySem.Challenge.rw_copyshapes_k80_inlined) (q := view (OpenLaw.row PySem.Challenge.rw_copyshapes_k80_inlined).prog [19]) (H := W.hk) (ob := W.ob) (M := 3000) (loose := W.loose) (d := HandSHeadRun.topDef (OpenLaw.row PySem.Challenge.rw_copyshapes_k80_inlined).prog 19) (kwd := []) W.ob_eq
    (by kernel_rfl) (fun s => by kernel_rfl) W.run (by kernel_rfl) (by kernel_rfl) (by kernel_rfl) (by rfl) (by first | assumption | decide +kernel) (by decide +kernel) ⟨rfl, rfl, rfl, rfl, rfl, by decide +kernel⟩ ?hw ?hc
  case hw => w_witness2
  case hc =>
    refine L2.walk_ofE (l := PySem.Challenge.rw_copyshapes_k80_inlined) (n := 63) (k := 231) (x := "script") (CX := L2.CX0) rfl (by decide) (by kernel_rfl) ⟨rfl, by decide, by decide⟩ ?F (fun _ _ _ _ z => z)
    intro w mg fa h Y G hm0
    obtain ⟨K, KX, b, c⟩ := Y
    have hm : mg ("law" : PySem.Str) = some (.ref fa) := by
      have e : (HandSHeadRun.topDef (OpenLaw.row PySem.Challenge.rw_copyshapes_k80_inlined).prog 19).name = ("law" : PySem.Str) := by kernel_rfl
      rw [← e]
      exact hm0
    obtain ⟨fd, sp, hb, hs, hF⟩ := W.ends (P := (PySem.Challenge.rw_copyshapes_k80_inlined).prog) (w := w) KX G hm b c
    exact ⟨K, fd, sp, KX, hb, hs, fun base _ _ => hF base⟩
