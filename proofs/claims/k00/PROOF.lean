import PyProof.Rows.All
import Wide.All
import OpenK.AllK
import Wide.FinOn
import HandS.ForMost
import HandS.Exc
import HandS.ExcOwn
import HandS.ExcInit
import HandS.ExcField
import HandS.ExcIs
import HandS.IsInst
import HandS.Style
import HandS.Wide
import HandS.TupAny
import HandS.TupMul
import HandS.Conv
import HandS.Zip
import HandS.OwnEq
import HandS.Property
import HandS.MakeKw
import HandS.Flow
import HandS.Star
import HandS.Words
import HandS.WordsList
import HandS.WordsExc
import HandS.CallSlots
import HandS.Lambda
import HandS.EndTab
import KE.GoesEnum
import KE.KExcIs
import HandS.MakeKwOnly
import KE.KExcSuper
import KE.KSuper
import HandS.ExcSuper
import PySem.Challenge.RW_bentcosts_k00_lines_and_what_is_none
set_option Elab.async false
set_option linter.all false
section
set_option maxRecDepth 100000
set_option maxHeartbeats 2000000
/-! the data layer, part a: values as trees, the frozen heap, the owned objects -/
namespace DL
open PySem PySem.Spec PyProof.Rows L2

/-- a value as a tree -/
inductive D where
  | non
  | bl (b : Bool)
  | int (i : Int)
  | str (s : Str)
  | tup (xs : List D)
  | lst (xs : List D)
  | emp
  | ins (C : Addr) (ns : List Str) (vs : List D)
  | exc (C : Addr) (ns : List Str) (vs : List D)

/-- an exception object that is kept: its class, its own dict -/
def ExcV (a C : Addr) (d : Option Addr) : HO := .ext fun h => ∃ oe vs, h.get? a = some oe ∧ oe.cls = .ref C ∧ oe.dict = d ∧ oe.data = .fields vs

/-- an exception's own dict: none, or one with its fields -/
def XF (G : Hp) (d : Option Addr) (ns : List Str) (xs : List V) : Prop := (d = none ∧ ns = []) ∨ ∃ dx, d = some dx ∧ G dx = some (.xd (ns.zip xs))
theorem XF.mono {G G' : Hp} (s : Same G G') {d : Option Addr} {ns : List Str} {xs : List V} (h : XF G d ns xs) : XF G' d ns xs := by
  rcases h with h | ⟨dx, e, h⟩
  · exact .inl h
  · exact .inr ⟨dx, e, s _ _ h⟩

mutual
def Rp (G : Hp) : V → D → Prop
  | v, .non => v = .non
  | v, .bl b => v = .bl b
  | v, .int i => v = .int i
  | v, .str s => v = .str s
  | v, .tup ds => ∃ a xs, v = .ref a ∧ G a = some (.tup xs) ∧ xs.length ≤ sizeLine ∧ Rps G xs ds
  | v, .lst ds => ∃ a xs, v = .ref a ∧ G a = some (.lst xs) ∧ xs.length ≤ sizeLine ∧ Rps G xs ds
  | v, .emp => ∃ a, v = .ref a ∧ G a = some (.dK [])
  | v, .ins C ns ds => ∃ a dx xs, v = .ref a ∧ G a = some (.ins C dx (ns.zip xs)) ∧ G dx = some (.own a) ∧ ns.length = xs.length ∧ Rps G xs ds
  | v, .exc C ns ds => ∃ a d xs, v = .ref a ∧ G a = some (ExcV a C d) ∧ XF G d ns xs ∧ ns.length = xs.length ∧ Rps G xs ds
def Rps (G : Hp) : List V → List D → Prop
  | [], [] => True
  | v :: vs, d :: ds => Rp G v d ∧ Rps G vs ds
  | [], _ :: _ => False
  | _ :: _, [] => False
end

theorem rd_same {G G' : Hp} (s : Same G G') {a : Addr} {o : HO} (h : Rd G a o) : Rd G' a o := by
  rcases h with h | ⟨u, h⟩
  · exact .inl (s _ _ h)
  · exact .inr ⟨u, s _ _ h⟩

mutual
theorem Rp.mono {G G' : Hp} (s : Same G G') : ∀ {v : V} {d : D}, Rp G v d → Rp G' v d
  | v, .non, h => h
  | v, .bl b, h => h
  | v, .int i, h => h
  | v, .str x, h => h
  | v, .tup ds, h => by
    simp only [Rp] at h ⊢
    obtain ⟨a, xs, e, h1, h2, h3⟩ := h
    exact ⟨a, xs, e, s _ _ h1, h2, Rps.mono s h3⟩
  | v, .lst ds, h => by
    simp only [Rp] at h ⊢
    obtain ⟨a, xs, e, h1, h2, h3⟩ := h
    exact ⟨a, xs, e, s _ _ h1, h2, Rps.mono s h3⟩
  | v, .emp, h => by
    simp only [Rp] at h ⊢
    obtain ⟨a, e, h1⟩ := h
    exact ⟨a, e, s _ _ h1⟩
  | v, .ins C ns ds, h => by
    simp only [Rp] at h ⊢
    obtain ⟨a, dx, xs, e, h1, h2, h3, h4⟩ := h
    exact ⟨a, dx, xs, e, s _ _ h1, s _ _ h2, h3, Rps.mono s h4⟩
  | v, .exc C ns ds, h => by
    simp only [Rp] at h ⊢
    obtain ⟨a, dx, xs, e, h1, h2, h3, h4⟩ := h
    exact ⟨a, dx, xs, e, s _ _ h1, h2.mono s, h3, Rps.mono s h4⟩
theorem Rps.mono {G G' : Hp} (s : Same G G') : ∀ {vs : List V} {ds : List D}, Rps G vs ds → Rps G' vs ds
  | [], [], _ => by simp only [Rps]
  | v :: vs, d :: ds, h => by
    simp only [Rps] at h ⊢
    exact ⟨Rp.mono s h.1, Rps.mono s h.2⟩
  | [], _ :: _, h => by simp only [Rps] at h
  | _ :: _, [], h => by simp only [Rps] at h
end

section
variable {G : Hp}
theorem Rps.nil : Rps G [] [] := by simp only [Rps]
theorem Rps.cons {v : V} {d : D} {vs : List V} {ds : List D} (h : Rp G v d) (t : Rps G vs ds) : Rps G (v :: vs) (d :: ds) := by
  simp only [Rps]; exact ⟨h, t⟩
theorem Rps.inv {v : V} {d : D} {vs : List V} {ds : List D} (h : Rps G (v :: vs) (d :: ds)) : Rp G v d ∧ Rps G vs ds := by
  simpa only [Rps] using h
theorem Rps.len : ∀ {vs : List V} {ds : List D}, Rps G vs ds → vs.length = ds.length
  | [], [], _ => rfl
  | v :: vs, d :: ds, h => by
    have e := Rps.len h.inv.2
    rw [List.length_cons, List.length_cons, e]
  | [], _ :: _, h => by simp only [Rps] at h
  | _ :: _, [], h => by simp only [Rps] at h
theorem Rps.ind {P : List V → List D → Prop} (h0 : P [] []) (h1 : ∀ v d vs ds, Rp G v d → Rps G vs ds → P vs ds → P (v :: vs) (d :: ds)) :
    ∀ {vs : List V} {ds : List D}, Rps G vs ds → P vs ds
  | [], [], _ => h0
  | v :: vs, d :: ds, h => h1 v d vs ds h.inv.1 h.inv.2 (Rps.ind h0 h1 h.inv.2)
  | [], _ :: _, h => by simp only [Rps] at h
  | _ :: _, [], h => by simp only [Rps] at h
theorem Rps.app {vs : List V} {ds : List D} (h : Rps G vs ds) {ws : List V} {es : List D} (h' : Rps G ws es) : Rps G (vs ++ ws) (ds ++ es) :=
  Rps.ind (P := fun vs ds => Rps G (vs ++ ws) (ds ++ es)) h' (fun _ _ _ _ a _ c => Rps.cons a c) h
theorem Rps.get : ∀ {vs : List V} {ds : List D} {i : Nat} {d : D}, Rps G vs ds → ds[i]? = some d → ∃ v, vs[i]? = some v ∧ Rp G v d
  | [], [], _, _, _, e => by simp at e
  | v :: vs, d :: ds, 0, x, h, e => by
    simp at e; subst e; exact ⟨v, rfl, h.inv.1⟩
  | v :: vs, d :: ds, i + 1, x, h, e => by
    obtain ⟨u, h1, h2⟩ := Rps.get (i := i) h.inv.2 (by simpa using e)
    exact ⟨u, by simpa using h1, h2⟩
  | [], _ :: _, _, _, h, _ => by simp only [Rps] at h
  | _ :: _, [], _, _, h, _ => by simp only [Rps] at h
theorem Rps.get' : ∀ {vs : List V} {ds : List D} {i : Nat} {v : V}, Rps G vs ds → vs[i]? = some v → ∃ d, ds[i]? = some d ∧ Rp G v d := fun {vs ds i v} h e => by
  have hi : i < ds.length := by
    have := (List.getElem?_eq_some_iff.mp e).1
    rw [h.len] at this; exact this
  obtain ⟨u, h1, h2⟩ := h.get (List.getElem?_eq_getElem hi)
  rw [e] at h1; cases h1
  exact ⟨_, List.getElem?_eq_getElem hi, h2⟩
theorem Rps.of_get : ∀ {vs : List V} {ds : List D}, vs.length = ds.length → (∀ (i : Nat) (v : V) (d : D), vs[i]? = some v → ds[i]? = some d → Rp G v d) → Rps G vs ds
  | [], [], _, _ => Rps.nil
  | v :: vs, d :: ds, hl, h => Rps.cons (h 0 v d rfl rfl) (Rps.of_get (by simpa using hl) fun i u e h1 h2 => h (i + 1) u e (by simpa using h1) (by simpa using h2))
  | [], _ :: _, hl, _ => by simp at hl
  | _ :: _, [], hl, _ => by simp at hl
theorem Rps.take {vs : List V} {ds : List D} (h : Rps G vs ds) (n : Nat) : Rps G (vs.take n) (ds.take n) := by
  refine Rps.of_get (by rw [List.length_take, List.length_take, h.len]) fun i v d h1 h2 => ?_
  rw [List.getElem?_take] at h1 h2
  split at h1
  · rename_i hi
    rw [if_pos hi] at h2
    obtain ⟨u, e, r⟩ := h.get h2
    rw [h1] at e; cases e; exact r
  · cases h1
theorem Rps.drop {vs : List V} {ds : List D} (h : Rps G vs ds) (n : Nat) : Rps G (vs.drop n) (ds.drop n) := by
  refine Rps.of_get (by rw [List.length_drop, List.length_drop, h.len]) fun i v d h1 h2 => ?_
  rw [List.getElem?_drop] at h1 h2
  obtain ⟨u, e, r⟩ := h.get h2
  rw [h1] at e; cases e; exact r
theorem Rps.rev {vs : List V} {ds : List D} (h : Rps G vs ds) : Rps G vs.reverse ds.reverse :=
  Rps.ind (P := fun vs ds => Rps G vs.reverse ds.reverse) Rps.nil (fun v d vs ds a _ c => by
    rw [List.reverse_cons, List.reverse_cons]; exact Rps.app c (Rps.cons a Rps.nil)) h
theorem Rps.dropLast {vs : List V} {ds : List D} (h : Rps G vs ds) : Rps G vs.dropLast ds.dropLast := by
  rw [List.dropLast_eq_take, List.dropLast_eq_take, h.len]; exact h.take _
theorem Rps.set {vs : List V} {ds : List D} (h : Rps G vs ds) {v : V} {d : D} (r : Rp G v d) (i : Nat) : Rps G (vs.set i v) (ds.set i d) := by
  refine Rps.of_get (by rw [List.length_set, List.length_set, h.len]) fun j u e h1 h2 => ?_
  rw [List.getElem?_set] at h1 h2
  by_cases hi : i = j
  · rw [if_pos hi] at h1 h2
    split at h1
    · split at h2
      · cases h1; cases h2; exact r
      · cases h2
    · cases h1
  · rw [if_neg hi] at h1 h2
    obtain ⟨w, q, r'⟩ := h.get h2
    rw [h1] at q; cases q; exact r'
theorem Rps.erase {vs : List V} {ds : List D} (h : Rps G vs ds) (i : Nat) : Rps G (vs.eraseIdx i) (ds.eraseIdx i) := by
  rw [List.eraseIdx_eq_take_drop_succ, List.eraseIdx_eq_take_drop_succ]
  exact (h.take _).app (h.drop _)
theorem Rps.rep {vs : List V} {ds : List D} (h : Rps G vs ds) : ∀ n : Nat, Rps G (List.replicate n vs).flatten (List.replicate n ds).flatten
  | 0 => by simp only [List.replicate_zero, List.flatten_nil]; exact Rps.nil
  | n + 1 => by
    rw [List.replicate_succ, List.replicate_succ, List.flatten_cons, List.flatten_cons]
    exact h.app (Rps.rep h n)
theorem Rps.ints : ∀ ns : List Int, Rps G (ns.map V.int) (ns.map D.int)
  | [] => Rps.nil
  | n :: ns => Rps.cons (by simp only [Rp]) (Rps.ints ns)
/-- the values of scalars are told -/
theorem Rp.int_inv {v : V} {i : Int} (h : Rp G v (.int i)) : v = .int i := by simpa only [Rp] using h
theorem Rps.ints_inv : ∀ {ns : List Int} {vs : List V}, Rps G vs (ns.map D.int) → vs = ns.map V.int
  | [], [], _ => rfl
  | n :: ns, v :: vs, h => by
    have h' : Rps G (v :: vs) (D.int n :: ns.map D.int) := h
    rw [Rp.int_inv h'.inv.1, Rps.ints_inv h'.inv.2, List.map_cons]
  | [], _ :: _, h => by simp only [List.map_nil, Rps] at h
  | _ :: _, [], h => by simp only [List.map_cons, Rps] at h
theorem Rps.bls_inv : ∀ {bs : List Bool} {vs : List V}, Rps G vs (bs.map D.bl) → vs = bs.map V.bl
  | [], [], _ => rfl
  | n :: ns, v :: vs, h => by
    have h' : Rps G (v :: vs) (D.bl n :: ns.map D.bl) := h
    have e : v = .bl n := by simpa only [Rp] using h'.inv.1
    rw [e, Rps.bls_inv h'.inv.2, List.map_cons]
  | [], _ :: _, h => by simp only [List.map_nil, Rps] at h
  | _ :: _, [], h => by simp only [List.map_cons, Rps] at h
end

/-- what a name holds: data, or a value as it is (the address of an owned object) -/
inductive B where
  | d (x : D)
  | v (x : V)
def RB (G : Hp) (v : V) : B → Prop
  | .d x => Rp G v x
  | .v x => v = x
theorem RB.mono {G G' : Hp} (s : Same G G') {v : V} : ∀ {b : B}, RB G v b → RB G' v b
  | .d _, h => Rp.mono s h
  | .v _, h => h
def RBs (G : Hp) : List V → List B → Prop
  | [], [] => True
  | v :: vs, b :: bs => RB G v b ∧ RBs G vs bs
  | [], _ :: _ => False
  | _ :: _, [] => False
theorem RBs.mono {G G' : Hp} (s : Same G G') : ∀ {vs : List V} {bs : List B}, RBs G vs bs → RBs G' vs bs
  | [], [], h => h
  | _ :: _, _ :: _, h => ⟨h.1.mono s, RBs.mono s h.2⟩
  | [], _ :: _, h => h
  | _ :: _, [], h => h
theorem RBs.len {G : Hp} : ∀ {vs : List V} {bs : List B}, RBs G vs bs → vs.length = bs.length
  | [], [], _ => rfl
  | _ :: _, _ :: _, h => by rw [List.length_cons, List.length_cons, RBs.len h.2]
  | [], _ :: _, h => h.elim
  | _ :: _, [], h => h.elim
theorem RBs.get {G : Hp} : ∀ {vs : List V} {bs : List B} {i : Nat} {b : B}, RBs G vs bs → bs[i]? = some b → ∃ v, vs[i]? = some v ∧ RB G v b
  | [], [], _, _, _, e => by simp at e
  | v :: vs, b :: bs, 0, x, h, e => by simp at e; subst e; exact ⟨v, rfl, h.1⟩
  | v :: vs, b :: bs, i + 1, x, h, e => by
    obtain ⟨u, h1, h2⟩ := RBs.get (i := i) h.2 (by simpa using e)
    exact ⟨u, by simpa using h1, h2⟩
  | [], _ :: _, _, _, h, _ => h.elim
  | _ :: _, [], _, _, h, _ => h.elim

/-- an owned object: a list, an instance, the state of the law's draws -/
structure DrK where
  (kg kc kr kt : Str)
inductive OD where
  | lst (xs : List D)
  | ins (C : Addr) (ns : List Str) (bs : List B)
  | draws (ks : DrK) (c : Addr) (cs : List Int) (n : Nat)
  | dct0
/-- the chunk of heap that it is -/
def Own1 (G : Hp) (a : Addr) : OD → Hp → Prop
  | .lst ds, h => ∃ vs, h a = some (.lst vs) ∧ vs.length ≤ sizeLine ∧ Rps G vs ds ∧ ∀ b, b ≠ a → h b = none
  | .ins C ns bs, h => ∃ dx vs, h a = some (.ins C dx (ns.zip vs)) ∧ h dx = some (.own a) ∧ dx ≠ a ∧ ns.length = vs.length ∧ ns.length ≤ 100 ∧ RBs G vs bs ∧ ∀ b, b ≠ a → b ≠ dx → h b = none
  | .draws ks c cs n, h => ∃ (g : Addr) (gs : List Int) (r t : Int) (kvs : List (Key × V)), a ≠ g ∧ a ≠ c ∧ g ≠ c ∧ h a = some (.dK kvs) ∧ (kvs.length ≤ 10 ∧ valV kvs (.inr ks.kg) = some (.ref g) ∧ valV kvs (.inr ks.kc) = some (.ref c) ∧ valV kvs (.inr ks.kr) = some (.int r) ∧ valV kvs (.inr ks.kt) = some (.int t) ∧ 0 ≤ t ∧ t ≤ n) ∧
      h g = some (.lst (gs.map V.int)) ∧ h c = some (.lst (cs.map V.int)) ∧ ∀ b, b ≠ a → b ≠ g → b ≠ c → h b = none
  | .dct0, h => h a = some (.dK []) ∧ ∀ b, b ≠ a → h b = none
theorem Own1.at {G : Hp} {a : Addr} : ∀ {o : OD} {h : Hp}, Own1 G a o h → ∃ u, h a = some u
  | .lst _, _, x => let ⟨_, e, _⟩ := x; ⟨_, e⟩
  | .ins _ _ _, _, x => let ⟨_, _, e, _⟩ := x; ⟨_, e⟩
  | .draws _ _ _ _, _, x => let ⟨_, _, _, _, _, _, _, _, e, _⟩ := x; ⟨_, e⟩
  | .dct0, _, x => ⟨_, x.1⟩
theorem Own1.mono {G G' : Hp} {a : Addr} (s : Same G G') : ∀ {o : OD} {h : Hp}, Own1 G a o h → Own1 G' a o h
  | .lst _, _, x => let ⟨vs, e, z, r, n⟩ := x; ⟨vs, e, z, r.mono s, n⟩
  | .ins _ _ _, _, x => let ⟨dx, vs, e1, e2, e3, e4, e5, r, n⟩ := x; ⟨dx, vs, e1, e2, e3, e4, e5, r.mono s, n⟩
  | .draws _ _ _ _, _, x => x
  | .dct0, _, x => x
/-- not a table of code objects -/
def NT (o : HO) : Prop := ∀ ps, o ≠ .tbl ps
theorem Own1.nt {G : Hp} {a : Addr} : ∀ {o : OD} {h : Hp}, Own1 G a o h → ∀ b u, h b = some u → NT u
  | .lst _, _, ⟨vs, e, _, _, n⟩, b, u, q => fun ps z => by
    by_cases hb : b = a
    · subst hb; rw [e] at q; cases q; cases z
    · rw [n b hb] at q; cases q
  | .ins _ _ _, _, ⟨dx, vs, e1, e2, _, _, _, _, n⟩, b, u, q => fun ps z => by
    by_cases hb : b = a
    · subst hb; rw [e1] at q; cases q; cases z
    · by_cases hd : b = dx
      · subst hd; rw [e2] at q; cases q; cases z
      · rw [n b hb hd] at q; cases q
  | .dct0, _, ⟨e, n⟩, b, u, q => fun ps z => by
    by_cases hb : b = a
    · subst hb; rw [e] at q; cases q; cases z
    · rw [n b hb] at q; cases q
  | .draws _ c _ _, _, ⟨g, gs, r, t, kvs, _, _, _, e1, _, e2, e3, n⟩, b, u, q => fun ps z => by
    by_cases hb : b = a
    · subst hb; rw [e1] at q; cases q; cases z
    · by_cases hg : b = g
      · subst hg; rw [e2] at q; cases q; cases z
      · by_cases hc : b = c
        · subst hc; rw [e3] at q; cases q; cases z
        · rw [n b hb hg hc] at q; cases q

def Dj (f G : Hp) : Prop := ∀ b, f b = none ∨ G b = none
theorem Dj.none_of {f G : Hp} (d : Dj f G) {b : Addr} {o : HO} (h : f b = some o) : G b = none := by
  rcases d b with z | z
  · rw [h] at z; cases z
  · exact z
theorem Dj.symm {f G : Hp} (d : Dj f G) : Dj G f := fun b => (d b).symm

abbrev Ow := List (Addr × OD)
/-- what stands around: the tables of code objects, the written part, the script -/
structure Tb where
  tabs : List (Addr × Str)
  K : PySem.W.Frag
  scr : List (Addr × List Int)
def ScrOk (K : PySem.W.Frag) (H : Hp) (p : Addr × List Int) : Prop := (∃ o, H p.1 = some (.frz o (.lst (p.2.map V.int)))) ∨ ∀ H' : Hp, SqL K H' p.1 (p.2.map V.int)
structure Amb (T : Tb) (H : Hp) : Prop where
  tab : LamX.Tabs T.tabs H
  scr : ∀ p ∈ T.scr, ScrOk T.K H p ∧ p.2.length ≤ 63
theorem ScrOk.ext {K : PySem.W.Frag} {H H' : Hp} {p : Addr × List Int} (h : ScrOk K H p) (s : LamX.ExtN H H') : ScrOk K H' p := by
  rcases h with ⟨o, h⟩ | h
  · exact .inl ⟨o, s _ _ h fun _ q => nomatch q⟩
  · exact .inr h
theorem ScrOk.seq {K : PySem.W.Frag} {H : Hp} {p : Addr × List Int} (h : ScrOk K H p) : SqL K H p.1 (p.2.map V.int) := by
  rcases h with ⟨o, h⟩ | h
  · exact .inl (.inr ⟨o, h⟩)
  · exact h H
theorem Amb.ext {T : Tb} {H H' : Hp} (t : Amb T H) (s : Same H H') : Amb T H' := ⟨t.tab.ext s, fun p hp => ⟨(t.scr p hp).1.ext (LamX.ExtN.of s), (t.scr p hp).2⟩⟩
theorem Amb.extN {T : Tb} {H H' : Hp} (t : Amb T H) (s : LamX.ExtN H H') (u : LamX.Tabs T.tabs H') : Amb T H' := ⟨u, fun p hp => ⟨(t.scr p hp).1.ext s, (t.scr p hp).2⟩⟩

/-- G frozen, O owned, all of it within H; T the tables of code objects -/
structure Sep (T : Tb) (G H : Hp) (O : Ow) : Prop where
  sub : Same G H
  nt : ∀ a o, G a = some o → NT o
  own : ∃ f : Addr → Hp, (∀ p ∈ O, Own1 G p.1 p.2 (f p.1) ∧ Same (f p.1) H ∧ Dj (f p.1) G) ∧ (∀ p ∈ O, ∀ q ∈ O, p.1 ≠ q.1 → Dj (f p.1) (f q.1))
  nd : (O.map (·.1)).Nodup
  tab : Amb T H

end DL
end
section
set_option maxRecDepth 100000
set_option maxHeartbeats 2000000
/-! part b: what is kept when objects are laid, changed, frozen -/
namespace DL
open PySem PySem.Spec PyProof.Rows L2

theorem Same.upd {H : Hp} {p : Addr} {o : HO} (h : H p = none) : Same H (upd H p o) := fun b u e => by
  rw [upd_ne (ne_of_none e h)]; exact e
theorem not_mem_of {H : Hp} {b p : Addr} {o : HO} (e : H b = some o) (h : H p = none) : b ≠ p := ne_of_none e h
theorem nt_lst {xs : List V} : NT (.lst xs) := fun _ q => nomatch q
theorem nt_tup {xs : List V} : NT (.tup xs) := fun _ q => nomatch q
theorem nt_dK {xs : List (Key × V)} : NT (.dK xs) := fun _ q => nomatch q
theorem nt_ins {C dx : Addr} {fs : List (Str × V)} : NT (.ins C dx fs) := fun _ q => nomatch q
theorem nt_own {a : Addr} : NT (.own a) := fun _ q => nomatch q
theorem nt_xd {fs : List (Str × V)} : NT (.xd fs) := fun _ q => nomatch q
theorem nt_excv {a C : Addr} {d : Option Addr} : NT (ExcV a C d) := fun _ q => nomatch (show HO.ext _ = HO.tbl _ from q)

/-- what stands around stays when a thing that is none of it is changed -/
theorem amb_upd {T : Tb} {H : Hp} (t : Amb T H) {b : Addr} {u : HO} (ne : ∀ o, H b = some o → NT o ∧ (∀ φ, o ≠ .ext φ) ∧ ∀ w x, o ≠ .frz w x) : Amb T (upd H b u) := by
  obtain ⟨t, sc⟩ := t
  refine ⟨?_, fun p hp => ⟨?_, (sc p hp).2⟩⟩
  case refine_2 =>
    rcases (sc p hp).1 with ⟨o, h⟩ | h
    · refine .inl ⟨o, ?_⟩
      rw [upd_ne (fun z => by rw [z] at h; exact (ne _ h).2.2 _ _ rfl)]
      exact h
    · exact .inr h
  intro p hp
  obtain ⟨ps, h1, h2, h3⟩ := t p hp
  have e1 : p.1 ≠ b := fun z => by
    subst z
    exact (ne _ h1).1 ps rfl
  refine ⟨ps, by rw [upd_ne e1]; exact h1, h2, fun pos cv hc => ?_⟩
  obtain ⟨c, hc1, hc2⟩ := h3 pos cv hc
  refine ⟨c, hc1, ?_⟩
  rw [upd_ne (fun z => by subst z; exact (ne _ hc2).2.1 _ rfl)]
  exact hc2

def oset (O : Ow) (a : Addr) (o : OD) : Ow := O.map fun p => if p.1 = a then (a, o) else p
def odel (O : Ow) (a : Addr) : Ow := O.filter fun p => decide (p.1 ≠ a)
theorem oset_keys (O : Ow) (a : Addr) (o : OD) : (oset O a o).map (·.1) = O.map (·.1) := by
  unfold oset
  rw [List.map_map]
  refine List.map_congr_left fun p _ => ?_
  show (if p.1 = a then (a, o) else p).1 = p.1
  split
  · rename_i h; exact h.symm
  · rfl
theorem mem_oset {O : Ow} {a : Addr} {o : OD} {p : Addr × OD} (h : p ∈ oset O a o) : (p = (a, o) ∧ ∃ o', (a, o') ∈ O) ∨ (p.1 ≠ a ∧ p ∈ O) := by
  unfold oset at h
  obtain ⟨q, hq, e⟩ := List.mem_map.mp h
  by_cases z : q.1 = a
  · rw [if_pos z] at e
    refine .inl ⟨e.symm, q.2, ?_⟩
    rw [← z]; exact hq
  · rw [if_neg z] at e
    subst e
    exact .inr ⟨z, hq⟩
theorem oset_self {O : Ow} {a : Addr} {o o' : OD} (h : (a, o) ∈ O) : (a, o') ∈ oset O a o' := by
  unfold oset
  exact List.mem_map.mpr ⟨(a, o), h, by rw [if_pos rfl]⟩
theorem oset_other {O : Ow} {a : Addr} {o : OD} {p : Addr × OD} (h : p ∈ O) (hn : p.1 ≠ a) : p ∈ oset O a o := by
  unfold oset
  exact List.mem_map.mpr ⟨p, h, by rw [if_neg hn]⟩
theorem oset_cons_self {O : Ow} {a : Addr} {o o' : OD} (h : ∀ p ∈ O, p.1 ≠ a) : oset ((a, o) :: O) a o' = (a, o') :: O := by
  unfold oset
  rw [List.map_cons, if_pos rfl]
  congr 1
  conv => rhs; rw [← List.map_id O]
  refine List.map_congr_left fun p hp => ?_
  rw [if_neg (h p hp)]; rfl
theorem oset_cons_ne {O : Ow} {a b : Addr} {o o' : OD} (h : b ≠ a) : oset ((b, o) :: O) a o' = (b, o) :: oset O a o' := by
  unfold oset
  rw [List.map_cons, if_neg h]
theorem mem_odel {O : Ow} {a : Addr} {p : Addr × OD} : p ∈ odel O a ↔ p ∈ O ∧ p.1 ≠ a := by
  unfold odel
  rw [List.mem_filter, decide_eq_true_iff]
theorem odel_cons_self {O : Ow} {a : Addr} {o : OD} (h : ∀ p ∈ O, p.1 ≠ a) : odel ((a, o) :: O) a = O := by
  unfold odel
  rw [List.filter_cons, if_neg (by simp)]
  exact List.filter_eq_self.mpr fun p hp => decide_eq_true (h p hp)
theorem odel_cons_ne {O : Ow} {a b : Addr} {o : OD} (h : b ≠ a) : odel ((b, o) :: O) a = (b, o) :: odel O a := by
  unfold odel
  rw [List.filter_cons, if_pos (by simp [h])]

section
variable {T : Tb} {G H : Hp} {O : Ow} {a : Addr} {o : OD}
theorem nodup_fst {O : Ow} (nd : (O.map (·.1)).Nodup) : ∀ {a : Addr} {o o' : OD}, (a, o) ∈ O → (a, o') ∈ O → o = o' := by
  induction O with
  | nil => intro a o o' h; simp at h
  | cons p O ih =>
    intro a o o' h h'
    rw [List.map_cons] at nd
    have nd' := List.nodup_cons.mp nd
    rcases List.mem_cons.mp h with e | h
    · rcases List.mem_cons.mp h' with e' | h'
      · rw [← e] at e'; exact (Prod.mk.inj e').2.symm
      · exact absurd (List.mem_map_of_mem h') (by rw [← e] at nd'; exact nd'.1)
    · rcases List.mem_cons.mp h' with e' | h'
      · exact absurd (List.mem_map_of_mem h) (by rw [← e'] at nd'; exact nd'.1)
      · exact ih nd'.2 h h'

/-- the chunk of one owned object -/
theorem Sep.chunk (S : Sep T G H O) (m : (a, o) ∈ O) : ∃ h, Own1 G a o h ∧ Same h H ∧ Dj h G ∧
    (∀ b w u o', h b = some w → NT u → (∀ φ, w ≠ .ext φ) → (∀ z x, w ≠ .frz z x) → Own1 G a o' (upd h b u) → Sep T G (upd H b u) (oset O a o')) ∧
    (∀ p ∈ O, p.1 ≠ a → ∀ b w, h b = some w → p.1 ≠ b) := by
  obtain ⟨sub, nt, ⟨f, h1, h2⟩, nd, tab⟩ := S
  obtain ⟨ow, sm, dj⟩ := h1 _ m
  refine ⟨f a, ow, sm, dj, fun b w u o' hb nu ne ne2 own' => ?_, fun p hp hn b w hb => ?_⟩
  · have hH : H b = some w := sm _ _ hb
    have gb : G b = none := dj.none_of hb
    have ntw : NT w := ow.nt b w hb
    refine ⟨fun c x e => ?_, nt, ⟨fun c => if c = a then upd (f a) b u else f c, ?_, ?_⟩, by rw [oset_keys]; exact nd, ?_⟩
    · rw [upd_ne (fun z => by rw [z, gb] at e; cases e)]
      exact sub _ _ e
    · intro p hp
      rcases mem_oset hp with ⟨e, _⟩ | ⟨hn, hp⟩
      · subst e
        show Own1 G a o' (if a = a then upd (f a) b u else f a) ∧ Same (if a = a then upd (f a) b u else f a) _ ∧ Dj (if a = a then upd (f a) b u else f a) G
        rw [if_pos rfl]
        refine ⟨own', fun c x e => ?_, fun c => ?_⟩
        · by_cases hc : c = b
          · rw [hc, upd_same] at e ⊢; exact e
          · rw [upd_ne hc] at e ⊢; exact sm _ _ e
        · by_cases hc : c = b
          · rw [hc]; exact .inr gb
          · rw [upd_ne hc]; exact dj c
      · show Own1 G p.1 p.2 (if p.1 = a then upd (f a) b u else f p.1) ∧ Same (if p.1 = a then upd (f a) b u else f p.1) _ ∧ Dj (if p.1 = a then upd (f a) b u else f p.1) G
        rw [if_neg hn]
        obtain ⟨o1, s1, d1⟩ := h1 p hp
        refine ⟨o1, fun c x e => ?_, d1⟩
        have dd := h2 p hp (a, o) m hn
        rw [upd_ne (fun z => by
          subst z
          have := dd.none_of e
          rw [hb] at this; cases this)]
        exact s1 _ _ e
    · intro p hp q hq hne
      have key : ∀ r : Addr × OD, r ∈ oset O a o' → r.1 ≠ a → Dj (upd (f a) b u) (f r.1) := fun r hr hn => by
        rcases mem_oset hr with ⟨e, _⟩ | ⟨_, hr⟩
        · exact absurd (by rw [e]) hn
        · have dd := h2 (a, o) m r hr (Ne.symm hn)
          intro c
          by_cases hc : c = b
          · rw [hc]; exact .inr (dd.none_of hb)
          · rw [upd_ne hc]; exact dd c
      show Dj (if p.1 = a then upd (f a) b u else f p.1) (if q.1 = a then upd (f a) b u else f q.1)
      by_cases hp' : p.1 = a
      · by_cases hq' : q.1 = a
        · exact absurd (hp'.trans hq'.symm) hne
        · rw [if_pos hp', if_neg hq']; exact key q hq hq'
      · by_cases hq' : q.1 = a
        · rw [if_neg hp', if_pos hq']; exact (key p hp hp').symm
        · rw [if_neg hp', if_neg hq']
          rcases mem_oset hp with ⟨e, _⟩ | ⟨_, hp⟩
          · exact absurd (by rw [e]) hp'
          · rcases mem_oset hq with ⟨e, _⟩ | ⟨_, hq⟩
            · exact absurd (by rw [e]) hq'
            · exact h2 p hp q hq hne
    · exact amb_upd tab fun x e => by
        rw [hH] at e; cases e
        exact ⟨ntw, ne, ne2⟩
  · intro z
    have dd := h2 p hp (a, o) m hn
    obtain ⟨w', e'⟩ := (h1 p hp).1.at
    have := dd.none_of e'
    rw [z, hb] at this
    cases this
theorem Sep.lst {ds : List D} (S : Sep T G H O) (m : (a, .lst ds) ∈ O) : ∃ vs, H a = some (.lst vs) ∧ vs.length ≤ sizeLine ∧ Rps G vs ds := by
  obtain ⟨h, ⟨vs, e, z, r, _⟩, sm, _⟩ := S.chunk m
  exact ⟨vs, sm _ _ e, z, r⟩
theorem Sep.gnone (S : Sep T G H O) (m : (a, o) ∈ O) : G a = none := by
  obtain ⟨h, ow, _, dj, _⟩ := S.chunk m
  obtain ⟨u, e⟩ := ow.at
  exact dj.none_of e
theorem Sep.there (S : Sep T G H O) (m : (a, o) ∈ O) : ∃ u, H a = some u := by
  obtain ⟨h, ow, sm, _⟩ := S.chunk m
  obtain ⟨u, e⟩ := ow.at
  exact ⟨u, sm _ _ e⟩
theorem Sep.fresh (S : Sep T G H O) {p : Addr} (h : H p = none) : ∀ q ∈ O, q.1 ≠ p := fun q hq z => by
  obtain ⟨u, e⟩ := S.there (a := q.1) (o := q.2) hq
  rw [z, h] at e; cases e
theorem Sep.gfresh (S : Sep T G H O) {p : Addr} (h : H p = none) : G p = none := by
  cases e : G p with
  | none => rfl
  | some u => rw [S.sub _ _ e] at h; cases h
/-- a list that is owned is changed -/
theorem Sep.setL {ds es : List D} {vs : List V} (S : Sep T G H O) (m : (a, .lst ds) ∈ O) (r : Rps G vs es) (z : vs.length ≤ sizeLine) : Sep T G (upd H a (.lst vs)) (oset O a (.lst es)) := by
  obtain ⟨h, ⟨ws, e, _, _, n⟩, _, _, k, _⟩ := S.chunk m
  refine k a _ _ _ e nt_lst (fun _ q => nomatch q) (fun _ _ q => nomatch q) ⟨vs, upd_same, z, r, fun b hb => ?_⟩
  rw [upd_ne hb]; exact n b hb
/-- the heap grows -/
theorem Sep.grow {H' : Hp} (S : Sep T G H O) (s : Same H H') : Sep T G H' O := by
  obtain ⟨sub, nt, ⟨f, h1, h2⟩, nd, tab⟩ := S
  exact ⟨sub.trans s, nt, ⟨f, fun p hp => let ⟨x, y, z⟩ := h1 p hp; ⟨x, y.trans s, z⟩, h2⟩, nd, tab.ext s⟩
/-- .. but for the tables -/
theorem Sep.growN {H' : Hp} (S : Sep T G H O) (s : LamX.ExtN H H') (t : LamX.Tabs T.tabs H') : Sep T G H' O := by
  obtain ⟨sub, nt, ⟨f, h1, h2⟩, nd, tab⟩ := S
  exact ⟨fun a o e => s a o (sub _ _ e) (nt _ _ e), nt, ⟨f, fun p hp => let ⟨x, y, z⟩ := h1 p hp; ⟨x, fun b u e => s b u (y _ _ e) (x.nt b u e), z⟩, h2⟩, nd, tab.extN s t⟩
/-- a new thing is laid and frozen -/
theorem Sep.frz {p : Addr} {u : HO} (S : Sep T G H O) (h : H p = none) (nu : NT u) : Sep T (upd G p u) (upd H p u) O := by
  have gp := S.gfresh h
  obtain ⟨sub, nt, ⟨f, h1, h2⟩, nd, tab⟩ := S
  refine ⟨fun b o e => ?_, fun b o e => ?_, ⟨f, fun q hq => ?_, h2⟩, nd, tab.ext (Same.upd h)⟩
  · by_cases hb : b = p
    · rw [hb, upd_same] at e ⊢; exact e
    · rw [upd_ne hb] at e ⊢; exact sub _ _ e
  · by_cases hb : b = p
    · rw [hb, upd_same] at e; cases e; exact nu
    · rw [upd_ne hb] at e; exact nt _ _ e
  · obtain ⟨x, y, z⟩ := h1 q hq
    refine ⟨x.mono (Same.upd gp), y.trans (Same.upd h), fun b => ?_⟩
    by_cases hb : b = p
    · refine .inl ?_
      cases e : f q.1 b with
      | none => rfl
      | some w =>
        have := y _ _ e
        rw [hb, h] at this; cases this
    · rw [upd_ne hb]; exact z b
/-- new things laid, owned -/
theorem Sep.ownC {p : Addr} {od : OD} {c : Hp} {H' : Hp} (S : Sep T G H O) (s : Same H H') (oc : Own1 G p od c) (hc : ∀ b u, c b = some u → H b = none ∧ H' b = some u) : Sep T G H' ((p, od) :: O) := by
  obtain ⟨u0, hp0⟩ := oc.at
  have hp := (hc _ _ hp0).1
  have fr := S.fresh hp
  have gn : ∀ b u, c b = some u → G b = none := fun b u e => S.gfresh (hc _ _ e).1
  obtain ⟨sub, nt, ⟨f, h1, h2⟩, nd, tab⟩ := S.grow s
  obtain ⟨_, _, ⟨f', h1', h2'⟩, _, _⟩ := S
  have fne : ∀ q ∈ O, (if q.1 = p then c else f' q.1) = f' q.1 := fun q hq => if_neg (fr q hq)
  have dcq : ∀ q ∈ O, Dj c (f' q.1) := fun q hq b => by
    cases e : f' q.1 b with
    | none => exact .inr rfl
    | some w =>
      left
      cases e2 : c b with
      | none => rfl
      | some w2 =>
        have z1 := (h1' q hq).2.1 _ _ e
        rw [(hc _ _ e2).1] at z1; cases z1
  refine ⟨sub, nt, ⟨fun b => if b = p then c else f' b, fun q hq => ?_, fun q hq r hr hne => ?_⟩, ?_, tab⟩
  · rcases List.mem_cons.mp hq with e | hq
    · subst e
      show Own1 G p od (if p = p then c else f' p) ∧ Same (if p = p then c else f' p) H' ∧ Dj (if p = p then c else f' p) G
      rw [if_pos rfl]
      exact ⟨oc, fun b u e => (hc _ _ e).2, fun b => by
        cases e : c b with
        | none => exact .inl rfl
        | some w => exact .inr (gn _ _ e)⟩
    · show Own1 G q.1 q.2 (if q.1 = p then c else f' q.1) ∧ Same (if q.1 = p then c else f' q.1) H' ∧ Dj (if q.1 = p then c else f' q.1) G
      rw [fne q hq]
      obtain ⟨x, y, z⟩ := h1' q hq
      exact ⟨x, y.trans s, z⟩
  · show Dj (if q.1 = p then c else f' q.1) (if r.1 = p then c else f' r.1)
    rcases List.mem_cons.mp hq with e | hq
    · rcases List.mem_cons.mp hr with e' | hr
      · rw [e, e'] at hne; exact absurd rfl hne
      · have e1 : q.1 = p := by rw [e]
        rw [if_pos e1, fne r hr]; exact dcq r hr
    · rcases List.mem_cons.mp hr with e' | hr
      · have e1 : r.1 = p := by rw [e']
        rw [if_pos e1, fne q hq]; exact (dcq q hq).symm
      · rw [fne q hq, fne r hr]; exact h2' q hq r hr hne
  · rw [List.map_cons]
    refine List.nodup_cons.mpr ⟨fun hm => ?_, nd⟩
    obtain ⟨q, hq, e⟩ := List.mem_map.mp hm
    exact fr q hq e
theorem Sep.ownL {p : Addr} {vs : List V} {ds : List D} (S : Sep T G H O) (h : H p = none) (r : Rps G vs ds) (z : vs.length ≤ sizeLine) : Sep T G (upd H p (.lst vs)) ((p, .lst ds) :: O) := by
  refine S.ownC (c := upd (fun _ => none) p (.lst vs)) (Same.upd h) ⟨vs, upd_same, z, r, fun b hb => by rw [upd_ne hb]⟩ fun b u e => ?_
  by_cases hb : b = p
  · subst hb
    rw [upd_same] at e ⊢
    exact ⟨h, e⟩
  · rw [upd_ne hb] at e; cases e
/-- owned things are let go -/
theorem Sep.drop {O' : Ow} (S : Sep T G H O) (hs : ∀ p ∈ O', p ∈ O) (nd' : (O'.map (·.1)).Nodup) : Sep T G H O' := by
  obtain ⟨sub, nt, ⟨f, h1, h2⟩, nd, tab⟩ := S
  exact ⟨sub, nt, ⟨f, fun p hp => h1 p (hs p hp), fun p hp q hq => h2 p (hs p hp) q (hs q hq)⟩, nd', tab⟩
theorem Sep.tail {p : Addr × OD} (S : Sep T G H (p :: O)) : Sep T G H O :=
  S.drop (fun q hq => List.mem_cons_of_mem _ hq) (by have := S.nd; rw [List.map_cons] at this; exact (List.nodup_cons.mp this).2)
/-- one heap over another -/
def gun (h G : Hp) : Hp := fun b => match h b with
  | some u => some u
  | none => G b
theorem gun_some {h G : Hp} {b : Addr} {u : HO} (e : h b = some u) : gun h G b = some u := by unfold gun; rw [e]
theorem gun_none {h G : Hp} {b : Addr} (e : h b = none) : gun h G b = G b := by unfold gun; rw [e]
theorem gun_same {h G : Hp} (d : Dj h G) : Same G (gun h G) := fun b u e => by
  rw [gun_none (d.symm.none_of e)]; exact e
theorem odel_nd {O : Ow} {a : Addr} (nd : (O.map (·.1)).Nodup) : ((odel O a).map (·.1)).Nodup := by
  unfold odel
  exact (List.filter_sublist.map _).nodup nd
/-- an owned thing is frozen -/
theorem Sep.freeze (S : Sep T G H O) (m : (a, o) ∈ O) : ∃ h, Own1 G a o h ∧ Dj h G ∧ Sep T (gun h G) H (odel O a) := by
  obtain ⟨sub, nt, ⟨f, h1, h2⟩, nd, tab⟩ := S
  obtain ⟨ow, sm, dj⟩ := h1 _ m
  refine ⟨f a, ow, dj, fun b u e => ?_, fun b u e => ?_, ⟨f, fun p hp => ?_, fun p hp q hq => h2 p (mem_odel.mp hp).1 q (mem_odel.mp hq).1⟩, odel_nd nd, tab⟩
  · cases e2 : f a b with
    | some w => rw [gun_some e2] at e; cases e; exact sm _ _ e2
    | none => rw [gun_none e2] at e; exact sub _ _ e
  · cases e2 : f a b with
    | some w => rw [gun_some e2] at e; cases e; exact ow.nt _ _ e2
    | none => rw [gun_none e2] at e; exact nt _ _ e
  · obtain ⟨hp, hn⟩ := mem_odel.mp hp
    obtain ⟨x, y, z⟩ := h1 p hp
    refine ⟨x.mono (gun_same dj), y, fun b => ?_⟩
    cases e2 : f a b with
    | some w => exact .inl ((h2 p hp (a, o) m hn).symm.none_of e2)
    | none => rw [gun_none e2]; exact z b
theorem Sep.freezeL {ds : List D} (S : Sep T G H O) (m : (a, .lst ds) ∈ O) : ∃ G', Same G G' ∧ Sep T G' H (odel O a) ∧ Rp G' (.ref a) (.lst ds) := by
  obtain ⟨h, ⟨vs, e, z, r, n⟩, dj, S'⟩ := S.freeze m
  refine ⟨gun h G, gun_same dj, S', ?_⟩
  simp only [Rp]
  exact ⟨a, vs, rfl, gun_some e, z, r.mono (gun_same dj)⟩
theorem RBs.data {G : Hp} : ∀ {vs : List V} {ds : List D}, RBs G vs (ds.map B.d) → Rps G vs ds
  | [], [], _ => Rps.nil
  | _ :: _, _ :: _, h => Rps.cons h.1 (RBs.data h.2)
  | [], _ :: _, h => h.elim
  | _ :: _, [], h => h.elim
theorem RBs.ofData {G : Hp} : ∀ {vs : List V} {ds : List D}, Rps G vs ds → RBs G vs (ds.map B.d)
  | [], [], _ => trivial
  | _ :: _, _ :: _, h => ⟨h.inv.1, RBs.ofData h.inv.2⟩
  | [], _ :: _, h => by simp only [Rps] at h
  | _ :: _, [], h => by simp only [Rps] at h
theorem Sep.freezeI {C : Addr} {ns : List Str} {ds : List D} (S : Sep T G H O) (m : (a, .ins C ns (ds.map B.d)) ∈ O) : ∃ G', Same G G' ∧ Sep T G' H (odel O a) ∧ Rp G' (.ref a) (.ins C ns ds) := by
  obtain ⟨h, ⟨dx, vs, e1, e2, e3, e4, e5, r, n⟩, dj, S'⟩ := S.freeze m
  refine ⟨gun h G, gun_same dj, S', ?_⟩
  simp only [Rp]
  exact ⟨a, dx, vs, rfl, gun_some e1, gun_some e2, e4, (RBs.data r).mono (gun_same dj)⟩
end
end DL
end
section
set_option maxRecDepth 100000
set_option maxHeartbeats 2000000
/-! part c: judgements by data, names, operators, calls -/
namespace DL
open PySem PySem.Spec PyProof.Rows L2

abbrev Ro := List (Option B)
/-- an exception: its class, its fields -/
abbrev Exn := Addr × List Str × List D
abbrev DK := B → Ow → Prop
abbrev DX := Exn → Ow → Prop
abbrev DTE := Ro → Ow → DK → DX → Prop
abbrev DTA := Ro → Ow → (List B → Ow → Prop) → DX → Prop
abbrev DTT := Ro → Ow → (Bool → Ow → Prop) → DX → Prop

def Ev (G : Hp) (σ : L2.St) (ρ : Ro) : Prop := ∀ (i : Nat) (b : B), ρ[i]? = some (some b) → ∃ v, σ[i]? = some (some v) ∧ RB G v b
def XRep (G : Hp) (cls : Value) (d : Option Addr) (x : Exn) : Prop := cls = .ref x.1 ∧ ∃ xs, XF G d x.2.1 xs ∧ x.2.1.length = xs.length ∧ Rps G xs x.2.2
theorem Ev.mono {G G' : Hp} {σ : L2.St} {ρ : Ro} (s : Same G G') (e : Ev G σ ρ) : Ev G' σ ρ := fun i b h => let ⟨v, h1, h2⟩ := e i b h; ⟨v, h1, h2.mono s⟩
theorem XRep.mono {G G' : Hp} {cls : Value} {d : Option Addr} {x : Exn} (s : Same G G') (h : XRep G cls d x) : XRep G' cls d x :=
  let ⟨e, xs, h1, h2, h3⟩ := h; ⟨e, xs, h1.mono s, h2, h3.mono s⟩

def Post (T : Tb) (G : Hp) (R : DK) (Q : VK) : Prop := ∀ b O v G' H, R b O → Same G G' → Sep T G' H O → RB G' v b → Q v H
def PostA (T : Tb) (G : Hp) (R : List B → Ow → Prop) (Q : List V → Hp → Prop) : Prop := ∀ b O v G' H, R b O → Same G G' → Sep T G' H O → RBs G' v b → Q v H
def PostT (T : Tb) (G : Hp) (R : Bool → Ow → Prop) (Q : Bool → Hp → Prop) : Prop := ∀ b O G' H, R b O → Same G G' → Sep T G' H O → Q b H
def XPost (T : Tb) (G : Hp) (R : DX) (E : XK) : Prop := ∀ x O cls d G' H, R x O → Same G G' → Sep T G' H O → XRep G' cls d x → E cls d H
theorem Post.mono {T : Tb} {G G1 : Hp} {R : DK} {Q : VK} (s : Same G G1) (h : Post T G R Q) : Post T G1 R Q := fun b O v G' H r s' => h b O v G' H r (s.trans s')
theorem PostA.mono {T : Tb} {G G1 : Hp} {R : List B → Ow → Prop} {Q : List V → Hp → Prop} (s : Same G G1) (h : PostA T G R Q) : PostA T G1 R Q := fun b O v G' H r s' => h b O v G' H r (s.trans s')
theorem PostT.mono {T : Tb} {G G1 : Hp} {R : Bool → Ow → Prop} {Q : Bool → Hp → Prop} (s : Same G G1) (h : PostT T G R Q) : PostT T G1 R Q := fun b O G' H r s' => h b O G' H r (s.trans s')
theorem XPost.mono {T : Tb} {G G1 : Hp} {R : DX} {E : XK} (s : Same G G1) (h : XPost T G R E) : XPost T G1 R E := fun b O c d G' H r s' => h b O c d G' H r (s.trans s')

abbrev wx (W : WX) (σ : L2.St) : XK := fun c d H => W c d σ H
/-- the readings that data-level ones are worth -/
def canE (T : Tb) (W : WX) (δ : DTE) : TE := fun σ H Q => ∃ G ρ O R RX, Sep T G H O ∧ Ev G σ ρ ∧ δ ρ O R RX ∧ Post T G R Q ∧ XPost T G RX (wx W σ)
def canA (T : Tb) (W : WX) (δ : DTA) : TA := fun σ H Q => ∃ G ρ O R RX, Sep T G H O ∧ Ev G σ ρ ∧ δ ρ O R RX ∧ PostA T G R Q ∧ XPost T G RX (wx W σ)
def canT (T : Tb) (W : WX) (δ : DTT) : TT := fun σ H Q => ∃ G ρ O R RX, Sep T G H O ∧ Ev G σ ρ ∧ δ ρ O R RX ∧ PostT T G R Q ∧ XPost T G RX (wx W σ)
/-- an expression, arguments, a test, read by data -/
def DE (X : Cx) (T : Tb) (W : WX) (e : Expr) (δ : DTE) : Prop := PE X e (canE T W δ)
def DA (X : Cx) (T : Tb) (W : WX) (e : List Expr) (δ : DTA) : Prop := PA X e (canA T W δ)
def DT (X : Cx) (T : Tb) (W : WX) (e : Expr) (δ : DTT) : Prop := PT X e (canT T W δ)
/-- .. as one of several parts of and, or -/
def DW (X : Cx) (T : Tb) (W : WX) (e : Expr) (δ : DTT) : Prop := PW X e (canT T W δ)
theorem pe_imp {X : Cx} {e : Expr} {t t' : TE} (h : PE X e t) (i : ∀ σ H Q, t' σ H Q → t σ H Q) : PE X e t' := ⟨fun p s σ H Q I q => h.run p s σ H Q I (i σ H Q q)⟩
theorem pa_imp {X : Cx} {e : List Expr} {t t' : TA} (h : PA X e t) (i : ∀ σ H Q, t' σ H Q → t σ H Q) : PA X e t' := ⟨fun p q s σ H Q I r => h.run p q s σ H Q I (i σ H Q r)⟩
theorem pt_imp {X : Cx} {e : Expr} {t t' : TT} (h : PT X e t) (i : ∀ σ H Q, t' σ H Q → t σ H Q) : PT X e t' := ⟨fun p s σ H Q I q => h.run p s σ H Q I (i σ H Q q)⟩
theorem pw_imp {X : Cx} {e : Expr} {t t' : TT} (h : PW X e t) (i : ∀ σ H Q, t' σ H Q → t σ H Q) : PW X e t' := ⟨fun w p s σ H Q I q => h.run w p s σ H Q I (i σ H Q q)⟩

section
variable {X : Cx} {T : Tb} {W : WX} {a b c e : Expr} {α β γ : DTE} {pos : Pos}

/-! ### names, constants -/
abbrev dC (b : B) : DTE := fun _ O R _ => R b O
abbrev dVar (i : Nat) : DTE := fun ρ O R _ => ∃ b, ρ[i]? = some (some b) ∧ R b O
theorem de_of {t : TE} {δ : DTE} (h : PE X e t) (i : ∀ G σ H ρ O R RX Q, Sep T G H O → Ev G σ ρ → δ ρ O R RX → Post T G R Q → XPost T G RX (wx W σ) → t σ H Q) : DE X T W e δ :=
  pe_imp h fun σ H Q ⟨G, ρ, O, R, RX, S, E, d, p, x⟩ => i G σ H ρ O R RX Q S E d p x
theorem de_var (i : Nat) {x : Str} (hN : X.N[i]? = some x := by rfl) (hv : Vis X.env.scope x := by first | exact Or.inl rfl | exact Or.inr (Or.inl rfl) | exact Or.inr (Or.inr rfl)) (hd : (x == ("__debug__" : Str)) = false := by decide)
    (hcd : (x == ("__classdict__" : Str)) = false := by decide) : DE X T W (.Name x pos) (dVar i) :=
  de_of (pe_var hN hv hd hcd) fun G σ H ρ O R RX Q S E ⟨b, e, r⟩ p _ => let ⟨v, e1, e2⟩ := E i b e; ⟨v, e1, p b O v G H r (Same.refl _) S e2⟩
theorem de_c {v : V} {b : B} (h : PE X e (tC v)) (r : ∀ G, RB G v b) : DE X T W e (dC b) :=
  de_of h fun G _ H _ O _ _ _ S _ d p _ => p b O v G H d (Same.refl _) S (r G)
theorem de_int {i : Int} {j : Nat} : DE X T W (.Constant (.int i) j pos) (dC (.d (.int i))) := de_c pe_int fun G => by simp only [RB, Rp]
theorem de_bl {i : Bool} {j : Nat} : DE X T W (.Constant (.bool i) j pos) (dC (.d (.bl i))) := de_c pe_bl fun G => by simp only [RB, Rp]
theorem de_non {j : Nat} : DE X T W (.Constant .none j pos) (dC (.d .non)) := de_c pe_non fun G => by simp only [RB, Rp]
theorem de_str {x : Str} {j : Nat} : DE X T W (.Constant (.str x) j pos) (dC (.d (.str x))) := de_c pe_str fun G => by simp only [RB, Rp]
/-- a number of the module -/
theorem de_glob {x : Str} {i : Int} {u : Tok} (hm : X.mg x = some (.int i u)) (hg : Gl X x := by rfl) (hd : (x == ("__debug__" : Str)) = false := by decide) : DE X T W (.Name x pos) (dC (.d (.int i))) :=
  de_c (pe_glob hg hm (v := .int i) ⟨_, rfl⟩ hd) fun G => by simp only [RB, Rp]
theorem de_globS {x : Str} {i : Str} {u : Tok} (hm : X.mg x = some (.str i u)) (hg : Gl X x := by rfl) (hd : (x == ("__debug__" : Str)) = false := by decide) : DE X T W (.Name x pos) (dC (.d (.str i))) :=
  de_c (pe_glob hg hm (v := .str i) ⟨_, rfl⟩ hd) fun G => by simp only [RB, Rp]

/-! ### two parts, an operator -/
abbrev F1 := B → Ow → DK → Prop
abbrev F2 := B → B → Ow → DK → Prop
abbrev dOp (f : F2) (α β : DTE) : DTE := fun ρ O R RX => α ρ O (fun x O1 => β ρ O1 (fun y O2 => f x y O2 R) RX) RX
abbrev dUn (f : F1) (α : DTE) : DTE := fun ρ O R RX => α ρ O (fun x O1 => f x O1 R) RX
/-- the rule r by values answers what f says by data -/
def Op2 (T : Tb) (r : R2) (f : F2) : Prop := ∀ G H O x y b c R Q, Sep T G H O → RB G x b → RB G y c → f b c O R → Post T G R Q → r x y H Q
def Op1 (T : Tb) (r : V → Hp → VK → Prop) (f : F1) : Prop := ∀ G H O x b R Q, Sep T G H O → RB G x b → f b O R → Post T G R Q → r x H Q
theorem can2 {r : R2} {f : F2} (hd : Op2 T r f) {G σ H ρ O R RX Q} (S : Sep T G H O) (E : Ev G σ ρ) (d : dOp f α β ρ O R RX) (p : Post T G R Q) (x : XPost T G RX (wx W σ)) :
    tOp r (canE T W α) (canE T W β) σ H Q :=
  ⟨G, ρ, O, _, RX, S, E, d, fun b O1 v G1 H1 d1 s1 S1 r1 => ⟨G1, ρ, O1, _, RX, S1, E.mono s1, d1, fun c O2 u G2 H2 d2 s2 S2 r2 => hd G2 H2 O2 v u b c R Q S2 (r1.mono s2) r2 d2 (p.mono (s1.trans s2)), x.mono s1⟩, x⟩
theorem de_op {op : Operator} {r : R2} {f : F2} (ho : OpR X (binaryOp op) r) (hd : Op2 T r f) (ha : DE X T W a α) (hb : DE X T W b β) : DE X T W (.BinOp a op b pos) (dOp f α β) :=
  de_of (pe_op ho ha hb) fun _ _ _ _ _ _ _ _ S E d p x => can2 hd S E d p x
theorem de_un {op : UnaryOp} {r : V → Hp → VK → Prop} {f : F1} (ho : UnR X (unaryOp op) r) (hd : Op1 T r f) (ha : DE X T W a α) : DE X T W (.UnaryOp op a pos) (dUn f α) :=
  de_of (pe_un ho ha) fun G σ H ρ O R RX Q S E d p x => ⟨G, ρ, O, _, RX, S, E, d, fun b O1 v G1 H1 d1 s1 S1 r1 => hd G1 H1 O1 v b R Q S1 r1 d1 (p.mono s1), x⟩
theorem de_cmp {op : CmpOp} {r : R2} {f : F2} (ho : OpR X (compareOp op) r) (hd : Op2 T r f) (ha : DE X T W a α) (hb : DE X T W b β) (hm : behindInMarks op b = false) : DE X T W (.Compare a [op] [b] pos) (dOp f α β) :=
  de_of (pe_cmpR ho ha hb hm) fun _ _ _ _ _ _ _ _ S E d p x => can2 hd S E d p x
/-- a value that is a bool, as a test -/
abbrev dB (α : DTE) : DTT := fun ρ O R RX => α ρ O (fun x O1 => ∃ k, x = .d (.bl k) ∧ R k O1) RX
theorem dt_of {t : TT} {δ : DTT} (h : PT X e t) (i : ∀ G σ H ρ O R RX Q, Sep T G H O → Ev G σ ρ → δ ρ O R RX → PostT T G R Q → XPost T G RX (wx W σ) → t σ H Q) : DT X T W e δ :=
  pt_imp h fun σ H Q ⟨G, ρ, O, R, RX, S, E, d, p, x⟩ => i G σ H ρ O R RX Q S E d p x
theorem dt_cmp {op : CmpOp} {r : R2} {f : F2} (ho : OpR X (compareOp op) r) (hd : Op2 T r f) (ha : DE X T W a α) (hb : DE X T W b β) (hm : behindInMarks op b = false) : DT X T W (.Compare a [op] [b] pos) (dB (dOp f α β)) :=
  dt_of (pt_cmpR ho ha hb hm) fun G σ H ρ O R RX Q S E d p x => can2 (R := fun x O1 => ∃ k, x = .d (.bl k) ∧ R k O1) hd S E d (fun b O1 v G1 H1 ⟨k, e, r⟩ s1 S1 r1 => by
    subst e
    have e2 : v = .bl k := by simpa only [RB, Rp] using r1
    exact ⟨k, e2, p k O1 G1 H1 r s1 S1⟩) x
/-- an expression whose value is a bool, as a test -/
theorem dt_val (ha : DE X T W a α) (he : ∀ whole, isTrue a X.env whole = (do let v ← whole; standAt a.pos; holding [v] (truthy v)) := by intro _; rfl) : DT X T W a (dB α) :=
  dt_of (pt_val ha he) fun G σ H ρ O R RX Q S E d p x => ⟨G, ρ, O, _, RX, S, E, d, (fun b O1 v G1 H1 ⟨k, e, r⟩ s1 S1 r1 => by
    subst e
    have e2 : v = .bl k := by simpa only [RB, Rp] using r1
    exact ⟨k, e2, p k O1 G1 H1 r s1 S1⟩), x⟩
/-- by truth of a bool or an int -/
def iteP (k : Bool) (A B : Prop) : Prop := (k = true → A) ∧ (k = false → B)
theorem iteP_if {k : Bool} {A B : Prop} (h : iteP k A B) : if k = true then A else B := by
  cases k
  · rw [if_neg Bool.false_ne_true]; exact h.2 rfl
  · rw [if_pos rfl]; exact h.1 rfl
theorem iteP_true {A B : Prop} : iteP true A B ↔ A := by unfold iteP; simp
theorem iteP_false {A B : Prop} : iteP false A B ↔ B := by unfold iteP; simp

/-! ### chains -/
abbrev dChain (f g : F2) (α β γ : DTE) : DTE := fun ρ O R RX => α ρ O (fun x O1 => β ρ O1 (fun y O2 => f x y O2 fun z O3 => ∃ k, z = .d (.bl k) ∧ iteP k (γ ρ O3 (fun w O4 => g y w O4 R) RX) (R (.d (.bl false)) O3)) RX) RX
theorem canC {r r' : R2} {f g : F2} (hd : Op2 T r f) (hd' : Op2 T r' g) {G σ H ρ O R RX Q} (S : Sep T G H O) (E : Ev G σ ρ) (d : dChain f g α β γ ρ O R RX) (p : Post T G R Q) (x : XPost T G RX (wx W σ)) :
    tChain r r' (canE T W α) (canE T W β) (canE T W γ) σ H Q := by
  refine ⟨G, ρ, O, _, RX, S, E, d, fun b O1 v G1 H1 d1 s1 S1 r1 => ⟨G1, ρ, O1, _, RX, S1, E.mono s1, d1, fun c O2 u G2 H2 d2 s2 S2 r2 => ?_, x.mono s1⟩, x⟩
  refine hd G2 H2 O2 v u b c _ _ S2 (r1.mono s2) r2 d2 fun z O3 w G3 H3 d3 s3 S3 r3 => ?_
  obtain ⟨k, e, d3⟩ := d3
  subst e
  have e2 : w = .bl k := by simpa only [RB, Rp] using r3
  refine ⟨k, e2, ?_⟩
  cases k with
  | true =>
    rw [if_pos rfl]
    exact ⟨G3, ρ, O3, _, RX, S3, E.mono ((s1.trans s2).trans s3), d3.1 rfl, fun b4 O4 v4 G4 H4 d4 s4 S4 r4 => hd' G4 H4 O4 u v4 c b4 R Q S4 (r2.mono (s3.trans s4)) r4 d4 (p.mono (((s1.trans s2).trans s3).trans s4)), x.mono ((s1.trans s2).trans s3)⟩
  | false =>
    rw [if_neg Bool.false_ne_true]
    exact p _ O3 _ G3 H3 (d3.2 rfl) ((s1.trans s2).trans s3) S3 (by simp only [RB, Rp])
theorem de_chain {op op' : CmpOp} {r r' : R2} {f g : F2} (ho : OpR X (compareOp op) r) (hd : Op2 T r f) (ho' : OpR X (compareOp op') r') (hd' : Op2 T r' g) (ha : DE X T W a α) (hb : DE X T W b β) (hc : DE X T W c γ)
    (hm : lastMarks [op, op'] [b, c] = false := by with_unfolding_all rfl) : DE X T W (.Compare a [op, op'] [b, c] pos) (dChain f g α β γ) :=
  de_of (pe_chain ho ho' ha hb hc hm) fun _ _ _ _ _ _ _ _ S E d p x => canC hd hd' S E d p x
theorem dt_chain {op op' : CmpOp} {r r' : R2} {f g : F2} (ho : OpR X (compareOp op) r) (hd : Op2 T r f) (ho' : OpR X (compareOp op') r') (hd' : Op2 T r' g) (ha : DE X T W a α) (hb : DE X T W b β) (hc : DE X T W c γ)
    (hm : lastMarks [op, op'] [b, c] = false := by with_unfolding_all rfl) : DT X T W (.Compare a [op, op'] [b, c] pos) (dB (dChain f g α β γ)) :=
  dt_of (pt_chain ho ho' ha hb hc hm) fun G σ H ρ O R RX Q S E d p x => canC (R := fun x O1 => ∃ k, x = .d (.bl k) ∧ R k O1) hd hd' S E d (fun b O1 v G1 H1 ⟨k, e, r⟩ s1 S1 r1 => by
    subst e
    have e2 : v = .bl k := by simpa only [RB, Rp] using r1
    exact ⟨k, e2, p k O1 G1 H1 r s1 S1⟩) x

/-! ### and, or, not, if else -/
variable {τ υ : DTT} {rest : List Expr}
abbrev dAnd (τ υ : DTT) : DTT := fun ρ O R RX => τ ρ O (fun k O1 => iteP k (υ ρ O1 R RX) (R false O1)) RX
abbrev dOr (τ υ : DTT) : DTT := fun ρ O R RX => τ ρ O (fun k O1 => iteP k (R true O1) (υ ρ O1 R RX)) RX
abbrev dNot (τ : DTT) : DTT := fun ρ O R RX => τ ρ O (fun k O1 => R (!k) O1) RX
theorem dw_of {t : TT} {δ : DTT} (h : PW X e t) (i : ∀ G σ H ρ O R RX Q, Sep T G H O → Ev G σ ρ → δ ρ O R RX → PostT T G R Q → XPost T G RX (wx W σ) → t σ H Q) : DW X T W e δ :=
  pw_imp h fun σ H Q ⟨G, ρ, O, R, RX, S, E, d, p, x⟩ => i G σ H ρ O R RX Q S E d p x
theorem dw_and1 (ha : DT X T W a τ) : DW X T W (.BoolOp .And [a] pos) τ := pw_and1 ha
theorem dw_or1 (ha : DT X T W a τ) : DW X T W (.BoolOp .Or [a] pos) τ := pw_or1 ha
theorem DW.dt (h : DW X T W e τ) : DT X T W e τ := PW.pt h
theorem ifP {k : Bool} {A B : Prop} (h1 : k = true → A) (h2 : k = false → B) : if k = true then A else B := iteP_if ⟨h1, h2⟩
theorem dw_and (ha : DT X T W a τ) (hb : DW X T W (.BoolOp .And (b :: rest) pos) υ) : DW X T W (.BoolOp .And (a :: b :: rest) pos) (dAnd τ υ) :=
  dw_of (pw_and ha hb) fun G σ H ρ O R RX Q S E d p x => ⟨G, ρ, O, _, RX, S, E, d, (fun k O1 G1 H1 d1 s1 S1 => ifP (fun h => ⟨G1, ρ, O1, R, RX, S1, E.mono s1, d1.1 h, p.mono s1, x.mono s1⟩) fun h => p _ _ _ _ (d1.2 h) s1 S1), x⟩
theorem dw_or (ha : DT X T W a τ) (hb : DW X T W (.BoolOp .Or (b :: rest) pos) υ) : DW X T W (.BoolOp .Or (a :: b :: rest) pos) (dOr τ υ) :=
  dw_of (pw_or ha hb) fun G σ H ρ O R RX Q S E d p x => ⟨G, ρ, O, _, RX, S, E, d, (fun k O1 G1 H1 d1 s1 S1 => ifP (fun h => p _ _ _ _ (d1.1 h) s1 S1) fun h => ⟨G1, ρ, O1, R, RX, S1, E.mono s1, d1.2 h, p.mono s1, x.mono s1⟩), x⟩
theorem dt_not (ha : DT X T W a τ) : DT X T W (.UnaryOp .Not a pos) (dNot τ) :=
  dt_of (pt_not ha) fun G σ H ρ O R RX Q S E d p x => ⟨G, ρ, O, _, RX, S, E, d, (fun k O1 G1 H1 d1 s1 S1 => p _ _ _ _ d1 s1 S1), x⟩
/-- .. as values -/
abbrev dAndV (α β : DTE) : DTE := fun ρ O R RX => α ρ O (fun x O1 => ∃ k, x = .d (.bl k) ∧ iteP k (β ρ O1 R RX) (R (.d (.bl false)) O1)) RX
abbrev dOrV (α β : DTE) : DTE := fun ρ O R RX => α ρ O (fun x O1 => ∃ k, x = .d (.bl k) ∧ iteP k (R (.d (.bl true)) O1) (β ρ O1 R RX)) RX
abbrev dNotV (α : DTE) : DTE := fun ρ O R RX => α ρ O (fun x O1 => ∃ k, x = .d (.bl k) ∧ R (.d (.bl (!k))) O1) RX
theorem de_one {op : BoolOp} (h : DE X T W a α) : DE X T W (.BoolOp op [a] pos) α := pe_one h
theorem de_and (ha : DE X T W a α) (hb : DE X T W (.BoolOp .And (b :: rest) pos) β) : DE X T W (.BoolOp .And (a :: b :: rest) pos) (dAndV α β) :=
  de_of (pe_and ha hb) fun G σ H ρ O R RX Q S E d p x => ⟨G, ρ, O, _, RX, S, E, d, (fun v O1 u G1 H1 ⟨k, e, d1⟩ s1 S1 r1 => by
    subst e
    have e2 : u = .bl k := by simpa only [RB, Rp] using r1
    refine ⟨k, e2, ifP (fun h => ⟨G1, ρ, O1, R, RX, S1, E.mono s1, d1.1 h, p.mono s1, x.mono s1⟩) fun h => p _ _ _ _ _ (d1.2 h) s1 S1 (by simp only [RB, Rp])⟩), x⟩
theorem de_or (ha : DE X T W a α) (hb : DE X T W (.BoolOp .Or (b :: rest) pos) β) : DE X T W (.BoolOp .Or (a :: b :: rest) pos) (dOrV α β) :=
  de_of (pe_or ha hb) fun G σ H ρ O R RX Q S E d p x => ⟨G, ρ, O, _, RX, S, E, d, (fun v O1 u G1 H1 ⟨k, e, d1⟩ s1 S1 r1 => by
    subst e
    have e2 : u = .bl k := by simpa only [RB, Rp] using r1
    refine ⟨k, e2, ifP (fun h => p _ _ _ _ _ (d1.1 h) s1 S1 (by simp only [RB, Rp])) fun h => ⟨G1, ρ, O1, R, RX, S1, E.mono s1, d1.2 h, p.mono s1, x.mono s1⟩⟩), x⟩
theorem de_not (ha : DE X T W a α) : DE X T W (.UnaryOp .Not a pos) (dNotV α) :=
  de_of (pe_not ha) fun G σ H ρ O R RX Q S E d p x => ⟨G, ρ, O, _, RX, S, E, d, (fun v O1 u G1 H1 ⟨k, e, d1⟩ s1 S1 r1 => by
    subst e
    have e2 : u = .bl k := by simpa only [RB, Rp] using r1
    exact ⟨k, e2, p _ _ _ _ _ d1 s1 S1 (by simp only [RB, Rp])⟩), x⟩
abbrev dIf (τ : DTT) (α β : DTE) : DTE := fun ρ O R RX => τ ρ O (fun k O1 => iteP k (α ρ O1 R RX) (β ρ O1 R RX)) RX
theorem de_if (hc : DT X T W c τ) (ha : DE X T W a α) (hb : DE X T W b β) : DE X T W (.IfExp c a b pos) (dIf τ α β) :=
  de_of (pe_ifExp hc ha hb) fun G σ H ρ O R RX Q S E d p x => ⟨G, ρ, O, _, RX, S, E, d, (fun k O1 G1 H1 d1 s1 S1 =>
    ifP (fun h => ⟨G1, ρ, O1, R, RX, S1, E.mono s1, d1.1 h, p.mono s1, x.mono s1⟩) fun h => ⟨G1, ρ, O1, R, RX, S1, E.mono s1, d1.2 h, p.mono s1, x.mono s1⟩), x⟩

/-! ### arguments, displays -/
variable {es : List Expr} {η : DTA}
abbrev dNil : DTA := fun _ O R _ => R [] O
abbrev dCons (α : DTE) (η : DTA) : DTA := fun ρ O R RX => α ρ O (fun x O1 => η ρ O1 (fun xs O2 => R (x :: xs) O2) RX) RX
theorem da_nil : DA X T W [] dNil := pa_imp pa_nil fun σ H Q ⟨G, ρ, O, R, RX, S, E, d, p, x⟩ => p _ _ _ _ _ d (Same.refl _) S trivial
theorem da_cons (ha : DE X T W a α) (hr : DA X T W es η) (hs : starEach (a :: es) X.env = (false, eval a X.env) :: starEach es X.env := by rfl) : DA X T W (a :: es) (dCons α η) :=
  pa_imp (pa_cons ha hr hs) fun σ H Q ⟨G, ρ, O, R, RX, S, E, d, p, x⟩ => ⟨G, ρ, O, _, RX, S, E, d, (fun b O1 v G1 H1 d1 s1 S1 r1 => ⟨G1, ρ, O1, _, RX, S1, E.mono s1, d1, (fun bs O2 vs G2 H2 d2 s2 S2 r2 =>
    p _ _ _ _ _ d2 (s1.trans s2) S2 ⟨r1.mono s2, r2⟩), x.mono s1⟩), x⟩
/-- *e among the arguments -/
def fStar : B → Ow → (List B → Prop) → Prop
  | .d (.tup xs), _, k => k (xs.map B.d)
  | .d (.lst xs), _, k => k (xs.map B.d)
  | .v (.ref a), O, k => ∃ xs, (a, .lst xs) ∈ O ∧ k (xs.map B.d)
  | _, _, _ => False
abbrev dStar (α : DTE) (η : DTA) : DTA := fun ρ O R RX => α ρ O (fun x O1 => fStar x O1 fun ys => η ρ O1 (fun xs O2 => R (ys ++ xs) O2) RX) RX
theorem RBs.app {G : Hp} : ∀ {vs : List V} {bs : List B} {us : List V} {cs : List B}, RBs G vs bs → RBs G us cs → RBs G (vs ++ us) (bs ++ cs)
  | [], [], _, _, _, h => h
  | _ :: _, _ :: _, _, _, h, h' => ⟨h.1, RBs.app h.2 h'⟩
  | [], _ :: _, _, _, h, _ => h.elim
  | _ :: _, [], _, _, h, _ => h.elim

/-- things that are owned become data where data is wanted -/
def frzK : List B → Ow → (List D → Ow → Prop) → Prop
  | [], O, k => k [] O
  | .d x :: bs, O, k => frzK bs O fun ds O' => k (x :: ds) O'
  | .v (.ref a) :: bs, O, k => (∃ xs, (a, .lst xs) ∈ O ∧ frzK bs (odel O a) fun ds O' => k (.lst xs :: ds) O') ∨ (∃ C ns xs, (a, .ins C ns (xs.map B.d)) ∈ O ∧ frzK bs (odel O a) fun ds O' => k (.ins C ns xs :: ds) O')
  | _ :: _, _, _ => False
theorem frzK_ok : ∀ {bs : List B} {vs : List V} {G H : Hp} {O : Ow} {k : List D → Ow → Prop}, Sep T G H O → RBs G vs bs → frzK bs O k → ∃ ds O' G', k ds O' ∧ Same G G' ∧ Sep T G' H O' ∧ Rps G' vs ds
  | [], [], G, H, O, k, S, _, h => ⟨[], O, G, h, Same.refl _, S, Rps.nil⟩
  | .d x :: bs, v :: vs, G, H, O, k, S, r, h => by
    obtain ⟨ds, O', G', h1, h2, h3, h4⟩ := frzK_ok (bs := bs) S r.2 h
    exact ⟨x :: ds, O', G', h1, h2, h3, Rps.cons (Rp.mono h2 r.1) h4⟩
  | .v u :: bs, v :: vs, G, H, O, k, S, r, h => by
    have e : v = u := r.1
    subst e
    cases v with
    | ref a =>
      rcases h with ⟨xs, m, h⟩ | ⟨C, ns, xs, m, h⟩
      · obtain ⟨G1, s1, S1, r1⟩ := S.freezeL m
        obtain ⟨ds, O', G', h1, h2, h3, h4⟩ := frzK_ok (bs := bs) S1 (RBs.mono s1 r.2) h
        exact ⟨_, O', G', h1, s1.trans h2, h3, Rps.cons (Rp.mono h2 r1) h4⟩
      · obtain ⟨G1, s1, S1, r1⟩ := S.freezeI m
        obtain ⟨ds, O', G', h1, h2, h3, h4⟩ := frzK_ok (bs := bs) S1 (RBs.mono s1 r.2) h
        exact ⟨_, O', G', h1, s1.trans h2, h3, Rps.cons (Rp.mono h2 r1) h4⟩
    | _ => exact h.elim
  | [], _ :: _, _, _, _, _, _, r, _ => r.elim
  | _ :: _, [], _, _, _, _, _, r, _ => r.elim
abbrev dTup (η : DTA) : DTE := fun ρ O R RX => η ρ O (fun bs O1 => frzK bs O1 fun ds O2 => ds.length ≤ sizeLine ∧ R (.d (.tup ds)) O2) RX
abbrev dLst (η : DTA) : DTE := fun ρ O R RX => η ρ O (fun bs O1 => frzK bs O1 fun ds O2 => ds.length ≤ sizeLine ∧ R (.d (.lst ds)) O2) RX
/-- a new list that is owned -/
abbrev dLstO (η : DTA) : DTE := fun ρ O R RX => η ρ O (fun bs O1 => frzK bs O1 fun ds O2 => ds.length ≤ sizeLine ∧ ∀ p, (∀ q ∈ O2, q.1 ≠ p) → R (.v (.ref p)) ((p, .lst ds) :: O2)) RX
theorem new_tup {G H : Hp} {O : Ow} {vs : List V} {ds : List D} (S : Sep T G H O) (r : Rps G vs ds) (z : ds.length ≤ sizeLine) {p : Addr} (hp : H p = none) :
    Sep T (upd G p (.tup vs)) (upd H p (.tup vs)) O ∧ Same G (upd G p (.tup vs)) ∧ RB (upd G p (.tup vs)) (.ref p) (.d (.tup ds)) := by
  have s := Same.upd (H := G) (o := .tup vs) (S.gfresh hp)
  refine ⟨S.frz hp nt_tup, s, ?_⟩
  simp only [RB, Rp]
  exact ⟨p, vs, rfl, upd_same, by rw [r.len]; exact z, r.mono s⟩
theorem new_lst {G H : Hp} {O : Ow} {vs : List V} {ds : List D} (S : Sep T G H O) (r : Rps G vs ds) (z : ds.length ≤ sizeLine) {p : Addr} (hp : H p = none) :
    Sep T (upd G p (.lst vs)) (upd H p (.lst vs)) O ∧ Same G (upd G p (.lst vs)) ∧ RB (upd G p (.lst vs)) (.ref p) (.d (.lst ds)) := by
  have s := Same.upd (H := G) (o := .lst vs) (S.gfresh hp)
  refine ⟨S.frz hp nt_lst, s, ?_⟩
  simp only [RB, Rp]
  exact ⟨p, vs, rfl, upd_same, by rw [r.len]; exact z, r.mono s⟩
theorem de_tup {x1 : Nat} (h : DA X T W es η) : DE X T W (.Tuple es x1 pos) (dTup η) :=
  de_of (pe_tup h) fun G σ H ρ O R RX Q S E d p x => ⟨G, ρ, O, _, RX, S, E, d, (fun bs O1 vs G1 H1 d1 s1 S1 r1 => by
    obtain ⟨ds, O2, G2, ⟨z, h2⟩, s2, S2, r2⟩ := frzK_ok S1 r1 d1
    refine ⟨by rw [r2.len]; exact z, fun q hq => ?_⟩
    obtain ⟨S3, s3, r3⟩ := new_tup S2 r2 z hq
    exact p _ _ _ _ _ h2 ((s1.trans s2).trans s3) S3 r3), x⟩
theorem de_lst (h : DA X T W es η) : DE X T W (.List es pos) (dLst η) :=
  de_of (pe_lst h) fun G σ H ρ O R RX Q S E d p x => ⟨G, ρ, O, _, RX, S, E, d, (fun bs O1 vs G1 H1 d1 s1 S1 r1 => by
    obtain ⟨ds, O2, G2, ⟨z, h2⟩, s2, S2, r2⟩ := frzK_ok S1 r1 d1
    refine ⟨by rw [r2.len]; exact z, fun q hq => ?_⟩
    obtain ⟨S3, s3, r3⟩ := new_lst S2 r2 z hq
    exact p _ _ _ _ _ h2 ((s1.trans s2).trans s3) S3 r3), x⟩
theorem de_lstO (h : DA X T W es η) : DE X T W (.List es pos) (dLstO η) :=
  de_of (pe_lst h) fun G σ H ρ O R RX Q S E d p x => ⟨G, ρ, O, _, RX, S, E, d, (fun bs O1 vs G1 H1 d1 s1 S1 r1 => by
    obtain ⟨ds, O2, G2, ⟨z, h2⟩, s2, S2, r2⟩ := frzK_ok S1 r1 d1
    refine ⟨by rw [r2.len]; exact z, fun q hq => ?_⟩
    exact p _ _ _ G2 _ (h2 q (S2.fresh hq)) (s1.trans s2) (S2.ownL hq r2 (by rw [r2.len]; exact z)) rfl), x⟩
end
end DL
end
section
set_option maxRecDepth 100000
set_option maxHeartbeats 2000000
/-! part d: statements, targets, what is walked, loops, comprehensions -/
namespace DL
open PySem PySem.Spec PyProof.Rows L2

/-- what is wanted behind a statement -/
structure DEnds where
  nx : Ro → Ow → Prop
  rt : DK
  bk : Ro → Ow → Prop
  ct : Ro → Ow → Prop
  xr : Exn → Ro → Ow → Prop
abbrev DTS := DEnds → Ro → Ow → Prop
def PostN (T : Tb) (G : Hp) (R : Ro → Ow → Prop) (Q : L2.St → Hp → Prop) : Prop := ∀ ρ O σ G' H, R ρ O → Same G G' → Sep T G' H O → Ev G' σ ρ → Q σ H
def PostX (T : Tb) (G : Hp) (R : Exn → Ro → Ow → Prop) (W : WX) : Prop := ∀ x ρ O cls d σ G' H, R x ρ O → Same G G' → Sep T G' H O → XRep G' cls d x → Ev G' σ ρ → W cls d σ H
theorem PostN.mono {T : Tb} {G G1 : Hp} {R : Ro → Ow → Prop} {Q : L2.St → Hp → Prop} (s : Same G G1) (h : PostN T G R Q) : PostN T G1 R Q := fun ρ O σ G' H r s' => h ρ O σ G' H r (s.trans s')
theorem PostX.mono {T : Tb} {G G1 : Hp} {R : Exn → Ro → Ow → Prop} {W : WX} (s : Same G G1) (h : PostX T G R W) : PostX T G1 R W := fun x ρ O c d σ G' H r s' => h x ρ O c d σ G' H r (s.trans s')
structure EPost (T : Tb) (G : Hp) (Δ : DEnds) (D : Ends) (W : WX) : Prop where
  nx : PostN T G Δ.nx D.nx
  rt : Post T G Δ.rt D.rt
  bk : PostN T G Δ.bk D.bk
  ct : PostN T G Δ.ct D.ct
  xr : PostX T G Δ.xr W
theorem EPost.mono {T : Tb} {G G1 : Hp} {Δ : DEnds} {D : Ends} {W : WX} (s : Same G G1) (h : EPost T G Δ D W) : EPost T G1 Δ D W := ⟨h.nx.mono s, h.rt.mono s, h.bk.mono s, h.ct.mono s, h.xr.mono s⟩
def canS (T : Tb) (W : WX) (δ : DTS) : TS := fun D σ H => ∃ G ρ O Δ, Sep T G H O ∧ Ev G σ ρ ∧ δ Δ ρ O ∧ EPost T G Δ D W
def DS (X : Cx) (T : Tb) (W : WX) (st : Stmt) (δ : DTS) : Prop := PS X st (canS T W δ)
def DSs (X : Cx) (T : Tb) (W : WX) (st : List Stmt) (δ : DTS) : Prop := PSs X st (canS T W δ)
theorem ps_imp {X : Cx} {e : Stmt} {t t' : TS} (h : PS X e t) (i : ∀ D σ H, t' D σ H → t D σ H) : PS X e t' := ⟨fun p s σ H D I q => h.run p s σ H D I (i D σ H q)⟩
theorem pss_imp {X : Cx} {e : List Stmt} {t t' : TS} (h : PSs X e t) (i : ∀ D σ H, t' D σ H → t D σ H) : PSs X e t' := ⟨fun p s σ H D I q => h.run p s σ H D I (i D σ H q)⟩
theorem ds_of {X : Cx} {T : Tb} {W : WX} {e : Stmt} {t : TS} {δ : DTS} (h : PS X e t) (i : ∀ G σ H ρ O Δ D, Sep T G H O → Ev G σ ρ → δ Δ ρ O → EPost T G Δ D W → t D σ H) : DS X T W e δ :=
  ps_imp h fun D σ H ⟨G, ρ, O, Δ, S, E, d, p⟩ => i G σ H ρ O Δ D S E d p
theorem dss_of {X : Cx} {T : Tb} {W : WX} {e : List Stmt} {t : TS} {δ : DTS} (h : PSs X e t) (i : ∀ G σ H ρ O Δ D, Sep T G H O → Ev G σ ρ → δ Δ ρ O → EPost T G Δ D W → t D σ H) : DSs X T W e δ :=
  pss_imp h fun D σ H ⟨G, ρ, O, Δ, S, E, d, p⟩ => i G σ H ρ O Δ D S E d p
/-- exceptions of an expression within a statement -/
abbrev xat (Δ : DEnds) (ρ : Ro) : DX := fun x O => Δ.xr x ρ O
theorem EPost.xat {T : Tb} {G : Hp} {Δ : DEnds} {D : Ends} {W : WX} {σ : L2.St} {ρ : Ro} (p : EPost T G Δ D W) (E : Ev G σ ρ) : XPost T G (xat Δ ρ) (wx W σ) :=
  fun x O c d G' H r s S xr => p.xr x ρ O c d σ G' H r s S xr (E.mono s)

section
variable {X : Cx} {T : Tb} {W : WX} {st : Stmt} {sts : List Stmt} {δ ε : DTS} {e : Expr} {α : DTE} {τ : DTT} {pos : Pos}
abbrev dNext : DTS := fun Δ ρ O => Δ.nx ρ O
abbrev dSeq (δ ε : DTS) : DTS := fun Δ ρ O => δ { Δ with nx := ε Δ } ρ O
theorem dss_nil : DSs X T W [] dNext := dss_of pss_nil fun G σ H ρ O Δ D S E d p => p.nx _ _ _ _ _ d (Same.refl _) S E
theorem dss_cons (h1 : DS X T W st δ) (h2 : DSs X T W sts ε) : DSs X T W (st :: sts) (dSeq δ ε) :=
  dss_of (pss_cons h1 h2) fun G σ H ρ O Δ D S E d p => ⟨G, ρ, O, _, S, E, d, ⟨fun ρ1 O1 σ1 G1 H1 d1 s1 S1 E1 => ⟨G1, ρ1, O1, Δ, S1, E1, d1, p.mono s1⟩, p.rt, p.bk, p.ct, p.xr⟩⟩
theorem dss_one (h1 : DS X T W st δ) : DSs X T W [st] δ := pss_one h1
abbrev dBreak : DTS := fun Δ ρ O => Δ.bk ρ O
abbrev dCont : DTS := fun Δ ρ O => Δ.ct ρ O
theorem ds_pass : DS X T W (.Pass pos) dNext := ds_of ps_pass fun G σ H ρ O Δ D S E d p => p.nx _ _ _ _ _ d (Same.refl _) S E
theorem ds_break : DS X T W (.Break pos) dBreak := ds_of ps_break fun G σ H ρ O Δ D S E d p => p.bk _ _ _ _ _ d (Same.refl _) S E
theorem ds_continue : DS X T W (.Continue pos) dCont := ds_of ps_continue fun G σ H ρ O Δ D S E d p => p.ct _ _ _ _ _ d (Same.refl _) S E
abbrev dNever : DTS := fun _ _ _ => False
theorem ds_never : DS X T W st dNever := ds_of ps_never fun G σ H ρ O Δ D S E d p => d
theorem dss_never : DSs X T W sts dNever := dss_of pss_never fun G σ H ρ O Δ D S E d p => d
abbrev dDrop (α : DTE) : DTS := fun Δ ρ O => α ρ O (fun _ O1 => Δ.nx ρ O1) (xat Δ ρ)
theorem ds_expr (he : DE X T W e α) (hs : swapsWith e none pos.line X.env = pure false := by rfl) : DS X T W (.Expr e pos) (dDrop α) :=
  ds_of (ps_expr he hs) fun G σ H ρ O Δ D S E d p => ⟨G, ρ, O, _, _, S, E, d, fun b O1 v G1 H1 d1 s1 S1 _ => p.nx _ _ _ _ _ d1 s1 S1 (E.mono s1), p.xat E⟩
/-- the bound of the turns may be told greater -/
theorem Sep.wkD {G H : Hp} {O : Ow} {p c : Addr} {ks : DrK} {cs : List Int} {n m : Nat} (S : Sep T G H O) (mm : (p, .draws ks c cs n) ∈ O) (h : n ≤ m) : Sep T G H (oset O p (.draws ks c cs m)) := by
  obtain ⟨sub, nt, ⟨f, h1, h2⟩, nd, tab⟩ := S
  refine ⟨sub, nt, ⟨f, fun q hq => ?_, fun q hq r hr hne => ?_⟩, by rw [oset_keys]; exact nd, tab⟩
  · rcases mem_oset hq with ⟨e, _⟩ | ⟨_, hq⟩
    · subst e
      obtain ⟨⟨g, gs, r, t, kvs, a1, a2, a3, a4, ⟨b1, b2, b3, b4, b5, b6, b7⟩, a6, a7, a8⟩, y, z⟩ := h1 _ mm
      exact ⟨⟨g, gs, r, t, kvs, a1, a2, a3, a4, ⟨b1, b2, b3, b4, b5, b6, Int.le_trans b7 (Int.ofNat_le.mpr h)⟩, a6, a7, a8⟩, y, z⟩
    · exact h1 q hq
  · have key : ∀ q ∈ oset O p (.draws ks c cs m), ∃ q' ∈ O, q'.1 = q.1 := fun q hq => by
      rcases mem_oset hq with ⟨e, o', ho⟩ | ⟨_, hq⟩
      · exact ⟨_, ho, by rw [e]⟩
      · exact ⟨q, hq, rfl⟩
    obtain ⟨q', hq', eq⟩ := key q hq
    obtain ⟨r', hr', er⟩ := key r hr
    rw [← eq, ← er]
    exact h2 q' hq' r' hr' (by rw [eq, er]; exact hne)
/-- what a def may hand back: as it is, or frozen; what it owned besides is let go -/
inductive Fin : B → Ow → B → Ow → Prop where
  | same {b : B} {O O' : Ow} : O'.Sublist O → Fin b O b O'
  | frz {a : Addr} {xs : List D} {O O' : Ow} : (a, .lst xs) ∈ O → O'.Sublist (odel O a) → Fin (.v (.ref a)) O (.d (.lst xs)) O'
  | frzI {a C : Addr} {ns : List Str} {xs : List D} {O O' : Ow} : (a, .ins C ns (xs.map B.d)) ∈ O → O'.Sublist (odel O a) → Fin (.v (.ref a)) O (.d (.ins C ns xs)) O'
  | wk {b b' : B} {O O' : Ow} {p c : Addr} {ks : DrK} {cs : List Int} {n m : Nat} : (p, .draws ks c cs n) ∈ O → n ≤ m → Fin b (oset O p (.draws ks c cs m)) b' O' → Fin b O b' O'
theorem Sep.sublist {G H : Hp} {O O' : Ow} (S : Sep T G H O) (h : O'.Sublist O) : Sep T G H O' := S.drop (fun _ hp => h.subset hp) ((h.map _).nodup S.nd)
theorem Fin.ok {b b' : B} {O O' : Ow} (f : Fin b O b' O') {G H : Hp} {v : V} (S : Sep T G H O) (r : RB G v b) : ∃ G', Same G G' ∧ Sep T G' H O' ∧ RB G' v b' := by
  induction f with
  | same h => exact ⟨G, Same.refl _, S.sublist h, r⟩
  | frz m h =>
    obtain ⟨G1, s1, S1, r1⟩ := S.freezeL m
    have e : v = _ := r
    subst e
    exact ⟨G1, s1, S1.sublist h, r1⟩
  | frzI m h =>
    obtain ⟨G1, s1, S1, r1⟩ := S.freezeI m
    have e : v = _ := r
    subst e
    exact ⟨G1, s1, S1.sublist h, r1⟩
  | wk m h _ ih => exact ih (S.wkD m h) r
abbrev dRet (α : DTE) : DTS := fun Δ ρ O => α ρ O (fun b O1 => ∃ b' O', Fin b O1 b' O' ∧ Δ.rt b' O') (xat Δ ρ)
theorem ds_ret (he : DE X T W e α) : DS X T W (.Return (some e) pos) (dRet α) :=
  ds_of (ps_ret he) fun G σ H ρ O Δ D S E d p => ⟨G, ρ, O, _, _, S, E, d, (fun b O1 v G1 H1 ⟨b', O', f, d1⟩ s1 S1 r1 => by
    obtain ⟨G2, s2, S2, r2⟩ := f.ok S1 r1
    exact p.rt _ _ _ _ _ d1 (s1.trans s2) S2 r2), p.xat E⟩
abbrev dRetN : DTS := fun Δ _ O => ∃ O', O'.Sublist O ∧ Δ.rt (.d .non) O'
theorem ds_retN : DS X T W (.Return none pos) dRetN := ds_of ps_retN fun G σ H ρ O Δ D S E ⟨O', h, d⟩ p => p.rt _ _ _ _ _ d (Same.refl _) (S.sublist h) (by simp only [RB, Rp])
abbrev dIfS (τ : DTT) (δ ε : DTS) : DTS := fun Δ ρ O => τ ρ O (fun k O1 => iteP k (δ Δ ρ O1) (ε Δ ρ O1)) (xat Δ ρ)
theorem ds_if {c : Expr} {a b : List Stmt} (hc : DT X T W c τ) (ha : DSs X T W a δ) (hb : DSs X T W b ε) : DS X T W (.If c a b pos) (dIfS τ δ ε) :=
  ds_of (ps_if hc ha hb) fun G σ H ρ O Δ D S E d p => ⟨G, ρ, O, _, _, S, E, d, (fun k O1 G1 H1 d1 s1 S1 =>
    ifP (fun h => ⟨G1, ρ, O1, Δ, S1, E.mono s1, d1.1 h, p.mono s1⟩) fun h => ⟨G1, ρ, O1, Δ, S1, E.mono s1, d1.2 h, p.mono s1⟩), p.xat E⟩

/-! ### targets -/
abbrev DTG := B → Ro → Ow → (Ro → Ow → Prop) → Prop
abbrev DTGs := List B → Ro → Ow → (Ro → Ow → Prop) → Prop
def canG (T : Tb) (γ : DTG) : TG := fun v σ H Q => ∃ G ρ O b R, Sep T G H O ∧ Ev G σ ρ ∧ RB G v b ∧ γ b ρ O R ∧ PostN T G R Q
def canGs (T : Tb) (γ : DTGs) : TGs := fun v σ H Q => ∃ G ρ O b R, Sep T G H O ∧ Ev G σ ρ ∧ RBs G v b ∧ γ b ρ O R ∧ PostN T G R Q
/-- a target; vs: the only slots that it stores -/
structure DG (X : Cx) (T : Tb) (vs : List Nat) (tg : Expr) (γ : DTG) : Prop where
  pg : PG X tg (fun v σ H Q => canG T γ v σ H fun σ' H' => wipe σ' vs = wipe σ vs → Q σ' H')
structure DGs (X : Cx) (T : Tb) (vs : List Nat) (tg : List Expr) (γ : DTGs) : Prop where
  pg : PGs X tg (fun v σ H Q => canGs T γ v σ H fun σ' H' => wipe σ' vs = wipe σ vs → Q σ' H')
theorem DG.plain {vs : List Nat} {tg : Expr} {γ : DTG} (h : DG X T vs tg γ) : PG X tg (canG T γ) :=
  ⟨fun pins s σ H v u Q I r ⟨G, ρ, O, b, R, S, E, rb, d, p⟩ => h.pg.run pins s σ H v u Q I r ⟨G, ρ, O, b, R, S, E, rb, d, fun ρ' O' σ' G' H' r' s' S' E' _ => p ρ' O' σ' G' H' r' s' S' E'⟩⟩
abbrev dName (i : Nat) : DTG := fun b ρ O R => R (ρ.set i (some b)) O
theorem Ev.set {G : Hp} {σ : L2.St} {ρ : Ro} (E : Ev G σ ρ) {i : Nat} {v : V} {b : B} (r : RB G v b) (hi : i < σ.length) : Ev G (σ.set i (some v)) (ρ.set i (some b)) := fun j c h => by
  by_cases e : i = j
  · subst e
    rw [List.getElem?_set] at h
    rw [if_pos rfl] at h
    split at h
    · cases h
      exact ⟨v, by rw [List.getElem?_set_self hi], r⟩
    · cases h
  · rw [List.getElem?_set_ne e] at h
    obtain ⟨u, h1, h2⟩ := E j c h
    exact ⟨u, by rw [List.getElem?_set_ne e]; exact h1, h2⟩
theorem wipe_set {i : Nat} {x : Option V} : ∀ {vs : List Nat} {σ : L2.St}, i ∈ vs → wipe (σ.set i x) vs = wipe σ vs
  | [], _, h => by simp at h
  | j :: vs, σ, h => by
    show (wipe (σ.set i x) vs).set j none = (wipe σ vs).set j none
    by_cases e : i ∈ vs
    · rw [wipe_set e]
    · have hj : i = j := by
        rcases List.mem_cons.mp h with z | z
        · exact z
        · exact absurd z e
      subst hj
      have comm : ∀ {ws : List Nat} {τ : L2.St}, i ∉ ws → wipe (τ.set i x) ws = (wipe τ ws).set i x := by
        intro ws
        induction ws with
        | nil => intro τ _; rfl
        | cons k ws ih =>
          intro τ hn
          have h1 : i ≠ k := fun z => hn (by rw [z]; exact List.mem_cons_self ..)
          have h2 : i ∉ ws := fun z => hn (List.mem_cons_of_mem _ z)
          show (wipe (τ.set i x) ws).set k none = ((wipe τ ws).set k none).set i x
          rw [ih h2]
          exact List.set_comm _ _ h1
      rw [comm e]
      rw [List.set_set]
theorem dg_name (i : Nat) {vs : List Nat} {x : Str} (hv : i ∈ vs := by decide) (hN : X.N.Nodup := by assumption) (hi : X.N[i]? = some x := by rfl) (hx : Loc X.env.scope x := by first | exact Or.inl rfl | exact Or.inr rfl) (hf : X.fn x = true ∨ X.env.scope.names.lookup x = some .local := by first | exact Or.inl rfl | exact Or.inr rfl | assumption) : DG X T vs (.Name x pos) (dName i) :=
  ⟨⟨fun pins s σ H v u Q I r ⟨G, ρ, O, b, R, S, E, rb, d, p⟩ => by
    have hl : i < σ.length := by rw [I.len]; exact (List.getElem?_eq_some_iff.mp hi).1
    exact (pg_name hN hi hx hf).run pins s σ H v u Q I r (p _ _ _ _ _ d (Same.refl _) S (E.set rb hl) (wipe_set hv))⟩⟩
def dgNil : DTGs := fun bs ρ O R => bs = [] ∧ R ρ O
def dgCons (γ : DTG) (η : DTGs) : DTGs := fun bs ρ O R => ∃ b r, bs = b :: r ∧ γ b ρ O fun ρ1 O1 => η r ρ1 O1 R
theorem dgs_nil {vs : List Nat} : DGs X T vs [] dgNil := ⟨⟨fun pins s σ H v u Q I r ⟨G, ρ, O, b, R, S, E, rb, ⟨e, d⟩, p⟩ => pgs_nil.run pins s σ H v u Q I r (by
  subst e
  cases v with
  | nil => exact ⟨rfl, p _ _ _ _ _ d (Same.refl _) S E rfl⟩
  | cons v vs => exact rb.elim)⟩⟩
theorem dgs_cons {vs : List Nat} {es : List Expr} {γ : DTG} {η : DTGs} (h1 : DG X T vs e γ) (h2 : DGs X T vs es η)
    (hs : (assignEach (e :: es) X.env).map (·.2) = assign e X.env :: (assignEach es X.env).map (·.2) := by rfl) : DGs X T vs (e :: es) (dgCons γ η) :=
  ⟨⟨fun pins s σ H v u Q I r ⟨G, ρ, O, b, R, S, E, rb, ⟨b0, r0, e0, d⟩, p⟩ => by
    subst e0
    cases v with
    | nil => exact rb.elim
    | cons v ws =>
      exact (pgs_cons h1.pg h2.pg hs).run pins s σ H (v :: ws) u Q I r ⟨v, ws, rfl, G, ρ, O, b0, _, S, E, rb.1, d, fun ρ1 O1 σ1 G1 H1 d1 s1 S1 E1 w1 =>
        ⟨G1, ρ1, O1, r0, R, S1, E1, RBs.mono s1 rb.2, d1, fun ρ2 O2 σ2 G2 H2 d2 s2 S2 E2 w2 => p _ _ _ _ _ d2 (s1.trans s2) S2 E2 (w2.trans w1)⟩⟩⟩⟩
/-- (a, b, ..) = a tuple -/
def dgTup (n : Nat) (η : DTGs) : DTG := fun b ρ O R => ∃ xs, b = .d (.tup xs) ∧ xs.length = n ∧ η (xs.map B.d) ρ O R
theorem dg_tup {vs : List Nat} {es : List Expr} {k n : Nat} {η : DTGs} (hc : X.calm = true) (h : DGs X T vs es η)
    (hn : (assignEach es X.env).length = n := by rfl) (hst : (assignEach es X.env).findIdx? (·.1) = none := by rfl) : DG X T vs (.Tuple es k pos) (dgTup n η) :=
  ⟨⟨fun pins s σ H v u Q I r ⟨G, ρ, O, b, R, S, E, rb, ⟨xs, e0, hl, d⟩, p⟩ => by
    subst e0
    simp only [RB, Rp] at rb
    obtain ⟨a, ws, e1, e2, _, r2⟩ := rb
    exact (pg_tup hc h.pg hn hst).run pins s σ H v u Q I r ⟨a, ws, e1, SqT.of (S.sub _ _ e2), by rw [r2.len]; exact hl, G, ρ, O, _, R, S, E, RBs.ofData r2, d, p⟩⟩⟩
/-- target = value -/
abbrev dAsg (α : DTE) (γ : DTG) : DTS := fun Δ ρ O => α ρ O (fun b O1 => γ b ρ O1 Δ.nx) (xat Δ ρ)
theorem ds_asg {tg : Expr} {vs : List Nat} {γ : DTG} (he : DE X T W e α) (hg : DG X T vs tg γ) (hs : swapsWithSole [tg] e pos.line X.env = pure false := by rfl) (hw : swappedStores [tg] e X.env = pure none := by rfl)
    (h1 : (assignEach [tg] X.env).map (·.2) = [assign tg X.env] := by rfl) : DS X T W (.Assign [tg] e pos) (dAsg α γ) :=
  ds_of (ps_asg he hg.plain hs hw h1) fun G σ H ρ O Δ D S E d p => ⟨G, ρ, O, _, _, S, E, d, fun b O1 v G1 H1 d1 s1 S1 r1 => ⟨G1, ρ, O1, b, _, S1, E.mono s1, r1, d1, p.nx.mono s1⟩, p.xat E⟩
abbrev dSet (i : Nat) (α : DTE) : DTS := fun Δ ρ O => α ρ O (fun b O1 => Δ.nx (ρ.set i (some b)) O1) (xat Δ ρ)
theorem ds_set (i : Nat) {x : Str} {px : Pos} (he : DE X T W e α) (hN : X.N.Nodup := by assumption) (hi : X.N[i]? = some x := by rfl) (hx : Loc X.env.scope x := by first | exact Or.inl rfl | exact Or.inr rfl) (hf : X.fn x = true ∨ X.env.scope.names.lookup x = some .local := by first | exact Or.inl rfl | exact Or.inr rfl | assumption)
    (hs : swapsWith e (some (.Name x px)) pos.line X.env = pure false := by rfl) : DS X T W (.Assign [.Name x px] e pos) (dSet i α) := by
  refine ⟨fun pins s σ H D I ⟨G, ρ, O, Δ, S, E, d, p⟩ => ?_⟩
  have hl : i < σ.length := by rw [I.len]; exact (List.getElem?_eq_some_iff.mp hi).1
  exact (ps_set hN hi hx he hs hf).run pins s σ H D I ⟨G, ρ, O, _, _, S, E, d, fun b O1 v G1 H1 d1 s1 S1 r1 => p.nx _ _ _ _ _ d1 s1 S1 ((E.mono s1).set r1 hl), p.xat E⟩
/-- a, b = x, y with plain local names -/
abbrev dPar (i j : Nat) (η : DTA) : DTS := fun Δ ρ O => η ρ O (fun bs O1 => ∃ b c, bs = [b, c] ∧ Δ.nx ((ρ.set i (some b)).set j (some c)) O1) (xat Δ ρ)
theorem ds_par {i j : Nat} {x y : Str} {a b : Expr} {η : DTA} {px py pt pt2 : Pos} {kt k2 : Nat} (ha : DA X T W [a, b] η) (hc : X.calm = true) (hN : X.N.Nodup := by assumption) (hi : X.N[i]? = some x := by rfl) (hj : X.N[j]? = some y := by rfl) (hij : i ≠ j := by decide)
    (hx : X.env.scope.names.lookup x = some .local := by rfl) (hy : X.env.scope.names.lookup y = some .local := by rfl)
    (hw : swappedStores [.Tuple [.Name x px, .Name y py] kt pt] (.Tuple [a, b] k2 pt2) X.env = pure (some [x, y]) := by rfl)
    (hs : swapsWithSole [.Tuple [.Name x px, .Name y py] kt pt] (.Tuple [a, b] k2 pt2) pos.line X.env = pure false := by rfl) :
    DS X T W (.Assign [.Tuple [.Name x px, .Name y py] kt pt] (.Tuple [a, b] k2 pt2) pos) (dPar i j η) := by
  refine ⟨fun pins s σ H D I ⟨G, ρ, O, Δ, S, E, d, p⟩ => ?_⟩
  have hl : i < σ.length := by rw [I.len]; exact (List.getElem?_eq_some_iff.mp hi).1
  have hl' : j < σ.length := by rw [I.len]; exact (List.getElem?_eq_some_iff.mp hj).1
  refine (ps_par hc hN hi hj hij hx hy ha hw hs).run pins s σ H D I ⟨G, ρ, O, _, _, S, E, d, fun bs O1 vs G1 H1 ⟨b, c, e, d1⟩ s1 S1 r1 => ?_, p.xat E⟩
  subst e
  match vs, r1 with
  | [v, w], r1 =>
    exact ⟨v, w, rfl, p.nx _ _ _ _ _ d1 s1 S1 (((E.mono s1).set r1.1 hl).set r1.2.1 (by rw [List.length_set]; exact hl'))⟩
abbrev dPar3 (i j l : Nat) (η : DTA) : DTS := fun Δ ρ O => η ρ O (fun bs O1 => ∃ b c d, bs = [b, c, d] ∧ Δ.nx (((ρ.set i (some b)).set j (some c)).set l (some d)) O1) (xat Δ ρ)
theorem ds_par3 {i j l : Nat} {x y z : Str} {a b c : Expr} {η : DTA} {px py pz pt pt2 : Pos} {kt k2 : Nat} (ha : DA X T W [a, b, c] η) (hc : X.calm = true) (hN : X.N.Nodup := by assumption) (hi : X.N[i]? = some x := by rfl) (hj : X.N[j]? = some y := by rfl) (hl3 : X.N[l]? = some z := by rfl)
    (hij : i ≠ j := by decide) (hil : i ≠ l := by decide) (hjl : j ≠ l := by decide)
    (hx : X.env.scope.names.lookup x = some .local := by rfl) (hy : X.env.scope.names.lookup y = some .local := by rfl) (hz : X.env.scope.names.lookup z = some .local := by rfl)
    (hw : swappedStores [.Tuple [.Name x px, .Name y py, .Name z pz] kt pt] (.Tuple [a, b, c] k2 pt2) X.env = pure (some [x, y, z]) := by rfl)
    (hs : swapsWithSole [.Tuple [.Name x px, .Name y py, .Name z pz] kt pt] (.Tuple [a, b, c] k2 pt2) pos.line X.env = pure false := by rfl) :
    DS X T W (.Assign [.Tuple [.Name x px, .Name y py, .Name z pz] kt pt] (.Tuple [a, b, c] k2 pt2) pos) (dPar3 i j l η) := by
  refine ⟨fun pins s σ H D I ⟨G, ρ, O, Δ, S, E, d, p⟩ => ?_⟩
  have hl : i < σ.length := by rw [I.len]; exact (List.getElem?_eq_some_iff.mp hi).1
  have hl' : j < σ.length := by rw [I.len]; exact (List.getElem?_eq_some_iff.mp hj).1
  have hl'' : l < σ.length := by rw [I.len]; exact (List.getElem?_eq_some_iff.mp hl3).1
  refine (ps_par3 hc hN hi hj hl3 hij hil hjl hx hy hz ha hw hs).run pins s σ H D I ⟨G, ρ, O, _, _, S, E, d, fun bs O1 vs G1 H1 ⟨b, c, f, e, d1⟩ s1 S1 r1 => ?_, p.xat E⟩
  subst e
  match vs, r1 with
  | [v, w, u], r1 =>
    exact ⟨v, w, u, rfl, p.nx _ _ _ _ _ d1 s1 S1 ((((E.mono s1).set r1.1 hl).set r1.2.1 (by rw [List.length_set]; exact hl')).set r1.2.2.1 (by rw [List.length_set, List.length_set]; exact hl''))⟩
/-- name op= e -/
abbrev dAug (i : Nat) (f : F2) (α : DTE) : DTS := fun Δ ρ O => ∃ b, ρ[i]? = some (some b) ∧ α ρ O (fun c O1 => f b c O1 fun z O2 => Δ.nx (ρ.set i (some z)) O2) (xat Δ ρ)
theorem ds_aug (i : Nat) {x : Str} {op : Operator} {r : R2} {f : F2} {px : Pos} (ho : OpR X (inplaceOp op) r) (hd : Op2 T r f) (he : DE X T W e α) (hN : X.N.Nodup := by assumption) (hi : X.N[i]? = some x := by rfl) (hx : Loc X.env.scope x := by first | exact Or.inl rfl | exact Or.inr rfl) (hf : X.fn x = true ∨ X.env.scope.names.lookup x = some .local := by first | exact Or.inl rfl | exact Or.inr rfl | assumption) :
    DS X T W (.AugAssign (.Name x px) op e pos) (dAug i f α) := by
  refine ⟨fun pins s σ H D I ⟨G, ρ, O, Δ, S, E, ⟨b, e0, d⟩, p⟩ => ?_⟩
  have hl : i < σ.length := by rw [I.len]; exact (List.getElem?_eq_some_iff.mp hi).1
  obtain ⟨v, ev, rv⟩ := E i b e0
  exact (ps_aug hN hi hx he (fun pins s σ H x y v u Q I rx ry h => ho pins s σ H x y v u Q I rx ry h) hf).run pins s σ H D I ⟨v, ev, G, ρ, O, _, _, S, E, d, fun c O1 u G1 H1 d1 s1 S1 r1 =>
    hd G1 H1 O1 v u b c _ _ S1 (rv.mono s1) r1 d1 fun z O2 w G2 H2 d2 s2 S2 r2 => p.nx _ _ _ _ _ d2 (s1.trans s2) S2 ((E.mono (s1.trans s2)).set r2 hl), p.xat E⟩
end
end DL
end
section
set_option maxRecDepth 100000
set_option maxHeartbeats 4000000
/-! rules that the layer by import lacks: enumerate over a tuple -/
namespace PySem
open Sem (wp)
set_option maxHeartbeats 1000000 in
theorem dl_enum_new {v : Value} {o : Obj} {H : Heap → Prop} (B : Begins v o H) :
    Meets (Builtin.«enumerate.__new__» ⟨[.type "enumerate", v], []⟩) (fun _ R s => H s.heap ∧
      R (.ok (.ret (.ref (s.heap.push o).objs.size))) { s with heap := (s.heap.push o).push { cls := .type "enumerate", data := .fields #[.none, .bool false, .ref s.heap.objs.size, rawInt 0, .none, .none] } }) :=
  .of_wp fun prog w A R s h => by
    obtain ⟨hp, g, d, tk, os⟩ := s
    obtain ⟨h1, h⟩ := h
    have hsub := sub_enumerate
    have begun : ∀ {A' : Around} {E : Value → Shared → Prop} {Q : Value → Shared → Prop}, Q (.ref hp.objs.size) ⟨hp.push o, g, d, tk, os⟩ → wpAny (model prog w) A' (pyIter v) Q E ⟨hp, g, d, tk, os⟩ :=
      fun q => B.iter prog w _ _ ⟨hp, g, d, tk, os⟩ _ h1 q
    wp_walk using begun
    refine wpAny_stack_any fun st => wpAny_pure ?_
    split
    · rename_i c _ _ _ _ _
      cases (c == Value.type "enumerate") <;> (wp_walk using begun; exact ⟨_, rfl, h⟩)
    · wp_walk using begun
      exact ⟨_, rfl, h⟩
section
variable {prog : Program} {w : World} {A : Around} {E : Value → Shared → Prop} {s : Shared}
theorem dl_enum_call {v : Value} {o : Obj} {H : Heap → Prop} {Q : Value → Shared → Prop} (B : Begins v o H) (h1 : H s.heap)
    (h : ∀ h', IsEnum h' (s.heap.objs.size + 1) s.heap.objs.size 0 .none → h'.get? s.heap.objs.size = some o → (∀ b o, s.heap.get? b = some o → h'.get? b = some o) → Q (.ref (s.heap.objs.size + 1)) { s with heap := h' }) :
    wpAny (model prog w) A (call (.type "enumerate") [v]) Q E s := by
  refine callType_new F.called_enumerate (by decide) (F.typeCall_enumerate_1 _) (F.newCall_enumerate_1 _) (fun obj => F.args_object_init_2 obj _) F.entry_enumerate_new (dl_enum_new B) ⟨h1, ?_⟩
  have sz : (s.heap.push o).objs.size = s.heap.objs.size + 1 := Heap.size_push ..
  show _ ∧ _
  rw [sz]
  generalize ho2 : ({ cls := .type "enumerate", data := .fields #[.none, .bool false, .ref s.heap.objs.size, rawInt 0, .none, .none] } : Obj) = o2
  have he : ((s.heap.push o).push o2).get? (s.heap.objs.size + 1) = some o2 := by
    have z := Heap.get?_push_size (s.heap.push o) (o := o2) (by rw [← ho2]; rfl)
    rw [sz] at z; exact z
  have hE : IsEnum ((s.heap.push o).push o2) (s.heap.objs.size + 1) s.heap.objs.size 0 .none := by rw [← ho2] at he ⊢; exact he
  exact ⟨⟨_, hE, rfl⟩, h _ hE (Heap.get?_push_of_some _ (Heap.get?_push_size _ B.free)) fun b u x => Heap.get?_push_of_some _ (Heap.get?_push_of_some _ x)⟩
end
end PySem
namespace DL
open PySem PySem.Spec PyProof.Rows L2
/-- the tuple at a, each item in a new pair with its place -/
def IteT (K : PySem.W.Frag) (a : Addr) : It :=
  ⟨fun i H => ∃ (xs : List V) (x : V), SqT K H a xs ∧ xs[i]? = some x, fun i H v H' => ∃ T x, v = .ref T ∧ H T = none ∧ H' = upd H T (.tup [.int (i : Nat), x]) ∧ ∀ xs, SqT K H a xs → xs[i]? = some x, fun i H => ∃ xs : List V, SqT K H a xs ∧ xs.length = i⟩
theorem turn_enumT {P : Program} {w : World} {K : PySem.W.Frag} {elts : List Expr} {kk : Nat} {tpos : Pos} (a e it : Addr) :
    Turn P w K (.Tuple elts kk tpos) (IteT K a) [e, it] e (fun i h => (∃ old, IsEnum h e it ((i : Nat) : Int) old) ∧ h.IsTupleIter it a i ∧ e ≠ it) where
  mem := List.mem_cons_self ..
  obj := fun i h st b hb => by
    obtain ⟨⟨old, he⟩, ⟨o, ho, hc, hd⟩, _⟩ := st
    rcases List.mem_cons.mp hb with z | hb
    · rw [z]; exact ⟨_, he, fun v q => nomatch q⟩
    · rw [List.mem_singleton.mp hb]; exact ⟨o, ho, fun v q => by rw [hd] at q; cases q⟩
  keep := fun i h h' st k => by
    obtain ⟨⟨old, he⟩, hi, hne⟩ := st
    exact ⟨⟨old, k e (List.mem_cons_self ..) _ he⟩, hi.at fun o q => k it (by simp) o q, hne⟩
  item := by
    intro X hP hw hK hc i pins s σ H E I hf st hg
    subst hP hw hK
    obtain ⟨⟨old, he⟩, hit, hne⟩ := st
    obtain ⟨xs, x, hq, hx⟩ := hg
    obtain ⟨its, rv, p, hz⟩ := I.tuple hq
    obtain ⟨u, hu, ru⟩ := rv.get hx
    have pl : a ≠ it := fun z => by
      obtain ⟨o1, e1, c1, _⟩ := id p
      obtain ⟨o2, e2, c2, _⟩ := id hit
      rw [z, e2] at e1; cases e1
      rw [c2] at c1
      exact absurd c1 (by decide)
    have pe : e ≠ a := fun z => by
      obtain ⟨o1, e1, c1, _⟩ := id p
      have he' : s.heap.get? e = some _ := he
      rw [z, e1] at he'; cases he'
      have c1' : Value.type "enumerate" = Value.type "tuple" := c1
      exact absurd c1' (by decide)
    have hel : e < s.heap.objs.size := Heap.lt_size he
    have hil : it < s.heap.objs.size := by obtain ⟨_, q, _⟩ := hit; exact Heap.lt_size q
    have hlt : i < its.toArray.size := by
      have := (List.getElem?_eq_some_iff.mp hu).1
      simpa using this
    refine wpAny_pyNext_enum_itemD (Draws.tuple (A := X.A.in1) (I.ok.hd hc) it a pl its.toArray) he ⟨hit, p⟩ hlt hne (by simp [hne, pe]) fun y h' tk hy ho hst hT hsz hk => ?_
    have ey : y = u := by
      have hy' : its.toArray[i]? = some y := hy
      rw [List.getElem?_toArray, hu] at hy'
      exact (Option.some.inj hy').symm
    subst ey
    refine ⟨_, rfl, wpAny_letOwnedTupleGo_enum (s := { s with heap := h', toks := tk + 1 }) ho fun h'' he' sb => ?_⟩
    have hT2 : h''.get? s.heap.objs.size = some { cls := .type "tuple", data := .seq #[.int i tk, y] } := (sb.2 _ (Nat.ne_of_gt hel)).trans hT
    have new : ObjOk X.prog X.w (upd H s.heap.objs.size (.tup [.int (i : Nat), x])) h'' s.heap.objs.size (.tup [.int (i : Nat), x]) :=
      ⟨by show 2 ≤ sizeLine; decide, [.int i tk, y], .cons ⟨_, rfl⟩ (.cons ru .nil), ⟨_, hT2, rfl, _, rfl⟩⟩
    have I1 : Inv X pins σ (upd H s.heap.objs.size (.tup [.int (i : Nat), x])) { s with heap := h'', toks := tk + 1 } :=
      I.turnedNew (ch := [e, it]) (fun b ob hb q => (sb.2 b (fun z => hb (by simp [z]))).trans (hk b ob (fun z => hb (by simp [z])) (fun z => hb (by simp [z])) q)) hf (Nat.le_refl _) new
    refine ⟨.ref s.heap.objs.size, _, I1, rfl, ⟨_, x, rfl, I.hok.fresh (Nat.le_refl _), rfl, fun ys hy => by rw [I.tuple_inj hy hq]; exact hx⟩, ⟨⟨y, ?_⟩, hst.1.at fun o q => (sb.2 it (Ne.symm hne)).trans q, hne⟩, fun b hb => ?_⟩
    · have e1 : ((i + 1 : Nat) : Int) = (i : Int) + 1 := by omega
      rw [e1]; exact he'
    · have hb' : b < s.heap.objs.size := by
        rcases List.mem_cons.mp hb with z | hb
        · rw [z]; exact hel
        · rw [List.mem_singleton.mp hb]; exact hil
      rw [upd_ne (Nat.ne_of_lt hb')]
      exact (hf b hb).1
  done := by
    intro X hP hw hK hc i pins s σ H E I hf st hg
    subst hP hw hK
    obtain ⟨⟨old, he⟩, hit, hne⟩ := st
    obtain ⟨xs, hq, hx⟩ := hg
    obtain ⟨its, rv, p, hz⟩ := I.tuple hq
    obtain ⟨f0, f1, f2, f3, f4, f5⟩ := hf it (by simp)
    have hl := rv.length
    have pl : a ≠ it := fun z => by
      obtain ⟨o1, e1, c1, _⟩ := id p
      obtain ⟨o2, e2, c2, _⟩ := id hit
      rw [z, e2] at e1; cases e1
      rw [c2] at c1
      exact absurd c1 (by decide)
    have en : i = its.toArray.size := by
      have h1 := hl
      simp
      omega
    subst en
    exact wpAny_pyNext_enum_endD (Draws.tuple (A := X.A.in1) (I.ok.hd hc) it a pl its.toArray) he ⟨hit, p⟩ fun h' eb => ⟨rfl, I.turned (t' := s.toks) (fun b o hb q => eb b o hb q) f0 f1 f3 f4 f5⟩
  self := fun A i s Q E st h => let ⟨⟨_, he⟩, _⟩ := st; wpAny_pyIter_enum he h
end DL
end
section
set_option maxRecDepth 100000
set_option maxHeartbeats 2000000
/-! part e: what is walked, loops, comprehensions -/
namespace DL
open PySem PySem.Spec PyProof.Rows L2

/-- the iterator J gives the items xs -/
abbrev DSrc := Ro → Ow → (List B → (Ow → Prop) → Ow → Prop) → DX → Prop
abbrev yesP : Ow → Prop := fun _ => True
def IsSrc (T : Tb) (J : It) (G0 : Hp) (xs : List B) (P : Ow → Prop) : Prop := ∀ (i : Nat) (G H : Hp) (O : Ow), Same G0 G → Sep T G H O → P O →
  (∀ b, xs[i]? = some b → J.go i H ∧ ∀ v H', J.yld i H v H' → ∃ G', Same G G' ∧ Sep T G' H' O ∧ RB G' v b) ∧ (i = xs.length → J.stop i H)
def canI (T : Tb) (W : WX) (δ : DSrc) : TI := fun σ H Q => ∃ G ρ O R RX, Sep T G H O ∧ Ev G σ ρ ∧ δ ρ O R RX ∧ (∀ xs P O' J G' H', R xs P O' → Same G G' → Sep T G' H' O' → IsSrc T J G' xs P → Q J H') ∧ XPost T G RX (wx W σ)
def DI (X : Cx) (T : Tb) (W : WX) (tg iter : Expr) (δ : DSrc) : Prop := PI X tg iter (canI T W δ)
theorem pi_imp {X : Cx} {tg e : Expr} {t t' : TI} (h : PI X tg e t) (i : ∀ σ H Q, t' σ H Q → t σ H Q) : PI X tg e t' := ⟨fun p s σ H Q I q => h.run p s σ H Q I (i σ H Q q)⟩

section
variable {X : Cx} {T : Tb} {W : WX} {tg e : Expr} {α β : DTE} {η : DTA} {pos p tpos : Pos}

/-- a list or a tuple, by values -/
def iSeq (K : PySem.W.Frag) (tl : TE) : TI := fun σ H R => tl σ H fun x H1 => ∃ a, x = .ref a ∧ (((∃ xs, SqL K H1 a xs) ∧ R (Itl K a) H1) ∨ ((∃ xs, SqT K H1 a xs) ∧ R (Itt K a) H1))
theorem pi_seq {l : Expr} {tl : TE} (hl : PE X l tl) : PI X tg l (iSeq X.K tl) := by
  refine ⟨fun pins s σ H R I h => ?_⟩
  refine thn (hl.run pins s σ H _ I h) fun v s1 ⟨x, H1, I1, r1, a, ex, q1⟩ => ?_
  subst ex
  obtain rfl : v = Value.ref a := r1
  have new : ∀ b ∈ [s1.heap.objs.size], FpOk X pins H1 b := fun b hb => by
    rw [List.mem_singleton.mp hb]
    exact I1.fpOk (Nat.le_refl _) (I1.hok.fresh (Nat.le_refl _))
  have kept : ∀ o : Obj, Inv X pins σ H1 { s1 with heap := s1.heap.push o } := fun o => I1.kept (t' := s1.toks) fun b u e => Heap.get?_push_of_some _ e
  rcases q1 with ⟨⟨xs, hq⟩, q⟩ | ⟨⟨xs, hq⟩, q⟩
  · obtain ⟨its, _, pl, _⟩ := I1.list hq
    refine wpAny_pyIter_list pl.isList ?_
    exact ⟨s1.heap.objs.size, [s1.heap.objs.size], _, _, H1, rfl, kept _, turn_list a _, ⟨_, Heap.get?_push_size _ rfl, rfl, rfl⟩, new, q⟩
  · obtain ⟨its, _, pl, _⟩ := I1.tuple hq
    refine wpAny_pyIter_tuple (show s1.heap.IsTuple a its.toArray from pl) ?_
    exact ⟨s1.heap.objs.size, [s1.heap.objs.size], _, _, H1, rfl, kept _, turn_tuple a _, ⟨_, Heap.get?_push_size _ rfl, rfl, rfl⟩, new, q⟩
/-- the items of a list or tuple; an owned list is frozen first -/
def fIter (T : Tb) : B → Ow → (List B → (Ow → Prop) → Ow → Prop) → Prop
  | .d (.lst xs), O, k => xs.length ≤ sizeLine → k (xs.map B.d) yesP O
  | .d (.tup xs), O, k => xs.length ≤ sizeLine → k (xs.map B.d) yesP O
  | .v (.ref a), O, k => (∃ xs, (a, .lst xs) ∈ O ∧ (xs.length ≤ sizeLine → k (xs.map B.d) yesP (odel O a))) ∨ (∃ ns, (a, ns) ∈ T.scr ∧ (ns.length ≤ 63 → k (ns.map fun n => B.d (.int n)) yesP O)) ∨
    ∃ xs, (a, .lst xs) ∈ O ∧ (xs.length ≤ sizeLine → k (xs.map B.d) (fun O' => (a, OD.lst xs) ∈ O') O)
  | _, _, _ => False
theorem src_list {K : PySem.W.Frag} {G : Hp} {a : Addr} {vs : List V} {bs : List B} (h : ∀ G' H O, Same G G' → Sep T G' H O → SqL K H a vs) (r : RBs G vs bs) (inj : ∀ H xs ys, SqL K H a xs → SqL K H a ys → True) : IsSrc T (Itl K a) G bs yesP := fun i G' H O s S _ =>
  ⟨fun b e => by
    obtain ⟨v, e1, r1⟩ := r.get e
    exact ⟨⟨vs, v, h G' H O s S, e1⟩, fun u H' ⟨eH, hu⟩ => by
      have := hu vs (h G' H O s S)
      rw [e1] at this; cases this
      subst eH
      exact ⟨G', Same.refl _, S, r1.mono s⟩⟩,
   fun e => ⟨vs, h G' H O s S, by rw [e, r.len]; exact Nat.le_refl _⟩⟩
theorem src_tup {K : PySem.W.Frag} {G : Hp} {a : Addr} {vs : List V} {bs : List B} (h : G a = some (.tup vs)) (r : RBs G vs bs) : IsSrc T (Itt K a) G bs yesP := fun i G' H O s S _ =>
  have q : SqT K H a vs := SqT.of (S.sub _ _ (s _ _ h))
  ⟨fun b e => by
    obtain ⟨v, e1, r1⟩ := r.get e
    exact ⟨⟨vs, v, q, e1⟩, fun u H' ⟨eH, hu⟩ => by
      have := hu vs q
      rw [e1] at this; cases this
      subst eH
      exact ⟨G', Same.refl _, S, r1.mono s⟩⟩,
   fun e => ⟨vs, q, by rw [e, r.len]; exact Nat.le_refl _⟩⟩
theorem src_lst {K : PySem.W.Frag} {G : Hp} {a : Addr} {vs : List V} {bs : List B} (h : G a = some (.lst vs)) (r : RBs G vs bs) : IsSrc T (Itl K a) G bs yesP :=
  src_list (fun _ _ _ s S => SqL.of (S.sub _ _ (s _ _ h))) r fun _ _ _ _ _ => trivial
theorem rbs_ints {G : Hp} : ∀ ns : List Int, RBs G (ns.map V.int) (ns.map fun n => B.d (.int n))
  | [] => trivial
  | n :: ns => ⟨by simp only [RB, Rp], rbs_ints ns⟩
/-- an owned list that stays as it is -/
theorem src_own {K : PySem.W.Frag} {G : Hp} {a : Addr} {xs : List D} : IsSrc T (Itl K a) G (xs.map B.d) (fun O' => (a, OD.lst xs) ∈ O') := fun i G' H O s S m => by
  obtain ⟨vs, e, z, r⟩ := S.lst m
  have q : SqL K H a vs := SqL.of e
  refine ⟨fun b hb => ?_, fun hi => ⟨vs, q, by rw [hi, List.length_map, r.len]; exact Nat.le_refl _⟩⟩
  rw [List.getElem?_map] at hb
  cases ed : xs[i]? with
  | none => rw [ed] at hb; cases hb
  | some d =>
    rw [ed] at hb
    cases hb
    obtain ⟨v, e1, r1⟩ := r.get ed
    refine ⟨⟨vs, v, q, e1⟩, fun u H' ⟨eH, hu⟩ => ?_⟩
    have := hu vs q
    rw [e1] at this; cases this
    subst eH
    exact ⟨G', Same.refl _, S, r1⟩
abbrev dIter (T : Tb) (α : DTE) : DSrc := fun ρ O R RX => α ρ O (fun b O1 => fIter T b O1 R) RX
/-- a value that is walked is a list or tuple somewhere -/
theorem fIter_ok {K : PySem.W.Frag} (hK : T.K = K) {G H : Hp} {O : Ow} {v : V} {b : B} {k : List B → (Ow → Prop) → Ow → Prop} (S : Sep T G H O) (r : RB G v b) (h : fIter T b O k) :
    ∃ a xs P O' G', v = .ref a ∧ k xs P O' ∧ Same G G' ∧ Sep T G' H O' ∧
      (((∃ vs, SqL K H a vs ∧ RBs G' vs xs) ∧ IsSrc T (Itl K a) G' xs P) ∨ (P = yesP ∧ ∃ vs, G' a = some (.tup vs) ∧ RBs G' vs xs)) := by
  subst hK
  match b, h with
  | .d (.lst xs), h =>
    simp only [RB, Rp] at r
    obtain ⟨a, vs, e, h1, z, h3⟩ := r
    exact ⟨a, _, _, O, G, e, h (by rw [← h3.len]; exact z), Same.refl _, S, .inl ⟨⟨vs, SqL.of (S.sub _ _ h1), RBs.ofData h3⟩, src_lst h1 (RBs.ofData h3)⟩⟩
  | .d (.tup xs), h =>
    simp only [RB, Rp] at r
    obtain ⟨a, vs, e, h1, z, h3⟩ := r
    exact ⟨a, _, _, O, G, e, h (by rw [← h3.len]; exact z), Same.refl _, S, .inr ⟨rfl, vs, h1, RBs.ofData h3⟩⟩
  | .v (.ref a), h =>
    have e : v = .ref a := r
    rcases h with ⟨xs, m, h⟩ | ⟨ns, m, h⟩ | ⟨xs, m, h⟩
    · obtain ⟨G1, s1, S1, r1⟩ := S.freezeL m
      simp only [Rp] at r1
      obtain ⟨a', vs, e', h1, z, h3⟩ := r1
      cases e'
      exact ⟨a, _, _, _, G1, e, h (by rw [← h3.len]; exact z), s1, S1, .inl ⟨⟨vs, SqL.of (S1.sub _ _ h1), RBs.ofData h3⟩, src_lst h1 (RBs.ofData h3)⟩⟩
    · exact ⟨a, _, _, O, G, e, h (S.tab.scr _ m).2, Same.refl _, S, .inl ⟨⟨_, (S.tab.scr _ m).1.seq, rbs_ints ns⟩, src_list (fun G' H' O' _ S' => (S'.tab.scr _ m).1.seq) (rbs_ints ns) fun _ _ _ _ _ => trivial⟩⟩
    · obtain ⟨vs, e1, z, r1⟩ := S.lst m
      exact ⟨a, _, _, O, G, e, h (by rw [← r1.len]; exact z), Same.refl _, S, .inl ⟨⟨vs, SqL.of e1, RBs.ofData r1⟩, src_own⟩⟩
theorem di_seq (hK : T.K = X.K) (he : DE X T W e α) : DI X T W tg e (dIter T α) :=
  pi_imp (pi_seq he) fun σ H Q ⟨G, ρ, O, R, RX, S, E, d, h, x⟩ => ⟨G, ρ, O, _, RX, S, E, d, (fun b O1 v G1 H1 d1 s1 S1 r1 => by
    obtain ⟨a, xs, P, O2, G2, e1, hk, s2, S2, q⟩ := fIter_ok hK S1 r1 d1
    refine ⟨a, e1, ?_⟩
    rcases q with ⟨⟨vs, q, _⟩, src⟩ | ⟨eP, vs, q, r⟩
    · exact .inl ⟨⟨vs, q⟩, h _ _ _ _ _ _ hk (s1.trans s2) S2 src⟩
    · subst eP
      exact .inr ⟨⟨vs, SqT.of (S2.sub _ _ q)⟩, h _ _ _ _ _ _ hk (s1.trans s2) S2 (src_tup q r)⟩), x⟩

/-! ### range -/
def rangeB (lo : Int) (n : Nat) : List B := (List.range n).map fun i => B.d (.int (lo + (i : Nat)))
theorem rangeB_len (lo : Int) (n : Nat) : (rangeB lo n).length = n := by unfold rangeB; rw [List.length_map, List.length_range]
theorem rangeB_get {lo : Int} {n i : Nat} {b : B} (h : (rangeB lo n)[i]? = some b) : i < n ∧ b = .d (.int (lo + (i : Nat))) := by
  unfold rangeB at h
  rw [List.getElem?_map] at h
  cases e : (List.range n)[i]? with
  | none => rw [e] at h; cases h
  | some j =>
    rw [e] at h
    obtain ⟨hi, ej⟩ := List.getElem?_eq_some_iff.mp e
    rw [List.getElem_range] at ej
    rw [List.length_range] at hi
    subst ej
    exact ⟨hi, (Option.some.inj h).symm⟩
theorem src_range {G : Hp} (lo : Int) (n : Nat) : IsSrc T (Itr lo n) G (rangeB lo n) yesP := fun i G' H O s S _ =>
  ⟨fun b e => by
    obtain ⟨hi, eb⟩ := rangeB_get e
    subst eb
    exact ⟨hi, fun v H' ⟨eH, ev⟩ => by
      subst eH
      subst ev
      exact ⟨G', Same.refl _, S, by simp only [RB, Rp]⟩⟩,
   fun e => by rw [rangeB_len] at e; exact Nat.le_of_eq e.symm⟩
abbrev dRng1 (η : DTA) : DSrc := fun ρ O R RX => η ρ O (fun bs O1 => ∃ j : Int, bs = [.d (.int j)] ∧ -(2 ^ 62) ≤ j ∧ j < 2 ^ 62 ∧ R (rangeB 0 j.toNat) yesP O1) RX
abbrev dRng2 (η : DTA) : DSrc := fun ρ O R RX => η ρ O (fun bs O1 => ∃ i j : Int, bs = [.d (.int i), .d (.int j)] ∧ (-(2 ^ 62) ≤ i ∧ i < 2 ^ 62 ∧ -(2 ^ 62) ≤ j ∧ j < 2 ^ 62) ∧ R (rangeB i (j - i).toNat) yesP O1) RX
theorem di_range1 {a : Expr} (hm : X.mg "range" = none) (ha : DA X T W [a] η) (hg : Gl X "range" := by rfl) (hs : starEach [a] X.env = [(false, eval a X.env)] := by rfl) : DI X T W tg (.Call (.Name "range" p) [a] [] pos) (dRng1 η) :=
  pi_imp (pi_range1 hg hm ha hs) fun σ H Q ⟨G, ρ, O, R, RX, S, E, d, h, x⟩ => ⟨G, ρ, O, _, RX, S, E, d, (fun bs O1 vs G1 H1 ⟨j, e, j1, j2, d1⟩ s1 S1 r1 => by
    subst e
    match vs, r1 with
    | [v], r1 =>
      have ev : v = .int j := by simpa only [RB, Rp] using r1.1
      subst ev
      exact ⟨j, rfl, j1, j2, h _ _ _ _ _ _ d1 s1 S1 (src_range 0 _)⟩), x⟩
theorem di_range2 {a b : Expr} (hm : X.mg "range" = none) (ha : DA X T W [a, b] η) (hg : Gl X "range" := by rfl) (hs : starEach [a, b] X.env = [(false, eval a X.env), (false, eval b X.env)] := by rfl) (hs2 : starEach [b] X.env = [(false, eval b X.env)] := by rfl) : DI X T W tg (.Call (.Name "range" p) [a, b] [] pos) (dRng2 η) :=
  pi_imp (pi_range2 hg hm ha hs hs2) fun σ H Q ⟨G, ρ, O, R, RX, S, E, d, h, x⟩ => ⟨G, ρ, O, _, RX, S, E, d, (fun bs O1 vs G1 H1 ⟨i, j, e, jj, d1⟩ s1 S1 r1 => by
    subst e
    match vs, r1 with
    | [v, w], r1 =>
      have ev : v = .int i := by simpa only [RB, Rp] using r1.1
      have ew : w = .int j := by simpa only [RB, Rp] using r1.2.1
      subst ev
      subst ew
      exact ⟨i, j, rfl, jj, h _ _ _ _ _ _ d1 s1 S1 (src_range i _)⟩), x⟩

/-! ### enumerate, zip -/
/-- pairs of a place and an item -/
def enumB (xs : List B) : List B → Prop := fun ys => ys.length = xs.length ∧ ∀ (i : Nat) (x : B), xs[i]? = some x → ∃ d, x = .d d ∧ ys[i]? = some (.d (.tup [.int (i : Nat), d]))
def enumD (xs : List D) : List B := (xs.zipIdx).map fun q => B.d (.tup [.int (q.2 : Nat), q.1])
theorem enumD_len (xs : List D) : (enumD xs).length = xs.length := by unfold enumD; rw [List.length_map, List.length_zipIdx]
theorem enumD_get {xs : List D} {i : Nat} {b : B} (h : (enumD xs)[i]? = some b) : ∃ d, xs[i]? = some d ∧ b = .d (.tup [.int (i : Nat), d]) := by
  unfold enumD at h
  rw [List.getElem?_map, List.getElem?_zipIdx] at h
  cases e : xs[i]? with
  | none => rw [e] at h; cases h
  | some d =>
    rw [e] at h
    refine ⟨d, rfl, ?_⟩
    have := (Option.some.inj h).symm
    rw [this]
    simp
def iEnumA (K : PySem.W.Frag) (ta : TA) : TI := fun σ H R => ta σ H fun vs H1 => ∃ a, vs = [.ref a] ∧ ((∃ xs, SqL K H1 a xs ∧ R (Ite K a) H1) ∨ (∃ xs, SqT K H1 a xs ∧ R (IteT K a) H1))
theorem pi_enumA {ta : TA} {elts : List Expr} {kk : Nat} (hg : Gl X "enumerate") (hm : X.mg "enumerate" = none) (ha : PA X [e] ta) (hs : starEach [e] X.env = [(false, eval e X.env)] := by rfl) :
    PI X (.Tuple elts kk tpos) (.Call (.Name "enumerate" p) [e] [] pos) (iEnumA X.K ta) := by
  refine ⟨fun pins s σ H R I h => ?_⟩
  refine Call_ (ld_blt I hg hm boot_enumerate (PyProof.Rows.callWith_type1 (thn (ha.run pos pins s σ H _ I h) fun us s1 ⟨vs, H1, I1, r1, a, ex, q1⟩ => ?_) hs rfl))
  subst ex
  obtain ⟨u, rfl, ru⟩ := Vals.one r1
  obtain rfl : u = Value.ref a := ru
  have fresh : ∀ b ∈ [s1.heap.objs.size + 1, s1.heap.objs.size], FpOk X pins H1 b := fun b hb => by
    have hle : s1.heap.objs.size ≤ b := by
      rcases List.mem_cons.mp hb with z | hb
      · rw [z]; exact Nat.le_add_right _ _
      · rw [List.mem_singleton.mp hb]; exact Nat.le_refl _
    exact I1.fpOk hle (I1.hok.fresh hle)
  rcases q1 with ⟨xs, hq, q⟩ | ⟨xs, hq, q⟩
  · obtain ⟨its, _, pl, _⟩ := I1.list hq
    refine dl_enum_call (begins_list a its.toArray) pl.isList fun h' he hit hk => wpAny_pyIter_enum he ?_
    exact ⟨s1.heap.objs.size + 1, _, _, _, H1, rfl, I1.kept (t' := s1.toks) hk, turn_enum a (s1.heap.objs.size + 1) s1.heap.objs.size, ⟨⟨.none, he⟩, ⟨_, hit, rfl, rfl⟩, Nat.succ_ne_self _⟩, fresh, q⟩
  · obtain ⟨its, _, pl, _⟩ := I1.tuple hq
    refine dl_enum_call (begins_tuple a its.toArray) (show s1.heap.IsTuple a its.toArray from pl) fun h' he hit hk => wpAny_pyIter_enum he ?_
    exact ⟨s1.heap.objs.size + 1, _, _, _, H1, rfl, I1.kept (t' := s1.toks) hk, turn_enumT a (s1.heap.objs.size + 1) s1.heap.objs.size, ⟨⟨.none, he⟩, ⟨_, hit, rfl, rfl⟩, Nat.succ_ne_self _⟩, fresh, q⟩
/-- data items of a list, a tuple, an owned list -/
def fSeq : B → Ow → (Bool → List D → Ow → Prop) → Prop
  | .d (.lst xs), O, k => xs.length ≤ sizeLine → k false xs O
  | .d (.tup xs), O, k => xs.length ≤ sizeLine → k true xs O
  | .v (.ref a), O, k => ∃ xs, (a, .lst xs) ∈ O ∧ (xs.length ≤ sizeLine → k false xs (odel O a))
  | _, _, _ => False
theorem fSeq_ok {K : PySem.W.Frag} {G H : Hp} {O : Ow} {v : V} {b : B} {k : Bool → List D → Ow → Prop} (S : Sep T G H O) (r : RB G v b) (h : fSeq b O k) :
    ∃ a vs c xs O' G', v = .ref a ∧ k c xs O' ∧ Same G G' ∧ Sep T G' H O' ∧ Rps G' vs xs ∧ vs.length ≤ sizeLine ∧ ((c = false ∧ G' a = some (.lst vs)) ∨ (c = true ∧ G' a = some (.tup vs))) := by
  match b, h with
  | .d (.lst xs), h =>
    simp only [RB, Rp] at r
    obtain ⟨a, vs, e, h1, z, h3⟩ := r
    exact ⟨a, vs, _, _, O, G, e, h (by rw [← h3.len]; exact z), Same.refl _, S, h3, z, .inl ⟨rfl, h1⟩⟩
  | .d (.tup xs), h =>
    simp only [RB, Rp] at r
    obtain ⟨a, vs, e, h1, z, h3⟩ := r
    exact ⟨a, vs, _, _, O, G, e, h (by rw [← h3.len]; exact z), Same.refl _, S, h3, z, .inr ⟨rfl, h1⟩⟩
  | .v (.ref a), h =>
    have e : v = .ref a := r
    obtain ⟨xs, m, h⟩ := h
    obtain ⟨G1, s1, S1, r1⟩ := S.freezeL m
    simp only [Rp] at r1
    obtain ⟨a', vs, e', h1, z, h3⟩ := r1
    cases e'
    exact ⟨a, vs, _, _, _, G1, e, h (by rw [← h3.len]; exact z), s1, S1, h3, z, .inl ⟨rfl, h1⟩⟩
abbrev dEnum (α : DTE) : DSrc := fun ρ O R RX => α ρ O (fun b O1 => fSeq b O1 fun _ xs O2 => R (enumD xs) yesP O2) RX
theorem pair_new {G H : Hp} {O : Ow} {i : Int} {v : V} {d : D} (S : Sep T G H O) {q : Addr} (hq : H q = none) {u : V} {c : D} (ru : Rp G u c) (r : Rp G v d) :
    ∃ G', Same G G' ∧ Sep T G' (upd H q (.tup [u, v])) O ∧ RB G' (.ref q) (.d (.tup [c, d])) := by
  obtain ⟨S1, s1, r1⟩ := new_tup S (Rps.cons ru (Rps.cons r Rps.nil)) (by show 2 ≤ sizeLine; decide) hq
  exact ⟨_, s1, S1, r1⟩
theorem di_enum {elts : List Expr} {kk : Nat} (hm : X.mg "enumerate" = none) (ha : DE X T W e α) (hg : Gl X "enumerate" := by rfl) (hs : starEach [e] X.env = [(false, eval e X.env)] := by rfl) (hs' : starEach (e :: []) X.env = (false, eval e X.env) :: starEach [] X.env := by rfl) :
    DI X T W (.Tuple elts kk tpos) (.Call (.Name "enumerate" p) [e] [] pos) (dEnum α) :=
  pi_imp (pi_enumA hg hm (pa_cons ha pa_nil hs') hs) fun σ H Q ⟨G, ρ, O, R, RX, S, E, d, h, x⟩ => ⟨G, ρ, O, _, RX, S, E, d, (fun b O1 v G1 H1 d1 s1 S1 r1 => by
    obtain ⟨a, vs, _, xs, O2, G2, e1, hk, s2, S2, r2, z, q⟩ := fSeq_ok (K := X.K) S1 r1 d1
    refine ⟨a, by rw [e1], ?_⟩
    rcases q with ⟨_, q⟩ | ⟨_, q⟩
    · refine .inl ⟨vs, SqL.of (S2.sub _ _ q), h _ _ _ _ _ _ hk (s1.trans s2) S2 fun i G3 H3 O3 s3 S3 _ => ⟨fun b hb => ?_, fun hi => ⟨vs, SqL.of (S3.sub _ _ (s3 _ _ q)), by rw [hi, enumD_len, r2.len]; exact Nat.le_refl _⟩⟩⟩
      obtain ⟨dd, hd, eb⟩ := enumD_get hb
      subst eb
      obtain ⟨w, hw, rw_⟩ := r2.get hd
      refine ⟨⟨vs, w, SqL.of (S3.sub _ _ (s3 _ _ q)), hw⟩, fun u H' ⟨Tn, y, eu, nT, eH, hy⟩ => ?_⟩
      have ey := hy vs (SqL.of (S3.sub _ _ (s3 _ _ q)))
      rw [hw] at ey; cases ey
      subst eu
      subst eH
      exact pair_new (i := 0) S3 nT (by simp only [Rp]) (rw_.mono s3)
    · refine .inr ⟨vs, SqT.of (S2.sub _ _ q), h _ _ _ _ _ _ hk (s1.trans s2) S2 fun i G3 H3 O3 s3 S3 _ => ⟨fun b hb => ?_, fun hi => ⟨vs, SqT.of (S3.sub _ _ (s3 _ _ q)), by rw [hi, enumD_len, r2.len]⟩⟩⟩
      obtain ⟨dd, hd, eb⟩ := enumD_get hb
      subst eb
      obtain ⟨w, hw, rw_⟩ := r2.get hd
      refine ⟨⟨vs, w, SqT.of (S3.sub _ _ (s3 _ _ q)), hw⟩, fun u H' ⟨Tn, y, eu, nT, eH, hy⟩ => ?_⟩
      have ey := hy vs (SqT.of (S3.sub _ _ (s3 _ _ q)))
      rw [hw] at ey; cases ey
      subst eu
      subst eH
      exact pair_new (i := 0) S3 nT (by simp only [Rp]) (rw_.mono s3)), x⟩
/-- zip of two lists or of two tuples -/
def zipD (xs ys : List D) : List B := (xs.zip ys).map fun q => B.d (.tup [q.1, q.2])
theorem zipD_len (xs ys : List D) : (zipD xs ys).length = min xs.length ys.length := by unfold zipD; rw [List.length_map, List.length_zip]
theorem zipD_get {xs ys : List D} {i : Nat} {b : B} (h : (zipD xs ys)[i]? = some b) : ∃ x y, xs[i]? = some x ∧ ys[i]? = some y ∧ b = .d (.tup [x, y]) := by
  unfold zipD at h
  rw [List.getElem?_map] at h
  cases e : (xs.zip ys)[i]? with
  | none => rw [e] at h; cases h
  | some q =>
    rw [e] at h
    obtain ⟨x, y⟩ := q
    have := List.getElem?_zip_eq_some.mp e
    exact ⟨x, y, this.1, this.2, (Option.some.inj h).symm⟩
abbrev dZip (η : DTA) : DSrc := fun ρ O R RX => η ρ O (fun bs O1 => ∃ b c, bs = [b, c] ∧ fSeq b O1 fun k xs O2 => fSeq c O2 fun k' ys O3 => k = k' ∧ R (zipD xs ys) yesP O3) RX
theorem di_zip {a b : Expr} {elts : List Expr} {kk : Nat} (hm : X.mg "zip" = none) (ha : DA X T W [a, b] η) (hg : Gl X "zip" := by rfl)
    (hs : starEach [a, b] X.env = (false, eval a X.env) :: starEach [b] X.env := by rfl) (hpl : (backTo pos (starEach [b] X.env)).any (·.1) = false := by rfl) :
    DI X T W (.Tuple elts kk tpos) (.Call (.Name "zip" p) [a, b] [] pos) (dZip η) :=
  pi_imp (RZ.pi_zipA hg hm ha hs hpl) fun σ H Q ⟨G, ρ, O, R, RX, S, E, d, h, x⟩ => ⟨G, ρ, O, _, RX, S, E, d, (fun bs O1 ws G1 H1 ⟨b, c, e, d1⟩ s1 S1 r1 => by
    subst e
    match ws, r1 with
    | [v, w], r1 =>
      obtain ⟨a1, vs, c1, xs, O2, G2, e1, hk, s2, S2, r2, z, q⟩ := fSeq_ok (K := X.K) S1 r1.1 d1
      obtain ⟨a2, us, c2, ys, O3, G3, e2, ⟨ec, hk2⟩, s3, S3, r3, z2, q2⟩ := fSeq_ok (K := X.K) S2 (r1.2.1.mono s2) hk
      subst ec
      have r2' := r2.mono s3
      rcases q with ⟨ek, q⟩ | ⟨ek, q⟩
      · rcases q2 with ⟨_, q2⟩ | ⟨ek2, _⟩
        · refine ⟨a1, a2, vs, us, by rw [e1, e2], .inl ⟨SqL.of (S3.sub _ _ (s3 _ _ q)), SqL.of (S3.sub _ _ q2), h _ _ _ _ _ _ hk2 ((s1.trans s2).trans s3) S3 fun i G4 H4 O4 s4 S4 _ => ⟨fun b hb => ?_, fun hi => ?_⟩⟩⟩
          · obtain ⟨x, y, hx, hy, eb⟩ := zipD_get hb
            subst eb
            obtain ⟨v1, hv1, rv1⟩ := r2'.get hx
            obtain ⟨v2, hv2, rv2⟩ := r3.get hy
            have l1 : SqL X.K H4 a1 vs := SqL.of (S4.sub _ _ (s4 _ _ (s3 _ _ q)))
            have l2 : SqL X.K H4 a2 us := SqL.of (S4.sub _ _ (s4 _ _ q2))
            refine ⟨⟨vs, us, v1, v2, l1, l2, hv1, hv2⟩, fun u H' ⟨Tn, y1, y2, eu, nT, eH, hy1, hy2⟩ => ?_⟩
            have k1 := hy1 vs l1
            rw [hv1] at k1; cases k1
            have k2 := hy2 us l2
            rw [hv2] at k2; cases k2
            subst eu
            subst eH
            exact pair_new (i := 0) S4 nT (rv1.mono s4) (rv2.mono s4)
          · refine ⟨vs, us, SqL.of (S4.sub _ _ (s4 _ _ (s3 _ _ q))), SqL.of (S4.sub _ _ (s4 _ _ q2)), ?_⟩
            rw [zipD_len] at hi
            rw [r2.len, r3.len]
            omega
        · rw [ek] at ek2; cases ek2
      · rcases q2 with ⟨ek2, _⟩ | ⟨_, q2⟩
        · rw [ek] at ek2; cases ek2
        · refine ⟨a1, a2, vs, us, by rw [e1, e2], .inr ⟨SqT.of (S3.sub _ _ (s3 _ _ q)), SqT.of (S3.sub _ _ q2), h _ _ _ _ _ _ hk2 ((s1.trans s2).trans s3) S3 fun i G4 H4 O4 s4 S4 _ => ⟨fun b hb => ?_, fun hi => ?_⟩⟩⟩
          · obtain ⟨x, y, hx, hy, eb⟩ := zipD_get hb
            subst eb
            obtain ⟨v1, hv1, rv1⟩ := r2'.get hx
            obtain ⟨v2, hv2, rv2⟩ := r3.get hy
            have l1 : SqT X.K H4 a1 vs := SqT.of (S4.sub _ _ (s4 _ _ (s3 _ _ q)))
            have l2 : SqT X.K H4 a2 us := SqT.of (S4.sub _ _ (s4 _ _ q2))
            refine ⟨⟨vs, us, v1, v2, l1, l2, hv1, hv2⟩, fun u H' ⟨Tn, y1, y2, eu, nT, eH, hy1, hy2⟩ => ?_⟩
            have k1 := hy1 vs l1
            rw [hv1] at k1; cases k1
            have k2 := hy2 us l2
            rw [hv2] at k2; cases k2
            subst eu
            subst eH
            exact pair_new (i := 0) S4 nT (rv1.mono s4) (rv2.mono s4)
          · refine ⟨vs, us, SqT.of (S4.sub _ _ (s4 _ _ (s3 _ _ q))), SqT.of (S4.sub _ _ (s4 _ _ q2)), ?_⟩
            rw [zipD_len] at hi
            rw [r2.len, r3.len]
            omega), x⟩
end
end DL
end
section
set_option maxRecDepth 100000
set_option maxHeartbeats 2000000
/-! part f: for, while, comprehensions, what a def promises, calls -/
namespace DL
open PySem PySem.Spec PyProof.Rows L2

section
variable {X : Cx} {T : Tb} {W : WX} {tg e : Expr} {α β : DTE} {η : DTA} {src : DSrc} {τ : DTT} {γ : DTG} {δ : DTS} {pos p : Pos}

def noX : DX := fun _ _ => False
abbrev WF : WX := fun _ _ _ _ => False
abbrev dFor (src : DSrc) (γ : DTG) (δ : DTS) : DTS := fun Δ ρ O => src ρ O (fun xs P O1 => ∃ I : Nat → Ro → Ow → Prop, I 0 ρ O1 ∧ (∀ i ρ O, I i ρ O → P O) ∧
  (∀ i b ρ O, xs[i]? = some b → I i ρ O → γ b ρ O fun ρ' O' => δ { Δ with nx := I (i + 1), ct := I (i + 1), bk := Δ.nx } ρ' O') ∧ ∀ ρ O, I xs.length ρ O → Δ.nx ρ O) (xat Δ ρ)
theorem ds_for {vs : List Nat} {body : List Stmt} (hp : PassesOwn (model X.prog X.w) X.A X.env X.xe) (hc : X.calm = true) (hi : DI X T W tg e src) (hg : DG X T vs tg γ) (hb : DSs X T W body δ)
    (hs : ∀ x, foldedSetIterable e X.env x = pure x := by intro _; rfl) : DS X T W (.For tg e body [] pos) (dFor src γ δ) :=
  ds_of (ps_for hp hc hi hg.plain hb hs) fun G σ H ρ O Δ D S E d p => ⟨G, ρ, O, _, _, S, E, d, (fun xs P O1 J G1 H1 ⟨I, h0, hP, ht, he⟩ s1 S1 src => by
    refine ⟨fun i m σ H => m = xs.length - i ∧ i ≤ xs.length ∧ ∃ G2 ρ2 O2, Same G1 G2 ∧ Sep T G2 H O2 ∧ Ev G2 σ ρ2 ∧ I i ρ2 O2, ⟨xs.length, rfl, Nat.zero_le _, G1, ρ, O1, Same.refl _, S1, E.mono s1, h0⟩, ?_⟩
    rintro i m σ2 H2 ⟨rfl, hi, G2, ρ2, O2, s2, S2, E2, h2⟩
    by_cases hn : i = xs.length
    · subst hn
      exact .inl ⟨(src _ G2 H2 O2 s2 S2 (hP _ _ _ h2)).2 rfl, p.nx _ _ _ _ _ (he _ _ h2) (s1.trans s2) S2 E2⟩
    · have hlt : i < xs.length := by omega
      obtain ⟨hgo, hy⟩ := (src i G2 H2 O2 s2 S2 (hP _ _ _ h2)).1 _ (List.getElem?_eq_getElem hlt)
      refine .inr ⟨hgo, fun σ H => ∃ G3 ρ3 O3, Same G1 G3 ∧ Sep T G3 H O3 ∧ Ev G3 σ ρ3 ∧ I (i + 1) ρ3 O3, fun σ3 H3 ⟨G3, ρ3, O3, q⟩ => ⟨xs.length - (i + 1), by omega, rfl, hlt, G3, ρ3, O3, q⟩, fun x H' hx => ?_⟩
      obtain ⟨G3, s3, S3, r3⟩ := hy x H' hx
      have s13 := s2.trans s3
      refine ⟨G3, ρ2, O2, _, _, S3, E2.mono s3, r3, ht i _ ρ2 O2 (List.getElem?_eq_getElem hlt) h2, fun ρ4 O4 σ4 G4 H4 d4 s4 S4 E4 => ?_⟩
      exact ⟨G4, ρ4, O4, _, S4, E4, d4, ⟨fun ρ5 O5 σ5 G5 H5 d5 s5 S5 E5 => ⟨G5, ρ5, O5, (s13.trans s4).trans s5, S5, E5, d5⟩, (p.mono ((s1.trans s13).trans s4)).rt, (p.mono ((s1.trans s13).trans s4)).nx,
        fun ρ5 O5 σ5 G5 H5 d5 s5 S5 E5 => ⟨G5, ρ5, O5, (s13.trans s4).trans s5, S5, E5, d5⟩, (p.mono ((s1.trans s13).trans s4)).xr⟩⟩), p.xat E⟩
/-- while, by a word and a measure -/
abbrev dWhile (τ : DTT) (δ : DTS) : DTS := fun Δ ρ O => ∃ I : Nat → Ro → Ow → Prop, (∃ m, I m ρ O) ∧ ∀ m ρ O, I m ρ O →
  τ ρ O (fun k O1 => iteP k (δ { Δ with nx := fun ρ' O' => ∃ m', m' < m ∧ I m' ρ' O', ct := fun ρ' O' => ∃ m', m' < m ∧ I m' ρ' O', bk := Δ.nx } ρ O1) (Δ.nx ρ O1)) (xat Δ ρ)
theorem ds_while {body : List Stmt} (hp : PassesOwn (model X.prog X.w) X.A X.env X.xe) (hc : DT X T W e τ) (hb : DSs X T W body δ) : DS X T W (.While e body [] pos) (dWhile τ δ) :=
  ds_of (ps_while hp hc hb) fun G σ H ρ O Δ D S E ⟨I, ⟨m0, h0⟩, ht⟩ p => by
    refine ⟨fun m σ H => ∃ G2 ρ2 O2, Same G G2 ∧ Sep T G2 H O2 ∧ Ev G2 σ ρ2 ∧ I m ρ2 O2, ⟨m0, G, ρ, O, Same.refl _, S, E, h0⟩, ?_⟩
    rintro m σ2 H2 ⟨G2, ρ2, O2, s2, S2, E2, h2⟩
    have p2 := p.mono s2
    refine ⟨G2, ρ2, O2, _, _, S2, E2, ht m ρ2 O2 h2, fun k O3 G3 H3 d3 s3 S3 => ifP (fun hk => ?_) fun hk => p2.nx _ _ _ _ _ (d3.2 hk) s3 S3 (E2.mono s3), p2.xat E2⟩
    refine ⟨fun σ H => ∃ m', m' < m ∧ ∃ G3 ρ3 O3, Same G G3 ∧ Sep T G3 H O3 ∧ Ev G3 σ ρ3 ∧ I m' ρ3 O3, fun σ' H' q => q, ?_⟩
    have p3 := p2.mono s3
    exact ⟨G3, ρ2, O3, _, S3, E2.mono s3, d3.1 hk, ⟨fun ρ5 O5 σ5 G5 H5 ⟨m', hm, d5⟩ s5 S5 E5 => ⟨m', hm, G5, ρ5, O5, (s2.trans s3).trans s5, S5, E5, d5⟩, p3.rt, p3.nx, fun ρ5 O5 σ5 G5 H5 ⟨m', hm, d5⟩ s5 S5 E5 => ⟨m', hm, G5, ρ5, O5, (s2.trans s3).trans s5, S5, E5, d5⟩, p3.xr⟩⟩

/-! ### comprehensions -/
def wipeR (ρ : Ro) : List Nat → Ro
  | [] => ρ
  | v :: vs => (wipeR ρ vs).set v none
theorem wipeR_some {ρ : Ro} {i : Nat} {b : B} : ∀ {vs : List Nat}, (wipeR ρ vs)[i]? = some (some b) → ρ[i]? = some (some b) ∧ i ∉ vs
  | [], h => ⟨h, by simp⟩
  | v :: vs, h => by
    unfold wipeR at h
    by_cases hi : v = i
    · subst hi
      rw [List.getElem?_set] at h
      rw [if_pos rfl] at h
      split at h <;> cases h
    · rw [List.getElem?_set_ne hi] at h
      obtain ⟨h1, h2⟩ := wipeR_some h
      exact ⟨h1, by simp only [List.mem_cons, not_or]; exact ⟨fun e => hi e.symm, h2⟩⟩
theorem wipe_keep {σ : L2.St} {i : Nat} : ∀ {vs : List Nat}, i ∉ vs → (wipe σ vs)[i]? = σ[i]?
  | [], _ => rfl
  | v :: vs, h => by
    show ((wipe σ vs).set v none)[i]? = _
    have h1 : v ≠ i := fun z => h (by rw [z]; exact List.mem_cons_self ..)
    rw [List.getElem?_set_ne h1]
    exact wipe_keep fun z => h (List.mem_cons_of_mem _ z)
theorem Ev.wipe {G : Hp} {σ : L2.St} {ρ : Ro} (E : Ev G σ ρ) (vs : List Nat) : Ev G (L2.wipe σ vs) (wipeR ρ vs) := fun i b h => by
  obtain ⟨h1, h2⟩ := wipeR_some h
  obtain ⟨v, e, r⟩ := E i b h1
  exact ⟨v, by rw [wipe_keep h2]; exact e, r⟩
abbrev dYes : DTT := fun _ O R _ => R true O
/-- a clause's tests -/
def DTs (X : Cx) (T : Tb) (W : WX) (ifs : List Expr) (τ : DTT) : Prop := PTs X ifs (canT T W τ)
theorem dts_nil : DTs X T W [] dYes := ⟨fun pins s σ H Q I ⟨G, ρ, O, R, RX, S, E, d, p, x⟩ => pts_nil.run pins s σ H Q I (p _ _ _ _ d (Same.refl _) S)⟩
theorem dts_one {c : Expr} (h : DT X T W c τ) : DTs X T W [c] τ := pts_one h
/-- a clause's turns over the items -/
def lcGo (step : B → Ow → (Option D → Ow → Prop) → Prop) (P : Ow → Prop) (Dl : Addr) : List B → List D → Ow → DK → Prop
  | [], acc, O, R => P O ∧ (Dl, .lst acc) ∈ O ∧ (R (.d (.lst acc)) (odel O Dl) ∨ R (.v (.ref Dl)) O)
  | x :: xs, acc, O, R => P O ∧ step x O fun o O1 => match o with
    | none => lcGo step P Dl xs acc O1 R
    | some d => (Dl, .lst acc) ∈ O1 ∧ acc.length < sizeLine ∧ lcGo step P Dl xs (acc ++ [d]) (oset O1 Dl (.lst (acc ++ [d]))) R
/-- one turn: the target, the test, the element -/
abbrev lcStep (γ : DTG) (τ : DTT) (ε : DTE) (ρ : Ro) : B → Ow → (Option D → Ow → Prop) → Prop := fun x O K =>
  γ x ρ O fun ρ2 O2 => τ ρ2 O2 (fun k O3 => iteP k (ε ρ2 O3 (fun y O4 => frzK [y] O4 fun ds O5 => ∃ d, ds = [d] ∧ K (some d) O5) noX) (K none O3)) noX
abbrev dLc (src : DSrc) (γ : DTG) (τ : DTT) (ε : DTE) (vs : List Nat) : DTE := fun ρ O R RX => src ρ O (fun xs P O1 => ∀ Dl, (∀ q ∈ O1, q.1 ≠ Dl) → lcGo (lcStep γ τ ε (wipeR ρ vs)) P Dl xs [] ((Dl, .lst []) :: O1) R) RX
theorem lc_sound {vs : List Nat} {ε : DTE} {G : Hp} {σ : L2.St} {H : Hp} {ρ : Ro} {O : Ow} {R : DK} {RX : DX} {Q : VK} (S : Sep T G H O) (E : Ev G σ ρ) (d : dLc src γ τ ε vs ρ O R RX) (p : Post T G R Q) (x : XPost T G RX (wx W σ)) :
    tLc (canI T W src) (fun v σ H Q => canG T γ v σ H fun σ' H' => wipe σ' vs = wipe σ vs → Q σ' H') (canT T WF τ) (canE T WF ε) vs σ H Q := by
  refine ⟨G, ρ, O, _, _, S, E, d, fun xs P O1 J G1 H1 hgo s1 S1 src Dl hD => ?_, x⟩
  have hgo' := hgo Dl (S1.fresh hD)
  have S1' := S1.ownL (vs := []) (ds := []) hD Rps.nil (Nat.zero_le _)
  refine ⟨fun i m H => m = xs.length - i ∧ i ≤ xs.length ∧ ∃ G2 acc O2, Same G1 G2 ∧ Sep T G2 H O2 ∧ lcGo (lcStep γ τ ε (wipeR ρ vs)) P Dl (xs.drop i) acc O2 R, ⟨xs.length, rfl, Nat.zero_le _, G1, [], _, Same.refl _, S1', by rw [List.drop_zero]; exact hgo'⟩, ?_⟩
  rintro i m H2 ⟨rfl, hi, G2, acc, O2, s2, S2, h2⟩
  by_cases hn : i = xs.length
  · subst hn
    rw [List.drop_length] at h2
    obtain ⟨hP, m2, h2 | h2⟩ := h2
    · obtain ⟨G3, s3, S3, r3⟩ := S2.freezeL m2
      exact .inl ⟨(src _ G2 H2 O2 s2 S2 hP).2 rfl, p _ _ _ _ _ h2 ((s1.trans s2).trans s3) S3 r3⟩
    · exact .inl ⟨(src _ G2 H2 O2 s2 S2 hP).2 rfl, p _ _ _ _ _ h2 (s1.trans s2) S2 rfl⟩
  · have hlt : i < xs.length := by omega
    rw [List.drop_eq_getElem_cons hlt] at h2
    obtain ⟨hP, h2⟩ := h2
    obtain ⟨hg, hy⟩ := (src i G2 H2 O2 s2 S2 hP).1 _ (List.getElem?_eq_getElem hlt)
    refine .inr ⟨hg, fun H => ∃ G3 acc O3, Same G1 G3 ∧ Sep T G3 H O3 ∧ lcGo (lcStep γ τ ε (wipeR ρ vs)) P Dl (xs.drop (i + 1)) acc O3 R, fun H' ⟨G3, acc3, O3, q⟩ => ⟨xs.length - (i + 1), by omega, rfl, hlt, G3, acc3, O3, q⟩, fun v H3 hv => ?_⟩
    obtain ⟨G3, s3, S3, r3⟩ := hy v H3 hv
    have E3 : Ev G3 (wipe σ vs) (wipeR ρ vs) := (E.mono ((s1.trans s2).trans s3)).wipe vs
    refine ⟨G3, _, O2, _, _, S3, E3, r3, h2, fun ρ4 O4 σ4 G4 H4 d4 s4 S4 E4 ew => ⟨?_, ?_⟩⟩
    · rw [ew]
      have : ∀ (ws : List Nat), (∀ k ∈ ws, k ∈ vs) → wipe (wipe σ vs) ws = wipe σ vs := by
        intro ws
        induction ws with
        | nil => intro _; rfl
        | cons k ws ih =>
          intro hk
          show (wipe (wipe σ vs) ws).set k none = _
          rw [ih fun j hj => hk j (List.mem_cons_of_mem _ hj)]
          have key : ∀ (us : List Nat), k ∈ us → (wipe σ us).set k none = wipe σ us := by
            intro us hu
            induction us with
            | nil => simp at hu
            | cons j us ih2 =>
              show ((wipe σ us).set j none).set k none = (wipe σ us).set j none
              by_cases hkj : k = j
              · subst hkj; rw [List.set_set]
              · have hu' : k ∈ us := (List.mem_cons.mp hu).resolve_left hkj
                rw [List.set_comm _ _ (Ne.symm hkj), ih2 hu']
          exact key vs (hk k (List.mem_cons_self ..))
      exact this vs fun k hk => hk
    · refine ⟨G4, ρ4, O4, _, _, S4, E4, d4, fun k O5 G5 H5 d5 s5 S5 => ifP (fun hk => ?_) fun hk => ⟨G5, acc, O5, ((s2.trans s3).trans s4).trans s5, S5, d5.2 hk⟩, fun _ _ _ _ _ _ z => z.elim⟩
      refine ⟨G5, ρ4, O5, _, _, S5, E4.mono s5, d5.1 hk, fun y O6 w G6 H6 d6 s6 S6 r6 => ?_, fun _ _ _ _ _ _ z => z.elim⟩
      obtain ⟨ds, O7, G7, ⟨dd, ed, m7, z7, h7⟩, s7, S7, r7⟩ := frzK_ok (bs := [y]) (vs := [w]) S6 ⟨r6, trivial⟩ d6
      subst ed
      obtain ⟨us, e7, z8, r8⟩ := S7.lst m7
      refine ⟨us, e7, by rw [r8.len]; exact z7, G7, _, _, (((s2.trans s3).trans s4).trans s5).trans (s6.trans s7), S7.setL m7 (r8.app r7) ?_, h7⟩
      rw [List.length_append, List.length_singleton, r8.len]
      exact z7
theorem de_lc {elt tg iter : Expr} {ifs : List Expr} {scope : Scope} {own : List (Str × Nat)} {ε : DTE} (hc : X.calm = true) (hi : DI X T W tg iter src) (ok : BlkOk X.N X.env.scope scope own)
    (hg : ∀ (s : Shared) (H : Hp) (C : Addr) (cl : List (Str × Addr)) (fp : List Addr), DG (X.blk s H scope (compEnvC scope cl C X.env) fp) T (own.map (·.2)) tg γ) (ht : ∀ (s : Shared) (H : Hp) (C : Addr) (cl : List (Str × Addr)) (fp : List Addr), DTs (X.blk s H scope (compEnvC scope cl C X.env) fp) T WF ifs τ)
    (he : ∀ (s : Shared) (H : Hp) (C : Addr) (cl : List (Str × Addr)) (fp : List Addr), DE (X.blk s H scope (compEnvC scope cl C X.env) fp) T WF elt ε) (hN : X.N.Nodup := by assumption) (hs : ∀ x, foldedSetIterable iter X.env x = pure x := by intro _; rfl) :
    DE X T W (.ListComp elt [⟨tg, iter, ifs, 0⟩] scope pos) (dLc src γ τ ε (own.map (·.2))) :=
  de_of (pe_lc hc hN hi ok (fun s H C cl fp => (hg s H C cl fp).pg) (fun s H C cl fp => ht s H C cl fp) (fun s H C cl fp => he s H C cl fp) hs) fun G σ H ρ O R RX Q S E d p x => lc_sound S E d p x
theorem ds_setLc (i : Nat) {y : Str} {py spos : Pos} {elt tg iter : Expr} {ifs : List Expr} {scope : Scope} {own : List (Str × Nat)} {ε : DTE} (hc : X.calm = true) (hi : DI X T W tg iter src) (ok : BlkOk X.N X.env.scope scope own)
    (hg : ∀ (s : Shared) (H : Hp) (C : Addr) (cl : List (Str × Addr)) (fp : List Addr), DG (X.blk s H scope (compEnvC scope cl C X.env) fp) T (own.map (·.2)) tg γ) (ht : ∀ (s : Shared) (H : Hp) (C : Addr) (cl : List (Str × Addr)) (fp : List Addr), DTs (X.blk s H scope (compEnvC scope cl C X.env) fp) T WF ifs τ)
    (he : ∀ (s : Shared) (H : Hp) (C : Addr) (cl : List (Str × Addr)) (fp : List Addr), DE (X.blk s H scope (compEnvC scope cl C X.env) fp) T WF elt ε)
    (hsw : swapsWith (.ListComp elt [⟨tg, iter, ifs, 0⟩] scope pos) (some (.Name y py)) spos.line X.env = pure true) (hN : X.N.Nodup := by assumption) (hy : X.N[i]? = some y := by rfl) (hyl : X.env.scope.names.lookup y = some .local := by rfl) (hs : ∀ x, foldedSetIterable iter X.env x = pure x := by intro _; rfl) :
    DS X T W (.Assign [.Name y py] (.ListComp elt [⟨tg, iter, ifs, 0⟩] scope pos) spos) (dSet i (dLc src γ τ ε (own.map (·.2)))) := by
  refine ⟨fun pins s σ H D I ⟨G, ρ, O, Δ, S, E, d, p⟩ => ?_⟩
  have hl : i < σ.length := by rw [I.len]; exact (List.getElem?_eq_some_iff.mp hy).1
  refine (ps_setLc hc hN hy hyl hsw hi ok (fun s H C cl fp => (hg s H C cl fp).pg) (fun s H C cl fp => ht s H C cl fp) (fun s H C cl fp => he s H C cl fp) hs).run pins s σ H D I ?_
  exact lc_sound (Q := fun x H1 => gName i x σ H1 D.nx) S E d (fun b O1 v G1 H1 d1 s1 S1 r1 => p.nx _ _ _ _ _ d1 s1 S1 ((E.mono s1).set r1 hl)) (p.xat E)
/-- a comprehension whose turns change nothing -/
theorem lc_pure {step : B → Ow → (Option D → Ow → Prop) → Prop} {f : B → Option D} {P : Ow → Prop} {Dl : Addr} {O : Ow} {R : DK} (hD : ∀ q ∈ O, q.1 ≠ Dl) (hP : ∀ O', (∀ q ∈ O, q ∈ O') → P O') : ∀ {xs : List B} {acc : List D},
    (∀ x ∈ xs, ∀ (O' : Ow) (K : Option D → Ow → Prop), (∀ q ∈ O, q ∈ O') → K (f x) O' → step x O' K) → acc.length + xs.length ≤ sizeLine → R (.d (.lst (acc ++ xs.filterMap f))) O → lcGo step P Dl xs acc ((Dl, .lst acc) :: O) R
  | [], acc, _, _, h => by
    refine ⟨hP _ fun q hq => List.mem_cons_of_mem _ hq, List.mem_cons_self .., .inl ?_⟩
    rw [odel_cons_self hD]
    simpa using h
  | x :: xs, acc, hs, hl, h => by
    refine ⟨hP _ fun q hq => List.mem_cons_of_mem _ hq, ?_⟩
    refine hs x (List.mem_cons_self ..) _ _ (fun q hq => List.mem_cons_of_mem _ hq) ?_
    cases e : f x with
    | none =>
      rw [List.filterMap_cons, e] at h
      rw [List.length_cons] at hl
      exact lc_pure hD hP (fun y hy => hs y (List.mem_cons_of_mem _ hy)) (by omega) h
    | some d =>
      rw [List.filterMap_cons, e] at h
      rw [List.length_cons] at hl
      refine ⟨List.mem_cons_self .., by omega, ?_⟩
      rw [oset_cons_self hD]
      refine lc_pure hD hP (fun y hy => hs y (List.mem_cons_of_mem _ hy)) ?_ ?_
      · rw [List.length_append, List.length_singleton]; omega
      · rw [List.append_assoc]; exact h
/-- .. whose turns keep a word -/
theorem lc_inv {step : B → Ow → (Option D → Ow → Prop) → Prop} {P : Ow → Prop} {Dl : Addr} {O : Ow} {R : DK} (hD : ∀ q ∈ O, q.1 ≠ Dl) (hP : ∀ O', (∀ q ∈ O, q ∈ O') → P O') (I : List B → List D → Prop) : ∀ {xs : List B} {acc : List D},
    (∀ x ys acc (K : Option D → Ow → Prop), I (x :: ys) acc → (∀ o : Option D, I ys (acc ++ o.toList) → K o ((Dl, .lst acc) :: O)) → step x ((Dl, .lst acc) :: O) K) → acc.length + xs.length ≤ sizeLine → I xs acc → (∀ acc, I [] acc → R (.d (.lst acc)) O ∨ R (.v (.ref Dl)) ((Dl, .lst acc) :: O)) → lcGo step P Dl xs acc ((Dl, .lst acc) :: O) R
  | [], acc, _, _, h, hr => by
    refine ⟨hP _ fun q hq => List.mem_cons_of_mem _ hq, List.mem_cons_self .., ?_⟩
    rw [odel_cons_self hD]
    exact hr _ h
  | x :: xs, acc, hs, hl, h, hr => by
    rw [List.length_cons] at hl
    refine ⟨hP _ fun q hq => List.mem_cons_of_mem _ hq, ?_⟩
    refine hs x xs acc _ h fun o ho => ?_
    cases o with
    | none =>
      have ho' : I xs acc := by simpa using ho
      exact lc_inv hD hP I hs (by omega) ho' hr
    | some d =>
      refine ⟨List.mem_cons_self .., by omega, ?_⟩
      rw [oset_cons_self hD]
      exact lc_inv hD hP I hs (by rw [List.length_append, List.length_singleton]; omega) (by simpa using ho) hr

end

/-! ### what a def promises -/
/-- by data: what stands around, the arguments, what is owned, what is wanted -/
abbrev FSp := Tb → List B → Ow → DK → DX → Prop
def lift (tabs : List (Addr × Str)) (K : PySem.W.Frag) (F : FSp) : Sp := fun vs H Q E => ∃ scr G bs O R RX, RBs G vs bs ∧ Sep ⟨tabs, K, scr⟩ G H O ∧ F ⟨tabs, K, scr⟩ bs O R RX ∧ Post ⟨tabs, K, scr⟩ G R Q ∧ XPost ⟨tabs, K, scr⟩ G RX E
def startR (N : List Str) (bs : List B) : Ro := bs.map some ++ List.replicate (N.length - bs.length) none
theorem ev_start {G : Hp} {N : List Str} {vs : List V} {bs : List B} (r : RBs G vs bs) : Ev G (L2.start N vs) (startR N bs) := fun i b h => by
  unfold startR at h
  rw [List.getElem?_append] at h
  split at h
  · rename_i hi
    rw [List.length_map] at hi
    rw [List.getElem?_map] at h
    cases e : bs[i]? with
    | none => rw [e] at h; cases h
    | some c =>
      rw [e] at h
      have ec : c = b := Option.some.inj (Option.some.inj h)
      subst ec
      obtain ⟨v, e1, r1⟩ := r.get e
      refine ⟨v, ?_, r1⟩
      unfold L2.start
      rw [List.getElem?_append_left (by rw [List.length_map, r.len]; exact hi), List.getElem?_map, e1]
      rfl
  · rw [List.getElem?_replicate] at h
    split at h <;> cases h
/-- what a body is to reach -/
abbrev ends0 (R : DK) (RX : DX) : DEnds := ⟨fun _ O => ∃ O', O'.Sublist O ∧ R (.d .non) O', R, fun _ _ => False, fun _ _ => False, fun x _ O => RX x O⟩
abbrev wE (E : XK) : WX := fun c d _ H => E c d H
section
variable {P : Program} {w : World} {K : PySem.W.Frag} {mg : Str → Option Value} {base : Heap} {tabs : List (Addr × Str)} {x qual : Str} {st : Stmt} {f : Addr} {fd : FuncData} {N ps : List Str} {k : Nat} {F : FSp}
/-- THE RULE for a def: its body by data -/
theorem fn_dl {δ : Tb → DTS} (Fn : Fun K x qual st f fd) (S : FnScope N ps (defScope st)) (len : ∀ T bs O R RX, F T bs O R RX → bs.length = ps.length)
    (hbody : ∀ (cdv : Value) (A : Around) (outer : List Env) (s : Shared) (H : Hp) (E : XK) (T : Tb), T.K = K → T.tabs = tabs → Room k (A.deeper (envOfC qual (defScope st) s.heap.objs.size f cdv)) → PySem.W.codeIn K cdv qual = true →
      Takes (cxOf (L2.CX P w) P w K mg base N qual (defScope st) f cdv A outer s H E) (wE E) → PassesOwn (model P w) (A.deeper (envOfC qual (defScope st) s.heap.objs.size f cdv)) (envOfC qual (defScope st) s.heap.objs.size f cdv) (cxOf (L2.CX P w) P w K mg base N qual (defScope st) f cdv A outer s H E).xe →
      N.Nodup → DSs (cxOf (L2.CX P w) P w K mg base N qual (defScope st) f cdv A outer s H E) T (wE E) (defBody st) (δ T))
    (hd : ∀ T bs O R RX, T.K = K → T.tabs = tabs → F T bs O R RX → δ T (ends0 R RX) (startR N bs) O) : FnOk P w K mg base (L2.CX P w) (k + 1) f fd ps (lift tabs K F) := by
  obtain ⟨oc, od, kV, doc, pm, an, cdv, ct, osl, rfl, lk, hcd⟩ := Fn.ex
  refine fn_of lk hcd S (fun vs H Q E ⟨scr, G, bs, O, R, RX, r, _, hF, _⟩ => by rw [r.len]; exact len _ _ _ _ _ hF) (fun A outer s H vs Q E hr ⟨scr, G, bs, O, R, RX, r, S0, hF, hp, hx⟩ => ?_)
  refine ⟨_, hbody cdv A outer s H E ⟨tabs, K, scr⟩ rfl rfl hr hcd (takes_of rfl rfl rfl rfl) (passes_of rfl) S.nd, ?_⟩
  refine ⟨G, startR N bs, O, ends0 R RX, S0, ev_start r, hd _ _ _ _ _ rfl rfl hF, ⟨fun ρ1 O1 σ1 G1 H1 ⟨O2, hs, h1⟩ s1 S1 E1 => ?_, hp, fun _ _ _ _ _ z => z.elim, fun _ _ _ _ _ z => z.elim, fun x ρ1 O1 c d σ1 G1 H1 h1 s1 S1 x1 E1 => hx x O1 c d G1 H1 h1 s1 S1 x1⟩⟩
  exact hp _ _ _ _ _ h1 s1 (S1.sublist hs) (by simp only [RB, Rp])
end

/-! ### calls -/
/-- a def that may be called by its name -/
structure CalD (P : Program) (w : World) (K : PySem.W.Frag) (mg : Str → Option Value) (base : Heap) (tabs : List (Addr × Str)) (k : Nat) (x : Str) (F : FSp) : Prop where
  ex : ∃ (f : Addr) (fd : FuncData) (ps : List Str), FnOk P w K mg base (L2.CX P w) k f fd ps (lift tabs K F) ∧ mg x = some (.ref f) ∧ PySem.W.keepIn K (.ref f) = true ∧ Binds K fd ps []
section
variable {X : Cx} {T : Tb} {W : WX} {e : Expr} {es : List Expr} {η : DTA} {p pos : Pos} {x : Str} {F : FSp} {k j : Nat}
abbrev dCall (F : FSp) (T : Tb) (η : DTA) : DTE := fun ρ O R RX => η ρ O (fun bs O1 => F T bs O1 R RX) RX
theorem lift_of {G H : Hp} {vs : List V} {bs : List B} {O : Ow} {R : DK} {RX : DX} {Q : VK} {E : XK} (S : Sep T G H O) (r : RBs G vs bs) (h : F T bs O R RX) (p : Post T G R Q) (x : XPost T G RX E) : lift T.tabs T.K F vs H Q E :=
  ⟨T.scr, G, bs, O, R, RX, r, S, h, p, x⟩
theorem de_call {tabs : List (Addr × Str)} (hT : T.tabs = tabs) (hK : T.K = X.K) (c : CalD X.prog X.w X.K X.mg X.base tabs k x F) (hr : Room j X.A) (hk : k ≤ j) (tk : Takes X W) (ha : DA X T W (e :: es) η) (hg : Gl X x := by rfl) (hdb : (x == ("__debug__" : Str)) = false := by decide)
    (he : starEach (e :: es) X.env = (false, eval e X.env) :: starEach es X.env := by rfl) (hpl : (backTo pos (starEach es X.env)).any (·.1) = false := by rfl) :
    DE X T W (.Call (.Name x p) (e :: es) [] pos) (dCall F T η) := by
  obtain ⟨f, fd, ps, F0, hm, hkp, hb⟩ := c.ex
  subst hT
  exact de_of (pe_callS F0 (hr.mono hk) hg hm hkp hb (fun σ => passAt tk σ) ha hdb he hpl) fun G σ H ρ O R RX Q S E d p x => ⟨G, ρ, O, _, RX, S, E, d, (fun bs O1 vs G1 H1 d1 s1 S1 r1 => by
    show lift T.tabs X.K F vs H1 Q (WE W σ)
    rw [← hK]
    exact lift_of S1 r1 d1 (p.mono s1) (x.mono s1)), x⟩
theorem de_call0 {tabs : List (Addr × Str)} (hT : T.tabs = tabs) (hK : T.K = X.K) (c : CalD X.prog X.w X.K X.mg X.base tabs k x F) (hr : Room j X.A) (hk : k ≤ j) (tk : Takes X W) (hg : Gl X x := by rfl) (hdb : (x == ("__debug__" : Str)) = false := by decide) :
    DE X T W (.Call (.Name x p) [] [] pos) (dCall F T dNil) := by
  obtain ⟨f, fd, ps, F0, hm, hkp, hb⟩ := c.ex
  subst hT
  refine ⟨fun pins s σ H Q I ⟨G, ρ, O, R, RX, S, E, d, p, x⟩ => ?_⟩
  refine wpAny_Call_Name_kw (ld_glob I hg hm ?_ hdb)
  refine PySem.W.callWith_K0 I.kIn hkp (run_fnS (us := []) (vs := []) F0 (hr.mono hk) hb (E := WE W) (passAt tk σ) I .nil ?_)
  rw [← hK]
  exact lift_of (bs := []) S trivial d p x
end
end DL
end
section
set_option maxRecDepth 100000
set_option maxHeartbeats 2000000
/-! part g: operators, comparisons, subscripts, slices by data -/
namespace DL
open PySem PySem.Spec PyProof.Rows L2

/-- the list that a value is, owned or not -/
def peekL : B → Ow → List D → Prop
  | .d (.lst xs), _, ys => ys = xs
  | .v (.ref a), O, ys => (a, .lst ys) ∈ O
  | _, _, _ => False
/-- the items of a list or tuple -/
def peekS : B → Ow → List D → Prop
  | .d (.lst xs), _, ys => ys = xs
  | .d (.tup xs), _, ys => ys = xs
  | .v (.ref a), O, ys => (a, .lst ys) ∈ O
  | _, _, _ => False
section
variable {X : Cx} {T : Tb} {W : WX} {pos : Pos}
theorem peekL_ok {G H : Hp} {O : Ow} {v : V} {b : B} {ys : List D} (S : Sep T G H O) (r : RB G v b) (h : peekL b O ys) : ∃ a vs, v = .ref a ∧ H a = some (.lst vs) ∧ vs.length ≤ sizeLine ∧ Rps G vs ys := by
  match b, h with
  | .d (.lst xs), h =>
    have h' : ys = xs := h
    subst h'
    simp only [RB, Rp] at r
    obtain ⟨a, vs, e, h1, z, h3⟩ := r
    exact ⟨a, vs, e, S.sub _ _ h1, z, h3⟩
  | .v (.ref a), h =>
    obtain ⟨vs, e, z, r1⟩ := S.lst h
    exact ⟨a, vs, r, e, z, r1⟩
theorem peekS_ok {K : PySem.W.Frag} {G H : Hp} {O : Ow} {v : V} {b : B} {ys : List D} (S : Sep T G H O) (r : RB G v b) (h : peekS b O ys) : ∃ a vs, v = .ref a ∧ (SqL K H a vs ∨ SqT K H a vs) ∧ vs.length ≤ sizeLine ∧ Rps G vs ys := by
  match b, h with
  | .d (.lst xs), h =>
    have h' : ys = xs := h
    subst h'
    simp only [RB, Rp] at r
    obtain ⟨a, vs, e, h1, z, h3⟩ := r
    exact ⟨a, vs, e, .inl (SqL.of (S.sub _ _ h1)), z, h3⟩
  | .d (.tup xs), h =>
    have h' : ys = xs := h
    subst h'
    simp only [RB, Rp] at r
    obtain ⟨a, vs, e, h1, z, h3⟩ := r
    exact ⟨a, vs, e, .inr (SqT.of (S.sub _ _ h1)), z, h3⟩
  | .v (.ref a), h =>
    obtain ⟨vs, e, z, r1⟩ := S.lst h
    exact ⟨a, vs, r, .inl (SqL.of e), z, r1⟩

/-! ### + - * // % ** - -/
def fAdd : F2
  | .d (.int i), .d (.int j), O, R => R (.d (.int (i + j))) O
  | .d (.tup a), .d (.tup b), O, R => a.length + b.length ≤ sizeLine ∧ R (.d (.tup (a ++ b))) O
  | .d (.str a), .d (.str b), O, R => a.length + b.length ≤ sizeLine ∧ R (.d (.str (a ++ b))) O
  | x, y, O, R => ∃ a b, peekL x O a ∧ peekL y O b ∧ a.length + b.length ≤ sizeLine ∧ (R (.d (.lst (a ++ b))) O ∨ ∀ q, (∀ r ∈ O, r.1 ≠ q) → R (.v (.ref q)) ((q, .lst (a ++ b)) :: O))
def rAdd (K : PySem.W.Frag) : R2 := fun x y H Q => rI0 (fun i j => .int (i + j)) x y H Q ∨ rCatA K x y H Q ∨ rCat x y H Q ∨ (∃ i j, x = .str i ∧ y = .str j ∧ i.length + j.length ≤ sizeLine ∧ Q (.str (i ++ j)) H)
theorem opr_add : OpR X (binaryOp .Add) (rAdd X.K) := OpR.or op_add (OpR.or op_catA (OpR.or op_cat op_add_str))
theorem op2_add {K : PySem.W.Frag} : Op2 T (rAdd K) fAdd := by
  intro G H O x y b c R Q S rb rc h p
  have list : (∃ a b', peekL b O a ∧ peekL c O b' ∧ a.length + b'.length ≤ sizeLine ∧ (R (.d (.lst (a ++ b'))) O ∨ ∀ q, (∀ r ∈ O, r.1 ≠ q) → R (.v (.ref q)) ((q, .lst (a ++ b')) :: O))) → rAdd K x y H Q := by
    rintro ⟨xs, ys, h1, h2, z, hr⟩
    obtain ⟨a1, vs, e1, m1, _, r1⟩ := peekL_ok S rb h1
    obtain ⟨a2, us, e2, m2, _, r2⟩ := peekL_ok S rc h2
    refine .inr (.inr (.inl ⟨a1, a2, vs, us, e1, e2, m1, m2, by rw [r1.len, r2.len]; exact z, fun q hq => ?_⟩))
    rcases hr with hr | hr
    · obtain ⟨S1, s1, rr⟩ := new_lst S (r1.app r2) (by rw [List.length_append]; exact z) hq
      exact p _ _ _ _ _ hr s1 S1 rr
    · exact p _ _ _ _ _ (hr q (S.fresh hq)) (Same.refl _) (S.ownL hq (r1.app r2) (by rw [List.length_append, r1.len, r2.len]; exact z)) rfl
  unfold fAdd at h
  split at h
  · simp only [RB, Rp] at rb rc
    exact .inl ⟨_, _, rb, rc, p _ _ _ _ _ h (Same.refl _) S (by simp only [RB, Rp])⟩
  · rename_i a b'
    simp only [RB, Rp] at rb rc
    obtain ⟨a1, vs, e1, m1, z1, r1⟩ := rb
    obtain ⟨a2, us, e2, m2, z2, r2⟩ := rc
    obtain ⟨z, hr⟩ := h
    refine .inr (.inl ⟨a1, a2, vs, us, e1, e2, SqT.of (S.sub _ _ m1), SqT.of (S.sub _ _ m2), by rw [r1.len, r2.len]; exact z, fun e => ?_, fun _ e => ?_, fun _ _ q hq => ?_⟩)
    · have ea : a = [] := by
        have := r1.len
        rw [e] at this
        exact List.length_eq_zero_iff.mp this.symm
      subst ea
      exact p _ _ _ _ _ hr (Same.refl _) S (by simp only [RB, Rp]; exact ⟨a2, us, rfl, m2, z2, r2⟩)
    · have ea : b' = [] := by
        have := r2.len
        rw [e] at this
        exact List.length_eq_zero_iff.mp this.symm
      subst ea
      rw [List.append_nil] at hr
      exact p _ _ _ _ _ hr (Same.refl _) S (by simp only [RB, Rp]; exact ⟨a1, vs, rfl, m1, z1, r1⟩)
    · obtain ⟨S1, s1, rr⟩ := new_tup S (r1.app r2) (by rw [List.length_append]; exact z) hq
      exact p _ _ _ _ _ hr s1 S1 rr
  · simp only [RB, Rp] at rb rc
    exact .inr (.inr (.inr ⟨_, _, rb, rc, h.1, p _ _ _ _ _ h.2 (Same.refl _) S (by simp only [RB, Rp])⟩))
  · exact list h
/-- a rule for two ints -/
def fI (C : Int → Int → Prop) (g : Int → Int → D) : F2
  | .d (.int i), .d (.int j), O, R => C i j ∧ R (.d (g i j)) O
  | _, _, _, _ => False
def fI0 (g : Int → Int → D) : F2
  | .d (.int i), .d (.int j), O, R => R (.d (g i j)) O
  | _, _, _, _ => False
theorem op2_I {C : Int → Int → Prop} {g : Int → Int → V} {g' : Int → Int → D} (hg : ∀ G i j, Rp G (g i j) (g' i j)) : Op2 T (rI C g) (fI C g') := by
  intro G H O x y b c R Q S rb rc h p
  unfold fI at h
  split at h
  · simp only [RB, Rp] at rb rc
    exact ⟨_, _, rb, rc, h.1, p _ _ _ _ _ h.2 (Same.refl _) S (hg _ _ _)⟩
  · exact h.elim
theorem op2_I0 {g : Int → Int → V} {g' : Int → Int → D} (hg : ∀ G i j, Rp G (g i j) (g' i j)) : Op2 T (rI0 g) (fI0 g') := by
  intro G H O x y b c R Q S rb rc h p
  unfold fI0 at h
  split at h
  · simp only [RB, Rp] at rb rc
    exact ⟨_, _, rb, rc, p _ _ _ _ _ h (Same.refl _) S (hg _ _ _)⟩
  · exact h.elim
def fSub : F2 := fI0 fun i j => .int (i - j)
theorem op2_sub : Op2 T (rI0 fun i j => .int (i - j)) fSub := op2_I0 fun _ _ _ => by simp only [Rp]
def MulOk (i j : Int) : Prop := CMul i j ∨ CMulW i j
def fMul : F2
  | .d (.int i), .d (.int j), O, R => MulOk i j ∧ R (.d (.int (i * j))) O
  | .d (.tup xs), .d (.int k), O, R => xs ≠ [] ∧ 2 ≤ k ∧ k ≤ 1000 ∧ xs.length ≤ 1000 ∧ R (.d (.tup (List.replicate k.toNat xs).flatten)) O
  | _, _, _, _ => False
def rMul (K : PySem.W.Frag) : R2 := fun x y H Q => rI CMul (fun i j => .int (i * j)) x y H Q ∨ rI CMulW (fun i j => .int (i * j)) x y H Q ∨ rRepT K x y H Q
theorem opr_mul : OpR X (binaryOp .Mult) (rMul X.K) := OpR.or op_mul (OpR.or op_mulW op_repT)
theorem len_rep {α : Type} (xs : List α) : ∀ n : Nat, (List.replicate n xs).flatten.length = n * xs.length
  | 0 => by simp
  | n + 1 => by rw [List.replicate_succ, List.flatten_cons, List.length_append, len_rep xs n, Nat.add_mul, Nat.one_mul, Nat.add_comm]
theorem op2_mul {K : PySem.W.Frag} : Op2 T (rMul K) fMul := by
  intro G H O x y b c R Q S rb rc h p
  unfold fMul at h
  split at h
  · simp only [RB, Rp] at rb rc
    rcases h.1 with z | z
    · exact .inl ⟨_, _, rb, rc, z, p _ _ _ _ _ h.2 (Same.refl _) S (by simp only [RB, Rp])⟩
    · exact .inr (.inl ⟨_, _, rb, rc, z, p _ _ _ _ _ h.2 (Same.refl _) S (by simp only [RB, Rp])⟩)
  · rename_i xs k
    simp only [RB, Rp] at rb rc
    obtain ⟨a1, vs, e1, m1, z1, r1⟩ := rb
    obtain ⟨h0, h1, h2, h3, hr⟩ := h
    refine .inr (.inr ⟨a1, k, vs, e1, rc, SqT.of (S.sub _ _ m1), fun e => h0 ?_, h1, h2, by rw [r1.len]; exact h3, fun q hq => ?_⟩)
    · have := r1.len
      rw [e] at this
      exact List.length_eq_zero_iff.mp this.symm
    · obtain ⟨S1, s1, rr⟩ := new_tup S (r1.rep k.toNat) (by
        rw [len_rep, sizeLine_eq]
        have hk : k.toNat ≤ 1000 := by omega
        have := Nat.mul_le_mul hk h3
        omega) hq
      exact p _ _ _ _ _ hr s1 S1 rr
  · exact h.elim
def fDiv : F2 := fI CDivW fun i j => .int (i / j)
theorem op2_div : Op2 T (rI CDivW fun i j => .int (i / j)) fDiv := op2_I fun _ _ _ => by simp only [Rp]
def fMod : F2 := fI (fun _ j => 0 < j) fun i j => .int (i % j)
theorem op2_mod : Op2 T (rI (fun _ j => 0 < j) fun i j => .int (i % j)) fMod := op2_I fun _ _ _ => by simp only [Rp]
def fPow : F2 := fI CPow fun i j => .int (i ^ j.toNat)
theorem op2_pow : Op2 T (rI CPow fun i j => .int (i ^ j.toNat)) fPow := op2_I fun _ _ _ => by simp only [Rp]
def fNeg : F1
  | .d (.int i), O, R => R (.d (.int (-i))) O
  | _, _, _ => False
theorem op1_neg : Op1 T (rU fun i => .int (-i)) fNeg := by
  intro G H O x b R Q S rb h p
  unfold fNeg at h
  split at h
  · simp only [RB, Rp] at rb
    exact ⟨_, rb, p _ _ _ _ _ h (Same.refl _) S (by simp only [RB, Rp])⟩
  · exact h.elim
def fIadd : F2 := fI0 fun i j => .int (i + j)
theorem op2_iadd : Op2 T (rI0 fun i j => .int (i + j)) fIadd := op2_I0 fun _ _ _ => by simp only [Rp]

/-! ### comparisons -/
def fLt : F2 := fI0 fun i j => .bl (decide (i < j))
def fLe : F2 := fI0 fun i j => .bl (decide (i ≤ j))
def fGt : F2 := fI0 fun i j => .bl (decide (j < i))
def fGe : F2 := fI0 fun i j => .bl (decide (j ≤ i))
theorem op2_lt : Op2 T (rI0 fun i j => .bl (decide (i < j))) fLt := op2_I0 fun _ _ _ => by simp only [Rp]
theorem op2_le : Op2 T (rI0 fun i j => .bl (decide (i ≤ j))) fLe := op2_I0 fun _ _ _ => by simp only [Rp]
theorem op2_gt : Op2 T (rI0 fun i j => .bl (decide (j < i))) fGt := op2_I0 fun _ _ _ => by simp only [Rp]
theorem op2_ge : Op2 T (rI0 fun i j => .bl (decide (j ≤ i))) fGe := op2_I0 fun _ _ _ => by simp only [Rp]
def isNone : B → Bool
  | .d .non => true
  | .v .non => true
  | _ => false
theorem isNone_ok {G : Hp} {v : V} {b : B} (r : RB G v b) : decide (v = .non) = isNone b := by
  cases b with
  | v x =>
    have e : v = x := r
    subst e
    cases v <;> simp [isNone]
  | d x =>
    cases x <;> simp only [RB, Rp] at r <;> simp only [isNone]
    · subst r; rfl
    · subst r; rfl
    · subst r; rfl
    · subst r; rfl
    · obtain ⟨_, _, e, _⟩ := r; subst e; rfl
    · obtain ⟨_, _, e, _⟩ := r; subst e; rfl
    · obtain ⟨_, e, _⟩ := r; subst e; rfl
    · obtain ⟨_, _, _, e, _⟩ := r; subst e; rfl
    · obtain ⟨_, _, _, e, _⟩ := r; subst e; rfl
def fIs : F2
  | x, .d .non, O, R => R (.d (.bl (isNone x))) O
  | .d (.bl a), .d (.bl b), O, R => R (.d (.bl (decide (a = b)))) O
  | _, _, _, _ => False
def fIsNot : F2
  | x, .d .non, O, R => R (.d (.bl (!isNone x))) O
  | .d (.bl a), .d (.bl b), O, R => R (.d (.bl (!decide (a = b)))) O
  | _, _, _, _ => False
def rIs : R2 := fun x y H Q => (y = .non ∧ Q (.bl (decide (x = .non))) H) ∨ rIsB x y H Q
def rIsNot : R2 := fun x y H Q => (y = .non ∧ Q (.bl (!decide (x = .non))) H) ∨ rNotB x y H Q
theorem opr_is : OpR X (compareOp .Is) rIs := OpR.or op_isN op_isBl
theorem opr_isNot : OpR X (compareOp .IsNot) rIsNot := OpR.or op_notN op_notBl
theorem op2_is : Op2 T rIs fIs := by
  intro G H O x y b c R Q S rb rc h p
  unfold fIs at h
  split at h
  · simp only [RB, Rp] at rc
    refine .inl ⟨rc, ?_⟩
    rw [isNone_ok rb]
    exact p _ _ _ _ _ h (Same.refl _) S (by simp only [RB, Rp])
  · simp only [RB, Rp] at rb rc
    exact .inr ⟨_, _, rb, rc, p _ _ _ _ _ h (Same.refl _) S (by simp only [RB, Rp])⟩
  · exact h.elim
theorem op2_isNot : Op2 T rIsNot fIsNot := by
  intro G H O x y b c R Q S rb rc h p
  unfold fIsNot at h
  split at h
  · simp only [RB, Rp] at rc
    refine .inl ⟨rc, ?_⟩
    rw [isNone_ok rb]
    exact p _ _ _ _ _ h (Same.refl _) S (by simp only [RB, Rp])
  · simp only [RB, Rp] at rb rc
    exact .inr ⟨_, _, rb, rc, p _ _ _ _ _ h (Same.refl _) S (by simp only [RB, Rp])⟩
  · exact h.elim

/-! ### == of data -/
mutual
def dpy : D → Option PyData
  | .non => some .none
  | .bl b => some (.bool b)
  | .int i => some (.int i)
  | .str s => some (.str s)
  | .tup xs => (dpys xs).map .tuple
  | .lst xs => (dpys xs).map .list
  | .emp => none
  | .ins _ _ _ => none
  | .exc _ _ _ => none
def dpys : List D → Option (List PyData)
  | [] => some []
  | x :: xs => (dpy x).bind fun p => (dpys xs).map fun ps => p :: ps
end
mutual
theorem dp_ok {K : PySem.W.Frag} {G H : Hp} (s : Same G H) : ∀ {d : D} {v : V} {p : PyData}, Rp G v d → dpy d = some p → Dp K H v p
  | .non, v, p, r, e => by simp only [Rp] at r; simp only [dpy] at e; cases e; subst r; exact .non
  | .bl b, v, p, r, e => by simp only [Rp] at r; simp only [dpy] at e; cases e; subst r; exact .bl b
  | .int i, v, p, r, e => by simp only [Rp] at r; simp only [dpy] at e; cases e; subst r; exact .int i
  | .str x, v, p, r, e => by simp only [Rp] at r; simp only [dpy] at e; cases e; subst r; exact .str x
  | .tup xs, v, p, r, e => by
    simp only [Rp] at r
    simp only [dpy] at e
    obtain ⟨a, vs, rfl, h1, _, h3⟩ := r
    cases q : dpys xs with
    | none => rw [q] at e; cases e
    | some ps => rw [q] at e; cases e; exact .tup (SqT.of (s _ _ h1)) (dps_ok s h3 q)
  | .lst xs, v, p, r, e => by
    simp only [Rp] at r
    simp only [dpy] at e
    obtain ⟨a, vs, rfl, h1, _, h3⟩ := r
    cases q : dpys xs with
    | none => rw [q] at e; cases e
    | some ps => rw [q] at e; cases e; exact .lst (SqL.of (s _ _ h1)) (dps_ok s h3 q)
  | .emp, v, p, r, e => by simp only [dpy] at e; cases e
  | .ins _ _ _, v, p, r, e => by simp only [dpy] at e; cases e
  | .exc _ _ _, v, p, r, e => by simp only [dpy] at e; cases e
theorem dps_ok {K : PySem.W.Frag} {G H : Hp} (s : Same G H) : ∀ {ds : List D} {vs : List V} {ps : List PyData}, Rps G vs ds → dpys ds = some ps → DpAll K H vs ps
  | [], [], ps, _, e => by simp only [dpys] at e; cases e; exact .nil
  | d :: ds, v :: vs, ps, r, e => by
    simp only [dpys] at e
    cases q : dpy d with
    | none => rw [q] at e; cases e
    | some p =>
      cases q2 : dpys ds with
      | none => rw [q, q2] at e; cases e
      | some qs =>
        rw [q, q2] at e; cases e
        exact .cons (dp_ok s r.inv.1 q) (dps_ok s r.inv.2 q2)
  | [], _ :: _, _, r, _ => by simp only [Rps] at r
  | _ :: _, [], _, r, _ => by simp only [Rps] at r
end
/-- what a value is as Python's data, an owned list too -/
def pyB : B → Ow → PyData → Prop
  | .d x, _, p => dpy x = some p
  | .v (.ref a), O, p => ∃ xs, (a, .lst xs) ∈ O ∧ dpy (.lst xs) = some p
  | _, _, _ => False
theorem pyB_ok {K : PySem.W.Frag} {G H : Hp} {O : Ow} {v : V} {b : B} {p : PyData} (S : Sep T G H O) (r : RB G v b) (h : pyB b O p) : Dp K H v p := by
  match b, h with
  | .d x, h => exact dp_ok S.sub r h
  | .v (.ref a), ⟨xs, m, h⟩ =>
    obtain ⟨vs, e, z, r1⟩ := S.lst m
    have ev : v = .ref a := r
    subst ev
    simp only [dpy] at h
    cases q : dpys xs with
    | none => rw [q] at h; cases h
    | some ps =>
      rw [q] at h; cases h
      exact .lst (SqL.of e) (dps_ok S.sub r1 q)
def eqS : D → D → Option Bool
  | .int i, .int j => some (decide (i = j))
  | .str i, .str j => some (decide (i = j))
  | .bl i, .bl j => some (decide (i = j))
  | .non, .non => some true
  | .non, .int _ => some false
  | .int _, .non => some false
  | .int _, .str _ => some false
  | .str _, .int _ => some false
  | _, _ => none
def fEqN (neg : Bool) : F2 := fun x y O R => (∃ d e k, x = .d d ∧ y = .d e ∧ eqS d e = some k ∧ R (.d (.bl (if neg then !k else k))) O) ∨
  (∃ p q, pyB x O p ∧ pyB y O q ∧ SeqAt.shaped p = true ∧ SeqAt.shaped q = true ∧ R (.d (.bl (if neg then !PyData.eqv p q else PyData.eqv p q))) O)
def fEq : F2 := fEqN false
def fNe : F2 := fEqN true
def rEqB (K : PySem.W.Frag) : R2 := fun x y H Q => rEq x y H Q ∨ rEqD K x y H Q
def rNeB (K : PySem.W.Frag) : R2 := fun x y H Q => rNe x y H Q ∨ rNeD K x y H Q
theorem opr_eq (hu : X.A.units + 64 < cLine) : OpR X (compareOp .Eq) (rEqB X.K) := OpR.or op_eq (op_eqD hu)
theorem opr_ne (hu : X.A.units + 64 < cLine) : OpR X (compareOp .NotEq) (rNeB X.K) := OpR.or op_ne (op_neD hu)
theorem eqS_ok {G : Hp} {x y : V} {d e : D} {k : Bool} (rx : Rp G x d) (ry : Rp G y e) (h : eqS d e = some k) : scal x y = true ∧ decide (x = y) = k := by
  unfold eqS at h
  split at h <;> (try cases h) <;> simp only [Rp] at rx ry <;> subst rx <;> subst ry <;> (refine ⟨rfl, ?_⟩) <;> simp
theorem op2_eq {K : PySem.W.Frag} : Op2 T (rEqB K) fEq := by
  intro G H O x y b c R Q S rb rc h p
  rcases h with ⟨d, e, k, rfl, rfl, h, hr⟩ | ⟨d, e, h1, h2, h3, h4, hr⟩
  · obtain ⟨q1, q2⟩ := eqS_ok rb rc h
    refine .inl ⟨q1, ?_⟩
    rw [q2]
    exact p _ _ _ _ _ hr (Same.refl _) S (by simp [RB, Rp])
  · exact .inr ⟨d, e, pyB_ok S rb h1, pyB_ok S rc h2, h3, h4, p _ _ _ _ _ hr (Same.refl _) S (by simp [RB, Rp])⟩
theorem op2_ne {K : PySem.W.Frag} : Op2 T (rNeB K) fNe := by
  intro G H O x y b c R Q S rb rc h p
  rcases h with ⟨d, e, k, rfl, rfl, h, hr⟩ | ⟨d, e, h1, h2, h3, h4, hr⟩
  · obtain ⟨q1, q2⟩ := eqS_ok rb rc h
    refine .inl ⟨q1, ?_⟩
    rw [q2]
    exact p _ _ _ _ _ hr (Same.refl _) S (by simp [RB, Rp])
  · exact .inr ⟨d, e, pyB_ok S rb h1, pyB_ok S rc h2, h3, h4, p _ _ _ _ _ hr (Same.refl _) S (by simp [RB, Rp])⟩

/-! ### in -/
def flatD : D → Bool
  | .non => true
  | .bl _ => true
  | .int _ => true
  | .str _ => true
  | _ => false
def eqF : D → D → Bool
  | .non, .non => true
  | .bl a, .bl b => a == b
  | .bl a, .int b => (if a then 1 else 0) == b
  | .int a, .bl b => a == (if b then 1 else 0)
  | .int a, .int b => a == b
  | .str a, .str b => a == b
  | _, _ => false
theorem flat_ok {G : Hp} {v : V} {d : D} (r : Rp G v d) (h : flatD d = true) : flatV v = true := by
  cases d <;> simp only [flatD] at h <;> simp only [Rp] at r <;> (try subst r) <;> (try rfl) <;> cases h
theorem eqF_ok {G : Hp} {v w : V} {d e : D} (r : Rp G v d) (r' : Rp G w e) (h : flatD d = true) (h' : flatD e = true) : eqV v w = eqF d e := by
  cases d <;> simp only [flatD] at h <;> (try cases h) <;> cases e <;> simp only [flatD] at h' <;> (try cases h') <;> simp only [Rp] at r r' <;> subst r <;> subst r' <;> rfl
theorem flats_ok {G : Hp} {x : V} {d : D} (rx : Rp G x d) (hd : flatD d = true) : ∀ {ds : List D} {vs : List V}, Rps G vs ds → ds.all flatD = true → vs.all flatV = true ∧ inV x vs = ds.any fun y => eqF y d
  | [], [], _, _ => ⟨rfl, rfl⟩
  | e :: ds, v :: vs, r, h => by
    rw [List.all_cons, Bool.and_eq_true] at h
    obtain ⟨h1, h2⟩ := flats_ok rx hd r.inv.2 h.2
    refine ⟨by rw [List.all_cons, flat_ok r.inv.1 h.1, h1]; rfl, ?_⟩
    show (eqV v x || inV x vs) = _
    rw [h2, eqF_ok r.inv.1 rx h.1 hd, List.any_cons]
  | [], _ :: _, r, _ => by simp only [Rps] at r
  | _ :: _, [], r, _ => by simp only [Rps] at r
def fIn (neg : Bool) : F2
  | .d x, y, O, R => ∃ ys, peekS y O ys ∧ flatD x = true ∧ ys.all flatD = true ∧ R (.d (.bl (if neg then !(ys.any fun y => eqF y x) else ys.any fun y => eqF y x))) O
  | _, _, _, _ => False
theorem op2_in {K : PySem.W.Frag} {neg : Bool} : Op2 T (rIn K neg) (fIn neg) := by
  intro G H O x y b c R Q S rb rc h p
  match b, h with
  | .d d, ⟨ys, h1, h2, h3, hr⟩ =>
    obtain ⟨a, vs, e, q, _, r⟩ := peekS_ok (K := K) S rc h1
    obtain ⟨f1, f2⟩ := flats_ok rb h2 r h3
    refine ⟨a, vs, e, q, flat_ok rb h2, f1, ?_⟩
    rw [f2]
    exact p _ _ _ _ _ hr (Same.refl _) S (by simp only [RB]; cases neg <;> simp [Rp])

/-! ### xs[i] -/
variable {a b e : Expr} {α β : DTE}
theorem atI_ok {G : Hp} {vs : List V} {ds : List D} {i : Int} {d : D} (r : Rps G vs ds) (h : atI ds i = some d) : ∃ v, atI vs i = some v ∧ Rp G v d := by
  unfold atI at h ⊢
  rw [r.len]
  cases e : ixN ds.length i with
  | none => rw [e] at h; cases h
  | some j =>
    rw [e] at h
    exact r.get h
def fIx : F2
  | x, .d (.int i), O, R => ∃ ys d, peekS x O ys ∧ atI ys i = some d ∧ R (.d d) O
  | _, _, _, _ => False
def rIxB (K : PySem.W.Frag) : R2 := fun x y H Q => rIxL K x y H Q ∨ rIxT K x y H Q
theorem op2_ix {K : PySem.W.Frag} : Op2 T (rIxB K) fIx := by
  intro G H O x y b c R Q S rb rc h p
  unfold fIx at h
  split at h
  · obtain ⟨ys, d, h1, h2, hr⟩ := h
    simp only [RB, Rp] at rc
    obtain ⟨a, vs, e, q, _, r⟩ := peekS_ok (K := K) S rb h1
    obtain ⟨v, hv, rv⟩ := atI_ok r h2
    rcases q with q | q
    · exact .inl ⟨a, vs, _, v, e, rc, q, hv, p _ _ _ _ _ hr (Same.refl _) S rv⟩
    · exact .inr ⟨a, vs, _, v, e, rc, q, hv, p _ _ _ _ _ hr (Same.refl _) S rv⟩
  · exact h.elim
theorem de_ix (ha : DE X T W a α) (hb : DE X T W b β) (hs : PlainIx b := by exact fun _ _ => rfl) : DE X T W (.Subscript a b pos) (dOp fIx α β) :=
  de_of (pe_ix (IxR.or ix_list ix_tup) ha hb hs) fun _ _ _ _ _ _ _ _ S E d p x => can2 op2_ix S E d p x

/-! ### xs[lo:hi] -/
abbrev DTO := Ro → Ow → (Option Int → Ow → Prop) → DX → Prop
def canO (T : Tb) (W : WX) (δ : DTO) : TO := fun σ H Q => ∃ G ρ O R RX, Sep T G H O ∧ Ev G σ ρ ∧ δ ρ O R RX ∧ (∀ b O G' H, R b O → Same G G' → Sep T G' H O → Q b H) ∧ XPost T G RX (wx W σ)
def DOp (X : Cx) (T : Tb) (W : WX) (e : Option Expr) (δ : DTO) : Prop := PO X e (canO T W δ)
abbrev dNoPart : DTO := fun _ O R _ => R none O
abbrev dPart (α : DTE) : DTO := fun ρ O R RX => α ρ O (fun b O1 => ∃ i, b = .d (.int i) ∧ R (some i) O1) RX
theorem do_none : DOp X T W none dNoPart := ⟨fun pins s σ H Q I ⟨G, ρ, O, R, RX, S, E, d, p, x⟩ => po_none.run pins s σ H Q I (p _ _ _ _ d (Same.refl _) S)⟩
theorem do_some (h : DE X T W e α) : DOp X T W (some e) (dPart α) := ⟨fun pins s σ H Q I ⟨G, ρ, O, R, RX, S, E, d, p, x⟩ => (po_some h).run pins s σ H Q I ⟨G, ρ, O, _, RX, S, E, d, fun b O1 v G1 H1 ⟨i, e, d1⟩ s1 S1 r1 => by
  subst e
  simp only [RB, Rp] at r1
  exact ⟨i, r1, p _ _ _ _ d1 s1 S1⟩, x⟩⟩
def cutD (xs : List D) (lo hi : Option Int) : List D := (xs.drop (HT.sIx xs.length 0 lo)).take (HT.sIx xs.length xs.length hi - HT.sIx xs.length 0 lo)
theorem cut_ok {G : Hp} {vs : List V} {ds : List D} (r : Rps G vs ds) (lo hi : Option Int) : Rps G (cutV vs lo hi) (cutD ds lo hi) := by
  unfold cutV cutD
  rw [r.len]
  exact (r.drop _).take _
theorem cutD_len (xs : List D) (lo hi : Option Int) : (cutD xs lo hi).length ≤ xs.length := by
  unfold cutD
  rw [List.length_take, List.length_drop]
  omega
def fSl : B → Option Int → Option Int → Ow → DK → Prop
  | .d (.tup xs), lo, hi, O, R => R (.d (.tup (cutD xs lo hi))) O
  | x, lo, hi, O, R => ∃ xs, peekL x O xs ∧ R (.d (.lst (cutD xs lo hi))) O
def rSlB (K : PySem.W.Frag) : V → Option Int → Option Int → Hp → VK → Prop := fun x lo hi H Q => rSlL K x lo hi H Q ∨ rSlA K x lo hi H Q
theorem fSl_ok {K : PySem.W.Frag} {G H : Hp} {O : Ow} {v : V} {b : B} {lo hi : Option Int} {R : DK} {Q : VK} (S : Sep T G H O) (rb : RB G v b) (h : fSl b lo hi O R) (p : Post T G R Q) : rSlB K v lo hi H Q := by
  unfold fSl at h
  split at h
  · rename_i xs
    simp only [RB, Rp] at rb
    obtain ⟨a, vs, e, h1, z, r⟩ := rb
    refine .inr ⟨a, vs, e, SqT.of (S.sub _ _ h1), fun w => ?_, fun _ q hq => ?_⟩
    · have ew : cutD xs lo hi = xs := by
        unfold cutD
        rw [← r.len, w.1, w.2, List.drop_zero, Nat.sub_zero, r.len, List.take_length]
      rw [ew] at h
      exact p _ _ _ _ _ h (Same.refl _) S (by simp only [RB, Rp]; exact ⟨a, vs, rfl, h1, z, r⟩)
    · obtain ⟨S1, s1, rr⟩ := new_tup S (cut_ok r lo hi) (Nat.le_trans (cutD_len _ _ _) (by rw [← r.len]; exact z)) hq
      exact p _ _ _ _ _ h s1 S1 rr
  · obtain ⟨xs, h1, h⟩ := h
    obtain ⟨a, vs, e, h1, z, r⟩ := peekL_ok S rb h1
    refine .inl ⟨a, vs, e, SqL.of h1, fun q hq => ?_⟩
    obtain ⟨S1, s1, rr⟩ := new_lst S (cut_ok r lo hi) (Nat.le_trans (cutD_len _ _ _) (by rw [← r.len]; exact z)) hq
    exact p _ _ _ _ _ h s1 S1 rr
abbrev dSl (α : DTE) (φ ψ : DTO) : DTE := fun ρ O R RX => α ρ O (fun b O1 => φ ρ O1 (fun lo O2 => ψ ρ O2 (fun hi O3 => fSl b lo hi O3 R) RX) RX) RX
theorem de_slice {lo hi : Option Expr} {φ ψ : DTO} {p2 : Pos} (he : DE X T W e α) (hl : DOp X T W lo φ) (hu : DOp X T W hi ψ) : DE X T W (.Subscript e (.Slice lo hi none p2) pos) (dSl α φ ψ) :=
  de_of (pe_slice (SlR.or sl_list sl_tupA) he hl hu) fun G σ H ρ O R RX Q S E d p x => ⟨G, ρ, O, _, RX, S, E, d, fun b O1 v G1 H1 d1 s1 S1 r1 => ⟨G1, ρ, O1, _, RX, S1, E.mono s1, d1, fun l O2 G2 H2 d2 s2 S2 =>
    ⟨G2, ρ, O2, _, RX, S2, E.mono (s1.trans s2), d2, fun u O3 G3 H3 d3 s3 S3 => fSl_ok S3 (r1.mono (s2.trans s3)) d3 (p.mono ((s1.trans s2).trans s3)), x.mono (s1.trans s2)⟩, x.mono s1⟩, x⟩
end
end DL
end
section
set_option maxRecDepth 100000
set_option maxHeartbeats 2000000
/-! part h: built-in functions and methods, stores, fields by data -/
namespace DL
open PySem PySem.Spec PyProof.Rows L2

section
variable {X : Cx} {T : Tb} {W : WX} {pos p apos : Pos} {a b e o : Expr} {es : List Expr} {α β θ : DTE} {η : DTA} {x : Str}

theorem da_star {p : Pos} (he : DE X T W e α) (hr : DA X T W es η) (hs : starEach (.Starred e p :: es) X.env = (true, eval e X.env) :: starEach es X.env := by rfl) : DA X T W (.Starred e p :: es) (dStar α η) :=
  pa_imp (StX.pa_star he hr hs) fun σ H Q ⟨G, ρ, O, R, RX, S, E, d, p, x⟩ => ⟨G, ρ, O, _, RX, S, E, d, (fun b O1 v G1 H1 d1 s1 S1 r1 => by
    have key : ∀ (a : Addr) (vs : List V) (ds : List D), v = .ref a → (SqT X.K H1 a vs ∨ SqL X.K H1 a vs) → Rps G1 vs ds → η ρ O1 (fun xs O2 => R (ds.map B.d ++ xs) O2) RX → ∃ a vs, v = .ref a ∧ (SqT X.K H1 a vs ∨ SqL X.K H1 a vs) ∧ canA T W η σ H1 fun us H2 => Q (vs ++ us) H2 := fun a vs ds ev hq rr d1 =>
      ⟨a, vs, ev, hq, G1, ρ, O1, _, RX, S1, E.mono s1, d1, fun bs O2 us G2 H2 d2 s2 S2 r2 => p _ _ _ _ _ d2 (s1.trans s2) S2 ((RBs.ofData (rr.mono s2)).app r2), x.mono s1⟩
    replace d1 : fStar b O1 (fun ys => η ρ O1 (fun xs O2 => R (ys ++ xs) O2) RX) := d1
    unfold fStar at d1
    split at d1
    · simp only [RB, Rp] at r1
      obtain ⟨a, vs, e1, m1, z1, r1⟩ := r1
      exact key a vs _ e1 (.inl (SqT.of (S1.sub _ _ m1))) r1 d1
    · simp only [RB, Rp] at r1
      obtain ⟨a, vs, e1, m1, z1, r1⟩ := r1
      exact key a vs _ e1 (.inr (SqL.of (S1.sub _ _ m1))) r1 d1
    · obtain ⟨xs, m, d1⟩ := d1
      obtain ⟨us, e1, z1, r2⟩ := S1.lst m
      exact key _ us _ r1 (.inr (SqL.of e1)) r2 d1
    · exact d1.elim), x⟩

/-! ### built-in functions and types -/
abbrev FC := List B → Ow → DK → Prop
def OpC (T : Tb) (r : List V → Hp → VK → Prop) (g : FC) : Prop := ∀ G H O vs bs R Q, Sep T G H O → RBs G vs bs → g bs O R → Post T G R Q → r vs H Q
abbrev dCB (g : FC) (η : DTA) : DTE := fun ρ O R RX => η ρ O (fun bs O1 => g bs O1 R) RX
theorem de_callB {id : String} {r : List V → Hp → VK → Prop} {g : FC} (hc : CallR X (.builtin id) r) (hd : OpC T r g) (hm : X.mg x = none) (hv : bootBuiltins x = some (.builtin id)) (ha : DA X T W (e :: es) η) (hg : Gl X x := by rfl) (hn : x ≠ "__name__" := by decide) (hdb : (x == ("__debug__" : Str)) = false := by decide)
    (he : starEach (e :: es) X.env = (false, eval e X.env) :: starEach es X.env := by rfl) (hpl : (backTo pos (starEach es X.env)).any (·.1) = false := by rfl) : DE X T W (.Call (.Name x p) (e :: es) [] pos) (dCB g η) :=
  de_of (pe_callB hc hg hm hv ha hn hdb he hpl) fun G σ H ρ O R RX Q S E d p x => ⟨G, ρ, O, _, RX, S, E, d, (fun bs O1 vs G1 H1 d1 s1 S1 r1 => hd G1 H1 O1 vs bs R Q S1 r1 d1 (p.mono s1)), x⟩
theorem de_callTy {Ty : String} {r : List V → Hp → VK → Prop} {g : FC} (hc : CallR X (.type Ty) r) (hd : OpC T r g) (hm : X.mg x = none) (hv : bootBuiltins x = some (.type Ty)) (ha : DA X T W (e :: es) η) (hg : Gl X x := by rfl) (hn : x ≠ "__name__" := by decide) (hdb : (x == ("__debug__" : Str)) = false := by decide)
    (he : starEach (e :: es) X.env = (false, eval e X.env) :: starEach es X.env := by rfl) (hpl : (backTo pos (starEach es X.env)).any (·.1) = false := by rfl) : DE X T W (.Call (.Name x p) (e :: es) [] pos) (dCB g η) :=
  de_of (pe_callTy hc hg hm hv ha hn hdb he hpl) fun G σ H ρ O R RX Q S E d p x => ⟨G, ρ, O, _, RX, S, E, d, (fun bs O1 vs G1 H1 d1 s1 S1 r1 => hd G1 H1 O1 vs bs R Q S1 r1 d1 (p.mono s1)), x⟩
theorem rbs1 {G : Hp} {vs : List V} {b : B} (r : RBs G vs [b]) : ∃ v, vs = [v] ∧ RB G v b := by
  match vs, r with
  | [v], r => exact ⟨v, rfl, r.1⟩
theorem rbs2 {G : Hp} {vs : List V} {b c : B} (r : RBs G vs [b, c]) : ∃ v w, vs = [v, w] ∧ RB G v b ∧ RB G w c := by
  match vs, r with
  | [v, w], r => exact ⟨v, w, rfl, r.1, r.2.1⟩
/-- len -/
def gLen (T : Tb) : FC
  | [.d (.lst xs)], O, R => xs.length ≤ sizeLine → R (.d (.int xs.length)) O
  | [.d (.tup xs)], O, R => xs.length ≤ sizeLine → R (.d (.int xs.length)) O
  | [.d (.str s)], O, R => s.length ≤ sizeLine ∧ R (.d (.int s.length)) O
  | [.v (.ref a)], O, R => (∃ xs, (a, .lst xs) ∈ O ∧ (xs.length ≤ sizeLine → R (.d (.int xs.length)) O)) ∨ ∃ ns, (a, ns) ∈ T.scr ∧ (ns.length ≤ 63 → R (.d (.int ns.length)) O)
  | _, _, _ => False
def rLen (K : PySem.W.Frag) : List V → Hp → VK → Prop := fun xs H Q => ∃ x n, xs = [x] ∧ LenV K x H n ∧ Q (.int n) H
theorem opc_len {K : PySem.W.Frag} (hK : T.K = K) : OpC T (rLen K) (gLen T) := by
  subst hK
  intro G H O vs bs R Q S rr0 h p
  unfold gLen at h
  split at h
  · obtain ⟨v, rfl, r⟩ := rbs1 rr0
    simp only [RB, Rp] at r
    obtain ⟨a, us, rfl, h1, z, r⟩ := r
    exact ⟨_, _, rfl, .inl ⟨us, SqL.of (S.sub _ _ h1), rfl⟩, by rw [r.len]; exact p _ _ _ _ _ (h (by rw [← r.len]; exact z)) (Same.refl _) S (by simp only [RB, Rp])⟩
  · obtain ⟨v, rfl, r⟩ := rbs1 rr0
    simp only [RB, Rp] at r
    obtain ⟨a, us, rfl, h1, z, r⟩ := r
    exact ⟨_, _, rfl, .inr ⟨us, SqT.of (S.sub _ _ h1), rfl⟩, by rw [r.len]; exact p _ _ _ _ _ (h (by rw [← r.len]; exact z)) (Same.refl _) S (by simp only [RB, Rp])⟩
  · obtain ⟨v, rfl, r⟩ := rbs1 rr0
    simp only [RB, Rp] at r
    subst r
    exact ⟨_, _, rfl, ⟨h.1, rfl⟩, p _ _ _ _ _ h.2 (Same.refl _) S (by simp only [RB, Rp])⟩
  · obtain ⟨v, rfl, r⟩ := rbs1 rr0
    have e : v = _ := r
    subst e
    rcases h with ⟨xs, m, h⟩ | ⟨ns, m, h⟩
    · obtain ⟨us, e, z, r⟩ := S.lst m
      exact ⟨_, _, rfl, .inl ⟨us, SqL.of e, rfl⟩, by rw [r.len]; exact p _ _ _ _ _ (h (by rw [← r.len]; exact z)) (Same.refl _) S (by simp only [RB, Rp])⟩
    · exact ⟨_, _, rfl, .inl ⟨_, (S.tab.scr _ m).1.seq, rfl⟩, by rw [List.length_map]; exact p _ _ _ _ _ (h (S.tab.scr _ m).2) (Same.refl _) S (by simp only [RB, Rp])⟩
  · exact h.elim
theorem opr_len : CallR X (.builtin "len") (rLen X.K) := call_len
/-- list(x): a new list, frozen or owned -/
def gList : FC
  | [b], O, R => ∃ xs, peekS b O xs ∧ R (.d (.lst xs)) O
  | _, _, _ => False
def gListO : FC
  | [b], O, R => ∃ xs, peekS b O xs ∧ ∀ q, (∀ r ∈ O, r.1 ≠ q) → R (.v (.ref q)) ((q, .lst xs) :: O)
  | _, _, _ => False
def rListOf (K : PySem.W.Frag) : List V → Hp → VK → Prop := fun xs H Q => ∃ p ys, xs = [.ref p] ∧ (SqL K H p ys ∨ SqT K H p ys) ∧ ∀ l, H l = none → Q (.ref l) (upd H l (.lst ys))
theorem opr_list : CallR X (.type "list") (rListOf X.K) := call_list_of
theorem opc_list {K : PySem.W.Frag} : OpC T (rListOf K) gList := by
  intro G H O vs bs R Q S rr0 h p
  match bs, h with
  | [b], ⟨xs, h1, h⟩ =>
    obtain ⟨v, rfl, r⟩ := rbs1 rr0
    obtain ⟨a, us, rfl, q, z, r⟩ := peekS_ok (K := K) S r h1
    refine ⟨a, us, rfl, q, fun l hl => ?_⟩
    obtain ⟨S1, s1, rr⟩ := new_lst S r (by rw [← r.len]; exact z) hl
    exact p _ _ _ _ _ h s1 S1 rr
theorem opc_listO {K : PySem.W.Frag} : OpC T (rListOf K) gListO := by
  intro G H O vs bs R Q S rr0 h p
  match bs, h with
  | [b], ⟨xs, h1, h⟩ =>
    obtain ⟨v, rfl, r⟩ := rbs1 rr0
    obtain ⟨a, us, rfl, q, z, r⟩ := peekS_ok (K := K) S r h1
    exact ⟨a, us, rfl, q, fun l hl => p _ _ _ _ _ (h l (S.fresh hl)) (Same.refl _) (S.ownL hl r z) rfl⟩
/-- tuple(x) -/
def gTuple : FC
  | [b], O, R => ∃ xs, peekS b O xs ∧ R (.d (.tup xs)) O
  | _, _, _ => False
def rTupOf (K : PySem.W.Frag) : List V → Hp → VK → Prop := fun xs H Q => ∃ p ys, xs = [.ref p] ∧ ((SqL K H p ys ∧ ∀ l, H l = none → Q (.ref l) (upd H l (.tup ys))) ∨ (SqT K H p ys ∧ Q (.ref p) H))
theorem opr_tuple : CallR X (.type "tuple") (rTupOf X.K) := call_tuple_of
theorem opc_tuple {K : PySem.W.Frag} : OpC T (rTupOf K) gTuple := by
  intro G H O vs bs R Q S rr0 h p
  match bs, h with
  | [b], ⟨xs, h1, h⟩ =>
    obtain ⟨v, rfl, r⟩ := rbs1 rr0
    have lcase : ∀ {a us}, H a = some (.lst us) → us.length ≤ sizeLine → Rps G us xs → rTupOf K [.ref a] H Q := fun {a us} e z r => ⟨a, us, rfl, .inl ⟨SqL.of e, fun l hl => by
      obtain ⟨S1, s1, rr⟩ := new_tup S r (by rw [← r.len]; exact z) hl
      exact p _ _ _ _ _ h s1 S1 rr⟩⟩
    match b, h1 with
    | .d (.lst ys), h1 =>
      have e : xs = ys := h1
      subst e
      simp only [RB, Rp] at r
      obtain ⟨a, us, rfl, h2, z, r⟩ := r
      exact lcase (S.sub _ _ h2) z r
    | .d (.tup ys), h1 =>
      have e : xs = ys := h1
      subst e
      simp only [RB, Rp] at r
      obtain ⟨a, us, rfl, h2, z, r⟩ := r
      exact ⟨a, us, rfl, .inr ⟨SqT.of (S.sub _ _ h2), p _ _ _ _ _ h (Same.refl _) S (by simp only [RB, Rp]; exact ⟨a, us, rfl, h2, z, r⟩)⟩⟩
    | .v (.ref a), h1 =>
      obtain ⟨us, e, z, r1⟩ := S.lst h1
      have ev : v = _ := r
      subst ev
      exact lcase e z r1
/-- int(n) -/
def gInt : FC
  | [.d (.int i)], O, R => R (.d (.int i)) O
  | _, _, _ => False
theorem opc_int : OpC T (fun xs H Q => (∃ i, xs = [.int i] ∧ Q (.int i) H) ∨ ∃ k, xs = [.bl k] ∧ Q (.int (if k then 1 else 0)) H) gInt := by
  intro G H O vs bs R Q S rr0 h p
  unfold gInt at h
  split at h
  · obtain ⟨v, rfl, r⟩ := rbs1 rr0
    simp only [RB, Rp] at r
    subst r
    exact .inl ⟨_, rfl, p _ _ _ _ _ h (Same.refl _) S (by simp only [RB, Rp])⟩
  · exact h.elim
def gAbs : FC
  | [.d (.int i)], O, R => R (.d (.int (if i < 0 then -i else i))) O
  | _, _, _ => False
theorem opc_abs : OpC T (fun xs H Q => ∃ i, xs = [.int i] ∧ Q (.int (if i < 0 then -i else i)) H) gAbs := by
  intro G H O vs bs R Q S rr0 h p
  unfold gAbs at h
  split at h
  · obtain ⟨v, rfl, r⟩ := rbs1 rr0
    simp only [RB, Rp] at r
    subst r
    exact ⟨_, rfl, p _ _ _ _ _ h (Same.refl _) S (by simp only [RB, Rp])⟩
  · exact h.elim
/-- min, max: of two numbers, or of a list of numbers -/
def gMin : FC
  | [.d (.int i), .d (.int j)], O, R => R (.d (.int (if j < i then j else i))) O
  | [b], O, R => ∃ ns : List Int, peekL b O (ns.map D.int) ∧ 0 < ns.length ∧ ∀ m, m ∈ ns → (∀ y, y ∈ ns → m ≤ y) → R (.d (.int m)) O
  | _, _, _ => False
def gMax : FC
  | [.d (.int i), .d (.int j)], O, R => R (.d (.int (if j > i then j else i))) O
  | [b], O, R => ∃ ns : List Int, peekL b O (ns.map D.int) ∧ 0 < ns.length ∧ ∀ m, m ∈ ns → (∀ y, y ∈ ns → y ≤ m) → R (.d (.int m)) O
  | _, _, _ => False
def rMinB (K : PySem.W.Frag) : List V → Hp → VK → Prop := fun xs H Q => (∃ i j, xs = [.int i, .int j] ∧ Q (.int (if j < i then j else i)) H) ∨ rMin K xs H Q
def rMaxB (K : PySem.W.Frag) : List V → Hp → VK → Prop := fun xs H Q => (∃ i j, xs = [.int i, .int j] ∧ Q (.int (if j > i then j else i)) H) ∨ rMax K xs H Q
theorem opr_min (hc : X.calm = true) : CallR X (.builtin "min") (rMinB X.K) := CallR.or (call_min2 hc) (cr_min hc)
theorem opr_max (hc : X.calm = true) : CallR X (.builtin "max") (rMaxB X.K) := CallR.or (call_max2 hc) (cr_max hc)
theorem opc_min {K : PySem.W.Frag} : OpC T (rMinB K) gMin := by
  intro G H O vs bs R Q S rr0 h p
  unfold gMin at h
  split at h
  · obtain ⟨v, w, rfl, r1, r2⟩ := rbs2 rr0
    simp only [RB, Rp] at r1 r2
    subst r1
    subst r2
    exact .inl ⟨_, _, rfl, p _ _ _ _ _ h (Same.refl _) S (by simp only [RB, Rp])⟩
  · obtain ⟨ns, h1, h2, h⟩ := h
    obtain ⟨v, rfl, r⟩ := rbs1 rr0
    obtain ⟨a, us, rfl, e, z, r⟩ := peekL_ok S r h1
    rw [Rps.ints_inv r] at e
    exact .inr ⟨a, ns, rfl, SqL.of e, h2, fun m m1 m2 => p _ _ _ _ _ (h m m1 m2) (Same.refl _) S (by simp only [RB, Rp])⟩
  · exact h.elim
theorem opc_max {K : PySem.W.Frag} : OpC T (rMaxB K) gMax := by
  intro G H O vs bs R Q S rr0 h p
  unfold gMax at h
  split at h
  · obtain ⟨v, w, rfl, r1, r2⟩ := rbs2 rr0
    simp only [RB, Rp] at r1 r2
    subst r1
    subst r2
    exact .inl ⟨_, _, rfl, p _ _ _ _ _ h (Same.refl _) S (by simp only [RB, Rp])⟩
  · obtain ⟨ns, h1, h2, h⟩ := h
    obtain ⟨v, rfl, r⟩ := rbs1 rr0
    obtain ⟨a, us, rfl, e, z, r⟩ := peekL_ok S r h1
    rw [Rps.ints_inv r] at e
    exact .inr ⟨a, ns, rfl, SqL.of e, h2, fun m m1 m2 => p _ _ _ _ _ (h m m1 m2) (Same.refl _) S (by simp only [RB, Rp])⟩
  · exact h.elim
def gSum : FC
  | [b], O, R => ∃ ns : List Int, peekL b O (ns.map D.int) ∧ R (.d (.int ns.sum)) O
  | _, _, _ => False
theorem opc_sum {K : PySem.W.Frag} : OpC T (rSum K) gSum := by
  intro G H O vs bs R Q S rr0 h p
  match bs, h with
  | [b], ⟨ns, h1, h⟩ =>
    obtain ⟨v, rfl, r⟩ := rbs1 rr0
    obtain ⟨a, us, rfl, e, z, r⟩ := peekL_ok S r h1
    rw [Rps.ints_inv r] at e
    exact ⟨a, ns, rfl, SqL.of e, p _ _ _ _ _ h (Same.refl _) S (by simp only [RB, Rp])⟩
def gAll : FC
  | [b], O, R => ∃ bs : List Bool, peekL b O (bs.map D.bl) ∧ R (.d (.bl (bs.all id))) O
  | _, _, _ => False
theorem opc_all {K : PySem.W.Frag} : OpC T (rAll K) gAll := by
  intro G H O vs bs R Q S rr0 h p
  match bs, h with
  | [b], ⟨ns, h1, h⟩ =>
    obtain ⟨v, rfl, r⟩ := rbs1 rr0
    obtain ⟨a, us, rfl, e, z, r⟩ := peekL_ok S r h1
    rw [Rps.bls_inv r] at e
    exact ⟨a, ns, rfl, SqL.of e, p _ _ _ _ _ h (Same.refl _) S (by simp only [RB, Rp])⟩
def gAny : FC
  | [b], O, R => ∃ bs : List Bool, peekL b O (bs.map D.bl) ∧ R (.d (.bl (bs.any id))) O
  | _, _, _ => False
theorem opc_any {K : PySem.W.Frag} : OpC T (rAny K) gAny := by
  intro G H O vs bs R Q S rr0 h p
  match bs, h with
  | [b], ⟨ns, h1, h⟩ =>
    obtain ⟨v, rfl, r⟩ := rbs1 rr0
    obtain ⟨a, us, rfl, e, z, r⟩ := peekL_ok S r h1
    rw [Rps.bls_inv r] at e
    exact ⟨a, ns, rfl, SqL.of e, p _ _ _ _ _ h (Same.refl _) S (by simp only [RB, Rp])⟩
/-- list(range(n)), list(range(a, b)) -/
def rgD (a b : Int) : List D := (List.range (b - a).toNat).map fun i => D.int (a + (i : Nat))
theorem rg_ok {G : Hp} (a b : Int) : Rps G (rgV a b) (rgD a b) := by
  have : ∀ l : List Nat, Rps G (l.map fun i => V.int (a + (i : Nat))) (l.map fun i => D.int (a + (i : Nat))) := by
    intro l
    induction l with
    | nil => exact Rps.nil
    | cons i l ih => exact Rps.cons (by simp only [Rp]) ih
  exact this _
abbrev dListRg1 (own : Bool) (α : DTE) : DTE := fun ρ O R RX => α ρ O (fun b O1 => ∃ n : Int, b = .d (.int n) ∧ RgOk 0 n ∧ if own = true then ∀ q, (∀ r ∈ O1, r.1 ≠ q) → R (.v (.ref q)) ((q, .lst (rgD 0 n)) :: O1) else R (.d (.lst (rgD 0 n))) O1) RX
theorem rgD_len (a b : Int) : (rgD a b).length = (b - a).toNat := by unfold rgD; rw [List.length_map, List.length_range]
theorem rgOk_len {a b : Int} (h : RgOk a b) : (rgD a b).length ≤ sizeLine := by rw [rgD_len, sizeLine_eq]; have := h.2.2.2.2; omega
theorem de_listRg1 (own : Bool) {p2 pos2 : Pos} (hc : X.calm = true) (hm : X.mg "list" = none) (hm2 : X.mg "range" = none) (ha : DE X T W a α) (hg : Gl X "list" := by rfl) (hg2 : Gl X "range" := by rfl) (na : starEach [a] X.env = (false, eval a X.env) :: starEach [] X.env := by rfl)
    (nb : starEach [Expr.Call (.Name "range" p2) [a] [] pos2] X.env = (false, eval (.Call (.Name "range" p2) [a] [] pos2) X.env) :: starEach [] X.env := by rfl) :
    DE X T W (.Call (.Name "list" p) [.Call (.Name "range" p2) [a] [] pos2] [] pos) (dListRg1 own α) :=
  de_of (pe_listRg hc hg hm (prg_1 hg2 hm2 ha na) nb) fun G σ H ρ O R RX Q S E d p x => ⟨G, ρ, O, _, RX, S, E, d, (fun b O1 v G1 H1 ⟨n, e, ok, d1⟩ s1 S1 r1 => by
    subst e
    have ev : v = .int n := by simpa only [RB, Rp] using r1
    subst ev
    refine ⟨n, rfl, ok, fun q hq => ?_⟩
    cases own with
    | true =>
      rw [if_pos rfl] at d1
      exact p _ _ _ _ _ (d1 q (S1.fresh hq)) s1 (S1.ownL hq (rg_ok 0 n) (by rw [(rg_ok (G := G1) 0 n).len]; exact rgOk_len ok)) rfl
    | false =>
      rw [if_neg Bool.false_ne_true] at d1
      obtain ⟨S2, s2, rr⟩ := new_lst S1 (rg_ok 0 n) (rgOk_len ok) hq
      exact p _ _ _ _ _ d1 (s1.trans s2) S2 rr), x⟩

/-! ### methods of lists -/
abbrev FM := B → List B → Ow → DK → Prop
def OpM (T : Tb) (r : V → List V → Hp → VK → Prop) (g : FM) : Prop := ∀ G H O v b vs bs R Q, Sep T G H O → RB G v b → RBs G vs bs → g b bs O R → Post T G R Q → r v vs H Q
def isOwnL (b : B) (O : Ow) : Prop := ∃ a xs, b = .v (.ref a) ∧ (a, .lst xs) ∈ O
abbrev dBM (g : FM) (α : DTE) (η : DTA) : DTE := fun ρ O R RX => α ρ O (fun b O1 => isOwnL b O1 ∧ η ρ O1 (fun bs O2 => g b bs O2 R) RX) RX
theorem own_ty {K : PySem.W.Frag} {G H : Hp} {O : Ow} {v : V} {b : B} (S : Sep T G H O) (r : RB G v b) (h : isOwnL b O) : tyV K "list" v H := by
  obtain ⟨a, xs, rfl, m⟩ := h
  have e : v = _ := r
  subst e
  obtain ⟨us, e, _⟩ := S.lst m
  exact .inl ⟨rfl, us, SqL.of e⟩
theorem de_bm {name : Str} {id : String} {r : V → List V → Hp → VK → Prop} {g : FM} {cpos : Pos} (slot : Slot "list" name id) (hty : typeOf (.builtin id) = pure (.type "method_descriptor")) (hm : MtR X id r) (hd : OpM T r g) (ho : DE X T W o α) (ha : DA X T W (e :: es) η)
    (hbase : attributeBase o name X.env (eval o X.env) = eval o X.env := by rfl)
    (hfew : ((backTo cpos (starEach (e :: es) X.env)).all (fun x => !x.1) && (backToKw cpos (keywordEach [] X.env)).all (fun x => x.1.isSome)
      && decide ((e :: es).length + ([] : List Keyword).length + (if ([] : List Keyword).isEmpty then 0 else 1) < 30)) = true := by rfl)
    (hline : (apos.endLine == cpos.line) = true := by rfl) (hs : starEach (e :: es) X.env = (false, eval e X.env) :: starEach es X.env := by rfl) (hplain : (backTo cpos (starEach es X.env)).any (·.1) = false := by rfl) :
    DE X T W (.Call (.Attribute o name apos) (e :: es) [] cpos) (dBM g α η) :=
  de_of (pe_bm PySem.F.plainAttrs_list slot hty hm ho ha hbase hfew hline hs hplain) fun G σ H ρ O R RX Q S E d p x => ⟨G, ρ, O, _, RX, S, E, d, (fun b O1 v G1 H1 ⟨ow, d1⟩ s1 S1 r1 =>
    ⟨own_ty S1 r1 ow, G1, ρ, O1, _, RX, S1, E.mono s1, d1, fun bs O2 vs G2 H2 d2 s2 S2 r2 => hd G2 H2 O2 v b vs bs R Q S2 (r1.mono s2) r2 d2 (p.mono (s1.trans s2)), x.mono s1⟩), x⟩
abbrev dBM0 (g : FM) (α : DTE) : DTE := fun ρ O R RX => α ρ O (fun b O1 => isOwnL b O1 ∧ g b [] O1 R) RX
theorem de_bm0 {name : Str} {id : String} {r : V → List V → Hp → VK → Prop} {g : FM} {cpos : Pos} (slot : Slot "list" name id) (hty : typeOf (.builtin id) = pure (.type "method_descriptor")) (hm : MtR X id r) (hd : OpM T r g) (ho : DE X T W o α)
    (hbase : attributeBase o name X.env (eval o X.env) = eval o X.env := by rfl) (hline : (apos.endLine == cpos.line) = true := by rfl) :
    DE X T W (.Call (.Attribute o name apos) [] [] cpos) (dBM0 g α) :=
  de_of (pe_bm0 PySem.F.plainAttrs_list slot hty hm ho hbase hline) fun G σ H ρ O R RX Q S E d p x => ⟨G, ρ, O, _, RX, S, E, d, (fun b O1 v G1 H1 ⟨ow, d1⟩ s1 S1 r1 =>
    ⟨own_ty S1 r1 ow, hd G1 H1 O1 v b [] [] R Q S1 r1 trivial d1 (p.mono s1)⟩), x⟩
def gAppend : FM
  | .v (.ref a), [x], O, R => frzK [x] O fun ds O' => ∃ d xs, ds = [d] ∧ (a, .lst xs) ∈ O' ∧ xs.length < sizeLine ∧ R (.d .non) (oset O' a (.lst (xs ++ [d])))
  | _, _, _, _ => False
theorem opm_append : OpM T rAppend gAppend := by
  intro G H O v b vs bs R Q S r rs h p
  match b, bs, h with
  | .v (.ref a), [x], h =>
    have e : v = _ := r
    subst e
    obtain ⟨ds, O', G', ⟨d, xs, rfl, m, z, h⟩, s1, S1, r1⟩ := frzK_ok S rs h
    obtain ⟨w, rfl, rw_⟩ := rbs1 rs
    obtain ⟨us, e, z2, r2⟩ := S1.lst m
    refine ⟨a, us, w, rfl, rfl, e, by rw [r2.len]; exact z, p _ _ _ _ _ h s1 (S1.setL m (r2.app r1) ?_) (by simp only [RB, Rp])⟩
    rw [List.length_append, List.length_singleton, r2.len]
    exact z
def gExtend : FM
  | .v (.ref a), [x], O, R => ∃ ys xs, peekL x O ys ∧ (a, .lst xs) ∈ O ∧ xs.length + ys.length ≤ sizeLine ∧ R (.d .non) (oset O a (.lst (xs ++ ys)))
  | _, _, _, _ => False
theorem opm_extend : OpM T rExtend gExtend := by
  intro G H O v b vs bs R Q S r rs h p
  match b, bs, h with
  | .v (.ref a), [x], ⟨ys, xs, h1, m, z, h⟩ =>
    have e : v = _ := r
    subst e
    obtain ⟨w, rfl, rw_⟩ := rbs1 rs
    obtain ⟨c, ws, rfl, ec, _, rc⟩ := peekL_ok S rw_ h1
    obtain ⟨us, e, z2, r2⟩ := S.lst m
    refine ⟨a, c, us, ws, rfl, rfl, e, ec, by rw [r2.len, rc.len]; exact z, p _ _ _ _ _ h (Same.refl _) (S.setL m (r2.app rc) ?_) (by simp only [RB, Rp])⟩
    rw [List.length_append, r2.len, rc.len]
    exact z
def gPop : FM
  | .v (.ref a), [], O, R => ∃ xs d, (a, .lst (xs ++ [d])) ∈ O ∧ R (.d d) (oset O a (.lst xs))
  | _, _, _, _ => False
theorem opm_pop : OpM T rPop gPop := by
  intro G H O v b vs bs R Q S r rs h p
  match b, bs, h with
  | .v (.ref a), [], ⟨xs, d, m, h⟩ =>
    have e : v = _ := r
    subst e
    have ev : vs = [] := by
      match vs, rs with
      | [], _ => rfl
    subst ev
    obtain ⟨us, e, z2, r2⟩ := S.lst m
    have hl := r2.len
    rw [List.length_append, List.length_singleton] at hl
    obtain ⟨y, hy, ry⟩ := r2.get (i := us.length - 1) (d := d) (by rw [hl]; simp)
    have r3 := r2.dropLast
    rw [List.dropLast_concat] at r3
    refine ⟨a, us, y, rfl, rfl, e, hy, p _ _ _ _ _ h (Same.refl _) (S.setL m r3 ?_) ry⟩
    rw [List.length_dropLast]
    omega
def gPopAt : FM
  | .v (.ref a), [.d (.int i)], O, R => ∃ xs k d, (a, .lst xs) ∈ O ∧ -(2 ^ 63) ≤ i ∧ i < 2 ^ 63 ∧ seqIndex? i xs.length = some k ∧ xs[k]? = some d ∧ R (.d d) (oset O a (.lst (xs.eraseIdx k)))
  | _, _, _, _ => False
theorem opm_popAt : OpM T rPopAt gPopAt := by
  intro G H O v b vs bs R Q S r rs h p
  unfold gPopAt at h
  split at h
  · obtain ⟨xs, k, d, m, i1, i2, hk, hd, h⟩ := h
    have e : v = _ := r
    subst e
    obtain ⟨w, rfl, rw_⟩ := rbs1 rs
    simp only [RB, Rp] at rw_
    subst rw_
    obtain ⟨us, e, z2, r2⟩ := S.lst m
    obtain ⟨y, hy, ry⟩ := r2.get hd
    refine ⟨_, us, _, k, y, rfl, rfl, e, i1, i2, by rw [r2.len]; exact hk, hy, p _ _ _ _ _ h (Same.refl _) (S.setL m (r2.erase k) ?_) ry⟩
    exact Nat.le_trans (len_erase us k) z2
  · exact h.elim

/-! ### xs[i] = v -/
abbrev dStore (α β θ : DTE) : DTS := fun Δ ρ O => θ ρ O (fun v O1 => α ρ O1 (fun b O2 => β ρ O2 (fun i O3 => frzK [v] O3 fun ds O4 => ∃ a xs d k j, b = .v (.ref a) ∧ i = .d (.int k) ∧ ds = [d] ∧ (a, .lst xs) ∈ O4 ∧ ixN xs.length k = some j ∧ Δ.nx ρ (oset O4 a (.lst (xs.set j d)))) (xat Δ ρ)) (xat Δ ρ)) (xat Δ ρ)
theorem ds_store {i v : Expr} {p2 : Pos} (ho : DE X T W o α) (hi : DE X T W i β) (hv : DE X T W v θ)
    (ha : ∀ u, assign (.Subscript o i p2) X.env u = (do
      let ov ← holding [u] (eval o X.env)
      let iv ← holding [u, ov] (eval i X.env)
      standAt p2
      holding [u, ov, iv] (setItem ov iv u)
      release [u, ov, iv] []) := by intro _; rfl) (hs : swapsWithSole [.Subscript o i p2] v pos.line X.env = pure false := by rfl) (hw : swappedStores [.Subscript o i p2] v X.env = pure none := by rfl)
    (h1 : (assignEach [.Subscript o i p2] X.env).map (·.2) = [assign (.Subscript o i p2) X.env] := by rfl) : DS X T W (.Assign [.Subscript o i p2] v pos) (dStore α β θ) :=
  ds_of (ps_asg hv (pg_sub ho hi set_list ha) hs hw h1) fun G σ H ρ O Δ D S E d p => ⟨G, ρ, O, _, _, S, E, d, (fun v O1 u G1 H1 d1 s1 S1 r1 => ⟨G1, ρ, O1, _, _, S1, E.mono s1, d1, (fun b O2 w G2 H2 d2 s2 S2 r2 => ⟨G2, ρ, O2, _, _, S2, E.mono (s1.trans s2), d2, (fun c O3 z G3 H3 d3 s3 S3 r3 => by
    obtain ⟨ds, O4, G4, ⟨a, xs, dd, k, j, eb, ei, eds, m, hj, h⟩, s4, S4, r4⟩ := frzK_ok (bs := [v]) (vs := [u]) S3 ⟨r1.mono (s2.trans s3), trivial⟩ d3
    subst eb
    subst ei
    subst eds
    have ew : w = .ref a := r2
    have ez : z = .int k := by simpa only [RB, Rp] using r3
    subst ew
    subst ez
    obtain ⟨us, e, z2, r5⟩ := S4.lst m
    refine ⟨a, us, k, j, rfl, rfl, e, by rw [r5.len]; exact hj, p.nx _ _ _ _ _ h (((s1.trans s2).trans s3).trans s4) (S4.setL m (r5.set r4.inv.1 j) ?_) (E.mono (((s1.trans s2).trans s3).trans s4))⟩
    rw [List.length_set]
    exact z2), (p.mono (s1.trans s2)).xat (E.mono (s1.trans s2))⟩), (p.mono s1).xat (E.mono s1)⟩), p.xat E⟩
end
end DL
end
section
set_option maxRecDepth 100000
set_option maxHeartbeats 2000000
/-! part i: isinstance, fields, properties, instances, calls through a class -/
namespace DL
open PySem PySem.Spec PyProof.Rows L2

/-! ### isinstance -/
inductive Kd where
  | non | bl | int | str | tup | lst | dct
  | ins (C : Addr)
  | exc (C : Addr)
def Kd.ty : Kd → Value
  | .non => .type "NoneType"
  | .bl => .type "bool"
  | .int => .type "int"
  | .str => .type "str"
  | .tup => .type "tuple"
  | .lst => .type "list"
  | .dct => .type "dict"
  | .ins C => .ref C
  | .exc C => .ref C
def kd : D → Kd
  | .non => .non
  | .bl _ => .bl
  | .int _ => .int
  | .str _ => .str
  | .tup _ => .tup
  | .lst _ => .lst
  | .emp => .dct
  | .ins C _ _ => .ins C
  | .exc C _ _ => .exc C
def kB (b : B) (O : Ow) (k : Kd) : Prop := (∃ d, b = .d d ∧ kd d = k) ∨ ∃ a xs, b = .v (.ref a) ∧ (a, .lst xs) ∈ O ∧ k = .lst
/-- what the written part says of an own class, so that isinstance asks its instances rightly -/
structure InsT (K : PySem.W.Frag) (C : Addr) : Prop where
  cl : Cls K C
  ha : PySem.W.findIn K (.ref C) "__class__" = some (some (.builtin "object.__class__"))
  hn : PySem.W.specialIn K (.builtin "object.__class__") "__get__" = some (some (.builtin "getset_descriptor.__get__"))
  htk : PySem.W.takesIn K (.builtin "object.__class__") = some true
  hm : PySem.W.mroIn K C (.type "object") = some true
structure IsQ (K : PySem.W.Frag) (us : List Value) (q : Kd → Option Bool) : Prop where
  ok : ∀ k b, q k = some b → PySem.W.kitAny K k.ty us = some b
  ins : ∀ C b, q (.ins C) = some b → InsT K C
  exc : ∀ C b, q (.exc C) = some b → ExcC K C
theorem kit_one {K : PySem.W.Frag} {t u : Value} {b : Bool} (h : PySem.W.kitAny K t [u] = some b) : PySem.W.kitOne K t u = some b := by
  unfold PySem.W.kitAny at h
  revert h
  cases PySem.W.kitOne K t u with
  | none => intro h; exact h
  | some r => cases r with
    | true => intro h; exact h
    | false => intro h; exact h
/-- a value's type, exceptions too -/
def TyZ (K : PySem.W.Frag) (H : Hp) (x : V) (t : Value) : Prop := TyX K H x t ∨ ∃ (a C : Addr) (d : Option Addr), x = .ref a ∧ t = .ref C ∧ H a = some (ExcV a C d) ∧ (∀ dx, d = some dx → ∃ fs, H dx = some (.xd fs)) ∧ ExcC K C
theorem kitZ {X : Cx} {pins : List (Addr × Obj)} {σ : L2.St} {H : Hp} {s : Shared} {x : V} {u t : Value} (I : Inv X pins σ H s) (rx : RelV x u) (ty : TyZ X.K H x t) : ∃ P : Heap → Prop, PySem.W.KitX X.K u t P ∧ P s.heap ∧ u ≠ .builtin "__main__.__loader__#opaque" := by
  rcases ty with ty | ⟨a, C, d, rfl, rfl, ha, hd, E⟩
  · exact kit_of I rx ty
  · cases (show u = Value.ref a from rx)
    have z : ObjOk X.prog X.w H s.heap a (ExcV a C d) := I.hok a _ ha
    obtain ⟨⟨oe, vs, h1, h2, h3, h4⟩, _⟩ := z
    have hcl : (PySem.W.clsIn X.K C).isSome = true := by
      obtain ⟨cd, hc, _⟩ := PySem.W.any_some E.hd
      rw [hc]; rfl
    have nc : PySem.W.notCls oe = true := by
      unfold PySem.W.notCls
      rw [h4]
    cases d with
    | none =>
      exact ⟨_, PySem.W.kitx_exc (ox := oe) (od := none) hcl E.hg E.hk E.hs E.ha E.hn E.ht E.hm, ⟨h1, h2, nc, by rw [h3]; trivial⟩, fun z => nomatch z⟩
    | some dx =>
      obtain ⟨fs, hx⟩ := hd dx rfl
      have z2 : ObjOk X.prog X.w H s.heap dx (.xd fs) := I.hok dx _ hx
      obtain ⟨mA, ⟨o, es, ep, ho, _⟩, _⟩ := z2
      exact ⟨_, PySem.W.kitx_exc (ox := oe) (od := some o) hcl E.hg E.hk E.hs E.ha E.hn E.ht E.hm, ⟨h1, h2, nc, by rw [h3]; exact ho⟩, fun z => nomatch z⟩
def rIsZ (K : PySem.W.Frag) : List V → Hp → VK → Prop := fun xs H Q => ∃ (x c : V) (t u : Value) (b : Bool), xs = [x, c] ∧ ClsV c u ∧ TyZ K H x t ∧ PySem.W.kitOne K t u = some b ∧ Q (.bl b) H
def rIsZT (K : PySem.W.Frag) : List V → Hp → VK → Prop := fun xs H Q => ∃ (x : V) (tp : Addr) (cs : List V) (t : Value) (us : List Value) (b : Bool), xs = [x, .ref tp] ∧ H tp = some (.tup cs) ∧ Paired ClsV cs us ∧ TyZ K H x t ∧ PySem.W.kitAny K t us = some b ∧ Q (.bl b) H
section
variable {X : Cx}
theorem call_isZ : CallR X (.builtin "isinstance") (rIsZ X.K) := by
  intro pins s σ H xs us Q I r h
  obtain ⟨x, c, t, u, b, rfl, k, ty, e, q⟩ := h
  obtain ⟨u1, u2, rfl, r1, r2⟩ := vals2 r
  have e2 := k.eq r2
  subst e2
  obtain ⟨P, Z, p, hx⟩ := kitZ I r1 ty
  exact PySem.W.kia_one Z I.kIn p e hx fun tk => ⟨.bl b, H, I.tok tk, rfl, q⟩
theorem call_isZT : CallR X (.builtin "isinstance") (rIsZT X.K) := by
  intro pins s σ H xs us Q I r h
  obtain ⟨x, tp, cs, t, ws, b, rfl, hT, k, ty, e, q⟩ := h
  obtain ⟨u1, u2, rfl, r1, r2⟩ := vals2 r
  cases (show u2 = Value.ref tp from r2)
  obtain ⟨P, Z, p, hx⟩ := kitZ I r1 ty
  obtain ⟨_, its, rv, o, h1, h2, n, h3⟩ := (show ObjOk X.prog X.w H s.heap tp (.tup cs) from I.hok tp _ hT)
  have e3 := ClsV.all k rv
  subst e3
  obtain ⟨oc, od, dt, sl⟩ := o
  simp only at h2 h3
  subst h2 h3
  exact PySem.W.kia_tup Z I.kIn p h1 e hx fun tk => ⟨.bl b, H, I.tok tk, rfl, q⟩
end
/-- a class, read -/
def CE1 (X : Cx) (c : Expr) (u : Value) : Prop := ∃ v, PE X c (tC v) ∧ ClsV v u
def CEs (X : Cx) (cs : List Expr) (us : List Value) : Prop := ∃ vs, PA X cs (fun _ H Q => Q vs H) ∧ Paired ClsV vs us
section
variable {X : Cx} {T : Tb} {W : WX} {pos p p2 : Pos} {a b c e o : Expr} {cs es : List Expr} {α β θ : DTE} {η : DTA} {x : Str} {u : Value} {us : List Value} {q : Kd → Option Bool}
theorem ce_ty {n : String} (hm : X.mg x = none) (hv : bootBuiltins x = some (.type n)) (hg : Gl X x := by rfl) (hn : x ≠ "__name__" := by decide) (hd : (x == ("__debug__" : Str)) = false := by decide) : CE1 X (.Name x p) (.type n) :=
  ⟨.ty n, pe_bltn hg hm hv (show RelV (.ty n) (.type n) from rfl) hn hd, .ty n⟩
theorem ce_own {C : Addr} (hm : X.mg x = some (.ref C)) (hg : Gl X x := by rfl) (hd : (x == ("__debug__" : Str)) = false := by decide) : CE1 X (.Name x p) (.ref C) :=
  ⟨.ref C, pe_glob hg hm (show RelV (.ref C) (.ref C) from rfl) hd, .own C⟩
theorem ces_nil : CEs X [] [] := ⟨[], pa_imp pa_nil fun σ H Q h => h, .nil⟩
theorem ces_cons (h : CE1 X c u) (t : CEs X cs us) (hs : starEach (c :: cs) X.env = (false, eval c X.env) :: starEach cs X.env := by rfl) : CEs X (c :: cs) (u :: us) := by
  obtain ⟨v, h1, h2⟩ := h
  obtain ⟨vs, t1, t2⟩ := t
  exact ⟨v :: vs, pa_imp (pa_cons h1 t1 hs) fun σ H Q h => h, .cons h2 t2⟩
theorem tyZ_of {G H : Hp} {O : Ow} {v : V} {b : B} {k : Kd} {r : Bool} (S : Sep T G H O) (rb : RB G v b) (h : kB b O k) (Qq : IsQ X.K us q) (hr : q k = some r) : TyZ X.K H v k.ty := by
  rcases h with ⟨d, rfl, rfl⟩ | ⟨a, xs, rfl, m, rfl⟩
  · cases d with
    | non => have e : v = .non := by simpa only [RB, Rp] using rb
             subst e; exact .inl (.base .non)
    | bl z => have e : v = .bl z := by simpa only [RB, Rp] using rb
              subst e; exact .inl (.base (.bl z))
    | int z => have e : v = .int z := by simpa only [RB, Rp] using rb
               subst e; exact .inl (.base (.int z))
    | str z => have e : v = .str z := by simpa only [RB, Rp] using rb
               subst e; exact .inl (.base (.str z))
    | tup z => simp only [RB, Rp] at rb
               obtain ⟨a, vs, rfl, h1, _⟩ := rb
               exact .inl (.base (.tup (S.sub _ _ h1)))
    | lst z => simp only [RB, Rp] at rb
               obtain ⟨a, vs, rfl, h1, _⟩ := rb
               exact .inl (.base (.lst (S.sub _ _ h1)))
    | emp => simp only [RB, Rp] at rb
             obtain ⟨a, rfl, h1⟩ := rb
             exact .inl (.base (.dK (S.sub _ _ h1)))
    | ins C ns z => simp only [RB, Rp] at rb
                    obtain ⟨a, dx, vs, rfl, h1, _⟩ := rb
                    have i := Qq.ins C r hr
                    exact .inl (.base (.ins (S.sub _ _ h1) i.cl i.ha i.hn i.htk i.hm))
    | exc C ns z => simp only [RB, Rp] at rb
                    obtain ⟨a, d, vs, rfl, h1, h2, _⟩ := rb
                    refine .inr ⟨a, C, d, rfl, rfl, S.sub _ _ h1, fun dx e => ?_, Qq.exc C r hr⟩
                    rcases h2 with ⟨z, _⟩ | ⟨dx', z, h2⟩
                    · rw [z] at e; cases e
                    · rw [z] at e; cases e
                      exact ⟨_, S.sub _ _ h2⟩
  · have e : v = _ := rb
    subst e
    obtain ⟨vs, h1, _⟩ := S.lst m
    exact .inl (.base (.lst h1))
abbrev dIsi (q : Kd → Option Bool) (α : DTE) : DTE := fun ρ O R RX => α ρ O (fun b O1 => ∃ k r, kB b O1 k ∧ q k = some r ∧ R (.d (.bl r)) O1) RX
theorem TyZ.same {K : PySem.W.Frag} {G H : Hp} {O : Ow} : True := trivial
theorem de_isi (he : DE X T W e α) (hc : CE1 X c u) (Qq : IsQ X.K [u] q) (hm : X.mg "isinstance" = none) (hg : Gl X "isinstance" := by rfl)
    (s1 : starEach [e, c] X.env = (false, eval e X.env) :: starEach [c] X.env := by rfl) (s2 : starEach [c] X.env = (false, eval c X.env) :: starEach [] X.env := by rfl) (hpl : (backTo pos (starEach [c] X.env)).any (·.1) = false := by rfl) :
    DE X T W (.Call (.Name "isinstance" p) [e, c] [] pos) (dIsi q α) := by
  obtain ⟨v, h1, h2⟩ := hc
  exact de_of (pe_callB call_isZ hg hm PyProof.Rows.Boot.«isinstance» (pa_cons he (pa_cons h1 pa_nil s2) s1) (by decide) (by decide) s1 hpl) fun G σ H ρ O R RX Q S E d p x => ⟨G, ρ, O, _, RX, S, E, d, (fun b O1 w G1 H1 ⟨k, r, hk, hr, d1⟩ s1 S1 r1 =>
    ⟨w, v, k.ty, u, r, rfl, h2, tyZ_of S1 r1 hk Qq hr, kit_one (Qq.ok k r hr), p _ _ _ _ _ d1 s1 S1 (by simp only [RB, Rp])⟩), x⟩
theorem Sep.upd' {G H : Hp} {O : Ow} {q : Addr} {o : HO} (S : Sep T G H O) (h : H q = none) : Sep T G (upd H q o) O := S.grow (Same.upd h)
theorem de_isiT {k2 : Nat} (he : DE X T W e α) (hc : CEs X cs us) (Qq : IsQ X.K us q) (hm : X.mg "isinstance" = none) (hg : Gl X "isinstance" := by rfl)
    (s1 : starEach [e, .Tuple cs k2 p2] X.env = (false, eval e X.env) :: starEach [.Tuple cs k2 p2] X.env := by rfl) (s2 : starEach [.Tuple cs k2 p2] X.env = (false, eval (.Tuple cs k2 p2) X.env) :: starEach [] X.env := by rfl) (hpl : (backTo pos (starEach [.Tuple cs k2 p2] X.env)).any (·.1) = false := by rfl) (hz : us.length ≤ 100 := by decide) :
    DE X T W (.Call (.Name "isinstance" p) [e, .Tuple cs k2 p2] [] pos) (dIsi q α) := by
  obtain ⟨vs, h1, h2⟩ := hc
  exact de_of (pe_callB call_isZT hg hm PyProof.Rows.Boot.«isinstance» (pa_cons he (pa_cons (pe_tup h1) pa_nil s2) s1) (by decide) (by decide) s1 hpl) fun G σ H ρ O R RX Q S E d p x => ⟨G, ρ, O, _, RX, S, E, d, (fun b O1 w G1 H1 ⟨k, r, hk, hr, d1⟩ s1 S1 r1 =>
    ⟨by rw [h2.length, sizeLine_eq]; omega, fun tp ht => ⟨w, tp, vs, k.ty, us, r, rfl, upd_same, h2, tyZ_of (S1.upd' ht) r1 hk Qq hr, Qq.ok k r hr, p _ _ _ _ _ d1 s1 (S1.upd' ht) (by simp only [RB, Rp])⟩⟩), x⟩
end
end DL
end
section
set_option maxRecDepth 100000
set_option maxHeartbeats 2000000
/-! part j: fields, instances, properties, calls through a class, the own ==, {} -/
namespace DL
open PySem PySem.Spec PyProof.Rows L2

/-- a def at an address, by data -/
structure CalA (P : Program) (w : World) (K : PySem.W.Frag) (mg : Str → Option Value) (base : Heap) (tabs : List (Addr × Str)) (k : Nat) (f : Addr) (F : FSp) : Prop where
  ex : ∃ (fd : FuncData) (ps : List Str), FnOk P w K mg base (L2.CX P w) k f fd ps (lift tabs K F) ∧ Binds K fd ps []

theorem zip_get {G : Hp} {f : Str} : ∀ {ns : List Str} {xs : List V} {ds : List D} {d : D}, Rps G xs ds → (ns.zip ds).lookup f = some d → ∃ v, (ns.zip xs).lookup f = some v ∧ Rp G v d
  | [], _, _, _, _, h => by simp at h
  | n :: ns, [], [], d, _, h => by simp at h
  | n :: ns, x :: xs, y :: ds, d, r, h => by
    simp only [List.zip_cons_cons, List.lookup_cons] at h ⊢
    split at h
    · cases h
      rename_i hh
      exact ⟨x, rfl, r.inv.1⟩
    · rename_i hh
      obtain ⟨v, h1, h2⟩ := zip_get (ns := ns) r.inv.2 h
      exact ⟨v, h1, h2⟩
  | _ :: _, [], _ :: _, _, r, _ => by simp only [Rps] at r
  | _ :: _, _ :: _, [], _, r, _ => by simp only [Rps] at r
theorem zip_getB {G : Hp} {f : Str} : ∀ {ns : List Str} {xs : List V} {ds : List B} {d : B}, RBs G xs ds → (ns.zip ds).lookup f = some d → ∃ v, (ns.zip xs).lookup f = some v ∧ RB G v d
  | [], _, _, _, _, h => by simp at h
  | n :: ns, [], [], d, _, h => by simp at h
  | n :: ns, x :: xs, y :: ds, d, r, h => by
    simp only [List.zip_cons_cons, List.lookup_cons] at h ⊢
    split at h
    · cases h
      rename_i hh
      exact ⟨x, rfl, r.1⟩
    · rename_i hh
      obtain ⟨v, h1, h2⟩ := zip_getB (ns := ns) r.2 h
      exact ⟨v, h1, h2⟩
  | _ :: _, [], _ :: _, _, r, _ => r.elim
  | _ :: _, _ :: _, [], _, r, _ => r.elim
theorem putF_new {f : Str} {v : V} : ∀ {ns : List Str} {xs : List V}, ns.length = xs.length → f ∉ ns → putF f v (ns.zip xs) = (ns ++ [f]).zip (xs ++ [v])
  | [], [], _, _ => rfl
  | n :: ns, x :: xs, hl, hf => by
    show (if n = f then (n, v) :: ns.zip xs else (n, x) :: putF f v (ns.zip xs)) = _
    rw [if_neg (fun e => hf (by rw [e]; exact List.mem_cons_self ..)), putF_new (by simpa using hl) (fun h => hf (List.mem_cons_of_mem _ h))]
    rfl
  | [], _ :: _, hl, _ => by simp at hl
  | _ :: _, [], hl, _ => by simp at hl
theorem putF_len (f : Str) (v : V) : ∀ fs : List (Str × V), (putF f v fs).length ≤ fs.length + 1
  | [] => Nat.le_refl _
  | (g, x) :: r => by
    show (if g = f then (g, v) :: r else (g, x) :: putF f v r).length ≤ _
    split
    · simp
    · have := putF_len f v r
      simp only [List.length_cons]; omega
/-- a class whose instances' fields are plain -/
structure FldC (K : PySem.W.Frag) (C : Addr) (f : Str) : Prop where
  cl : Cls K C
  no : NoAttr K C f
theorem Sep.insAt {T : Tb} {G H : Hp} {O : Ow} {a C : Addr} {ns : List Str} {bs : List B} (S : Sep T G H O) (m : (a, .ins C ns bs) ∈ O) : ∃ dx vs, H a = some (.ins C dx (ns.zip vs)) ∧ ns.length = vs.length ∧ ns.length ≤ 100 ∧ RBs G vs bs := by
  obtain ⟨h, ⟨dx, vs, e1, e2, e3, e4, e5, r, n⟩, sm, _⟩ := S.chunk m
  exact ⟨dx, vs, sm _ _ e1, e4, e5, r⟩

section
variable {X : Cx} {T : Tb} {W : WX} {pos p p2 apos : Pos} {a b c e o : Expr} {cs es : List Expr} {α β θ : DTE} {η : DTA} {x f : Str} {u : Value} {us : List Value} {q : Kd → Option Bool}
/-! ### e.f -/
abbrev fldG (L : List Addr) (f : Str) : F1 := fun b O R => (∃ C ns ds d, b = .d (.ins C ns ds) ∧ C ∈ L ∧ (ns.zip ds).lookup f = some d ∧ R (.d d) O) ∨ ∃ a C ns bs d, b = .v (.ref a) ∧ (a, .ins C ns bs) ∈ O ∧ C ∈ L ∧ (ns.zip bs).lookup f = some d ∧ R d O
abbrev dFld (L : List Addr) (f : Str) (α : DTE) : DTE := dUn (fldG L f) α
theorem de_fld {L : List Addr} (he : DE X T W e α) (hC : ∀ C ∈ L, FldC X.K C f) (hb : attributeBase e f X.env (eval e X.env) = eval e X.env := by rfl) : DE X T W (.Attribute e f pos) (dFld L f α) :=
  de_of (pe_fld he hb) fun G σ H ρ O R RX Q S E d p x => ⟨G, ρ, O, _, RX, S, E, d, (fun b O1 v G1 H1 d1 s1 S1 r1 => by
    rcases d1 with ⟨C, ns, ds, d, rfl, hL, hl, d1⟩ | ⟨a, C, ns, bs, d, rfl, m, hL, hl, d1⟩
    · simp only [RB, Rp] at r1
      obtain ⟨a, dx, xs, rfl, h1, h2, h3, h4⟩ := r1
      obtain ⟨w, e1, r2⟩ := zip_get h4 hl
      exact ⟨a, C, dx, _, w, rfl, S1.sub _ _ h1, (hC C hL).cl, (hC C hL).no, e1, p _ _ _ _ _ d1 s1 S1 r2⟩
    · have ev : v = _ := r1
      subst ev
      obtain ⟨dx, vs, h1, h2, h3, h4⟩ := S1.insAt m
      obtain ⟨w, e1, r2⟩ := zip_getB h4 hl
      exact ⟨a, C, dx, _, w, rfl, h1, (hC C hL).cl, (hC C hL).no, e1, p _ _ _ _ _ d1 s1 S1 r2⟩), x⟩
/-! ### o.f = e, a new field of an instance that is owned -/
abbrev dStF (L : List Addr) (f : Str) (α θ : DTE) : DTS := fun Δ ρ O => θ ρ O (fun y O1 => α ρ O1 (fun b O2 => ∃ a C ns bs, b = .v (.ref a) ∧ (a, .ins C ns bs) ∈ O2 ∧ C ∈ L ∧ f ∉ ns ∧ ns.length < 100 ∧ Δ.nx ρ (oset O2 a (.ins C (ns ++ [f]) (bs ++ [y])))) (xat Δ ρ)) (xat Δ ρ)
theorem ds_stF {L : List Addr} {v : Expr} (ho : DE X T W o α) (hv : DE X T W v θ) (hC : ∀ C ∈ L, FldC X.K C f) (hs : swapsWith v (some (.Attribute o f p2)) pos.line X.env = pure false := by rfl) : DS X T W (.Assign [.Attribute o f p2] v pos) (dStF L f α θ) :=
  ds_of (ps_fld ho hv hs) fun G σ H ρ O Δ D S E d p => ⟨G, ρ, O, _, _, S, E, d, (fun y O1 u G1 H1 d1 s1 S1 r1 => ⟨G1, ρ, O1, _, _, S1, E.mono s1, d1, (fun b O2 w G2 H2 d2 s2 S2 r2 => by
    obtain ⟨a, C, ns, bs, rfl, m, hL, hf, hz, d2⟩ := d2
    have ev : w = _ := r2
    subst ev
    obtain ⟨h, ⟨dx, vs, e1, e2, e3, e4, e5, r, n⟩, sm, dj, k, _⟩ := S2.chunk m
    refine ⟨a, C, dx, ns.zip vs, rfl, sm _ _ e1, (hC C hL).cl, (hC C hL).no, ?_, ?_⟩
    · rw [List.length_zip]; omega
    · rw [putF_new e4 hf]
      refine p.nx _ _ _ _ _ d2 (s1.trans s2) (k a _ _ _ e1 (fun _ z => nomatch z) (fun _ z => nomatch z) (fun _ _ z => nomatch z) ?_) (E.mono (s1.trans s2))
      refine ⟨dx, vs ++ [u], upd_same, ?_, e3, ?_, ?_, RBs.app r ⟨r1.mono s2, trivial⟩, fun b hb hd => ?_⟩
      · rw [upd_ne e3]; exact e2
      · rw [List.length_append, List.length_append, e4]; rfl
      · rw [List.length_append]; show ns.length + 1 ≤ 100; omega
      · rw [upd_ne hb]; exact n b hb hd), (p.mono s1).xat (E.mono s1)⟩), p.xat E⟩

/-! ### instances made -/
theorem Sep.make {G H : Hp} {O : Ow} {x dx C : Addr} (S : Sep T G H O) (hx : H x = none) (hd : H dx = none) (hne : dx ≠ x) : Sep T G (upd (upd H dx (.own x)) x (.ins C dx [])) ((x, .ins C [] []) :: O) := by
  have h1 : (upd H dx (.own x)) x = none := by rw [upd_ne (Ne.symm hne)]; exact hx
  refine S.ownC (c := upd (upd (fun _ => none) dx (.own x)) x (.ins C dx [])) ((Same.upd hd).trans (Same.upd h1)) ⟨dx, [], upd_same, ?_, hne, rfl, Nat.zero_le _, trivial, fun b hb hbd => ?_⟩ fun b u e => ?_
  · rw [upd_ne hne, upd_same]
  · rw [upd_ne hb, upd_ne hbd]
  · by_cases hb : b = x
    · subst hb
      rw [upd_same] at e ⊢
      exact ⟨hx, e⟩
    · rw [upd_ne hb] at e ⊢
      by_cases hbd : b = dx
      · subst hbd
        rw [upd_same] at e ⊢
        exact ⟨hd, e⟩
      · rw [upd_ne hbd] at e; cases e
def mkG (C : Addr) (F : FSp) (T : Tb) (bs : List B) (O : Ow) (R : DK) (RX : DX) : Prop :=
  ∀ q, (∀ r ∈ O, r.1 ≠ q) → F T (.v (.ref q) :: bs) ((q, .ins C [] []) :: O) (fun b O2 => b = .d .non ∧ frzK [.v (.ref q)] O2 fun ds O3 => ∃ d, ds = [d] ∧ R (.d d) O3) RX
theorem mk_lift {tabs : List (Addr × Str)} (hT : T.tabs = tabs) (hK : T.K = X.K) {G H : Hp} {O : Ow} {bs : List B} {vs : List V} {C : Addr} {F : FSp} {R : DK} {RX : DX} {Q : VK} {E : XK} (S : Sep T G H O) (r : RBs G vs bs) (h : mkG C F T bs O R RX) (p : Post T G R Q) (x : XPost T G RX E) :
    ∀ y dx, H y = none → H dx = none → dx ≠ y → lift tabs X.K F (.ref y :: vs) (upd (upd H dx (.own y)) y (.ins C dx [])) (fun v H2 => v = .non ∧ Q (.ref y) H2) E := fun y dx hy hd hne => by
  subst hT
  rw [← hK]
  refine ⟨T.scr, G, .v (.ref y) :: bs, (y, .ins C [] []) :: O, _, RX, ⟨rfl, r⟩, S.make hy hd hne, h y (S.fresh hy), fun b O2 v G2 H2 ⟨e, h2⟩ s2 S2 r2 => ?_, x⟩
  subst e
  obtain ⟨ds, O3, G3, ⟨d, e3, h3⟩, s3, S3, r3⟩ := frzK_ok (bs := [.v (.ref y)]) (vs := [.ref y]) S2 ⟨rfl, trivial⟩ h2
  subst e3
  exact ⟨by simpa only [RB, Rp] using r2, p _ _ _ _ _ h3 (s2.trans s3) S3 r3.inv.1⟩
theorem run_makeS {k : Nat} {C f : Addr} {fd : FuncData} {ps : List Str} {sp : Sp} {E : L2.St → XK} {pins : List (Addr × Obj)} {σ : L2.St} {H : Hp} {s : Shared} {Q : VK} {us : List Value} {vs : List V} (M : Mk X.K C f) (F : FnOk X.prog X.w X.K X.mg X.base (L2.CX X.prog X.w) k f fd ps sp) (hr : Room (k + 1) X.A) (hb : Binds X.K fd ps [])
    (hx : PassesAt (L2.CX X.prog X.w) X σ (E σ)) (I : Inv X pins σ H s) (r : Vals vs us)
    (h : ∀ x dx, H x = none → H dx = none → dx ≠ x → sp (.ref x :: vs) (upd (upd H dx (.own x)) x (.ins C dx [])) (fun v H2 => v = .non ∧ Q (.ref x) H2) (E σ)) :
    wpAny (model X.prog X.w) X.A (call (.ref C) us) (EP X pins σ Q) X.xe s := by
  have hq := h (s.heap.objs.size + 1) s.heap.objs.size (I.hok.fresh (Nat.le_succ _)) (I.hok.fresh (Nat.le_refl _)) (Nat.ne_of_lt (Nat.lt_succ_self _))
  have J := Inv.made (C := C) I
  have rr : Vals (V.ref (s.heap.objs.size + 1) :: vs) (Value.ref (s.heap.objs.size + 1) :: us) := .cons rfl r
  have hl : (Value.ref (s.heap.objs.size + 1) :: us).length = ps.length := by rw [← rr.length]; exact F.len _ _ _ _ hq
  have hbb := hb _ (Value.ref (s.heap.objs.size + 1) :: us) J.kIn (by rw [List.append_nil]; exact hl)
  rw [List.append_nil] at hbb
  refine wpAny_call (make_map (f := f) I.kIn M.makes M.init (beq_iff_eq.mp M.fn) (codeAny_mono (F.run _ X.stack _ _ ⟨Value.ref (s.heap.objs.size + 1) :: us, []⟩ (Value.ref (s.heap.objs.size + 1) :: us) _ _ (E σ) (hr.make C us []) (J.env0.make C us []) hbb rr hq) fun z s' hz => ?_))
  match z, hz with
  | .error e, hz => exact hx pins _ _ e s' J hz
  | .ok (.ret y), hz =>
    obtain ⟨v, H', J', rv, ev, q3⟩ := J.after hz
    subst ev
    exact ⟨rv, V.ref (s.heap.objs.size + 1), H', J', rfl, q3⟩
  | .ok .next, hz => exact hz.elim
  | .ok .brk, hz => exact hz.elim
  | .ok .cont, hz => exact hz.elim
abbrev dMake (C : Addr) (F : FSp) (T : Tb) (η : DTA) : DTE := fun ρ O R RX => η ρ O (fun bs O1 => mkG C F T bs O1 R RX) RX
theorem de_make {tabs : List (Addr × Str)} {k j : Nat} {C f : Addr} {F : FSp} (hT : T.tabs = tabs) (hK : T.K = X.K) (M : Mk X.K C f) (c : CalA X.prog X.w X.K X.mg X.base tabs k f F) (hr : Room j X.A) (hk : k + 1 ≤ j) (tk : Takes X W) (ha : DA X T W (e :: es) η) (hm : X.mg x = some (.ref C)) (hg : Gl X x := by rfl)
    (hdb : (x == ("__debug__" : Str)) = false := by decide) (he : starEach (e :: es) X.env = (false, eval e X.env) :: starEach es X.env := by rfl) (hpl : (backTo pos (starEach es X.env)).any (·.1) = false := by rfl) :
    DE X T W (.Call (.Name x p) (e :: es) [] pos) (dMake C F T η) := by
  obtain ⟨fd, ps, F0, hb⟩ := c.ex
  refine ⟨fun pins s σ H Q I ⟨G, ρ, O, R, RX, S, E, d, pp, xx⟩ => ?_⟩
  refine wpAny_Call_Name_kw (ld_glob I hg hm ?_ hdb)
  refine PySem.W.callWith_K (h₀ := X.base) I.ok.mod.kin M.kp (thn (ha.run pos pins s σ H (fun vs H1 => ∀ y dx, H1 y = none → H1 dx = none → dx ≠ y → lift tabs X.K F (.ref y :: vs) (upd (upd H1 dx (.own y)) y (.ins C dx [])) (fun v H2 => v = .non ∧ Q (.ref y) H2) (WE W σ)) I ?_) fun us s1 ⟨vs, H1, I1, r1, q⟩ => ⟨I1.kIn, ?_⟩) he hpl
  · exact ⟨G, ρ, O, _, RX, S, E, d, fun bs O1 vs G1 H1 d1 s1 S1 r1 => mk_lift hT hK S1 r1 d1 (pp.mono s1) (xx.mono s1), xx⟩
  · exact run_makeS (E := WE W) M F0 (hr.mono hk) hb (passAt tk σ) I1 r1 q
/-- C(k = v, ..), the names in the sequence ks; g puts them in their places; nothing is raised -/
def noXB : DX := fun _ _ => False
abbrev dMakeK (C : Addr) (F : FSp) (T : Tb) (g : List B → List B) (n : Nat) (η : DTA) : DTE := fun ρ O R RX => η ρ O (fun bs O1 => bs.length = n ∧ mkG C F T (g bs) O1 R noXB) RX
def DKw (X : Cx) (T : Tb) (W : WX) (kws : List Keyword) (η : DTA) : Prop := PK X kws (canA T W η)
theorem dk_nil : DKw X T W [] dNil := ⟨fun pos pins s σ H Q I ⟨G, ρ, O, R, RX, S, E, d, p, x⟩ => pk_nil.run pos pins s σ H Q I (p _ _ _ _ _ d (Same.refl _) S trivial)⟩
theorem dk_cons {nm : Option Str} {kpos : Pos} {kws : List Keyword} (ha : DE X T W e α) (hr : DKw X T W kws η) : DKw X T W (⟨nm, e, kpos⟩ :: kws) (dCons α η) :=
  ⟨fun pos pins s σ H Q I ⟨G, ρ, O, R, RX, S, E, d, p, x⟩ => (pk_cons ha hr).run pos pins s σ H Q I ⟨G, ρ, O, _, RX, S, E, d, (fun b O1 v G1 H1 d1 s1 S1 r1 => ⟨G1, ρ, O1, _, RX, S1, E.mono s1, d1, (fun bs O2 vs G2 H2 d2 s2 S2 r2 =>
    p _ _ _ _ _ d2 (s1.trans s2) S2 ⟨r1.mono s2, r2⟩), x.mono s1⟩), x⟩⟩
theorem de_makeK {tabs : List (Addr × Str)} {k j : Nat} {C f : Addr} {F : FSp} {kws : List Keyword} {ks : List Str} {fd : FuncData} {ps : List Str} {g : List Value → List Value → List Value} {gV : List V → List V → List V} {gB : List B → List B} (hT : T.tabs = tabs) (hK : T.K = X.K) (M : Mk X.K C f)
    (F0 : FnOk X.prog X.w X.K X.mg X.base (L2.CX X.prog X.w) k f fd ps (lift tabs X.K F)) (hb : KBn X.K fd ps 1 ks g gV) (hgB : ∀ (G : Hp) (y : V) (vs : List V) (bs : List B), vs.length = ks.length → RBs G vs bs → ∃ ws, gV [y] vs = y :: ws ∧ RBs G ws (gB bs)) (hr : Room j X.A) (hk : k + 1 ≤ j)
    (ha : DKw X T W kws η) (hm : X.mg x = some (.ref C)) (hg : Gl X x := by rfl)
    (hall : (backToKw pos (keywordEach kws X.env)).all (·.1.isSome) = true := by rfl) (hks : (backToKw pos (keywordEach kws X.env)).filterMap (·.1) = ks := by rfl) (hdb : (x == ("__debug__" : Str)) = false := by decide)
    (hpl : ((backTo pos (starEach [] X.env)).any (·.1) || (backToKw pos (keywordEach kws X.env)).any (·.1.isNone)) = false := by rfl) :
    DE X T W (.Call (.Name x p) [] kws pos) (dMakeK C F T gB ks.length η) :=
  de_of (pe_makeK0 M F0 (hr.mono hk) hg hm hb (passes_call LamX.takes0 (E := fun _ _ _ => False) fun _ _ _ _ z => z.elim) ha hall hks hdb hpl) fun G σ H ρ O R RX Q S E d p x =>
    ⟨G, ρ, O, _, RX, S, E, d, (fun bs O1 vs G1 H1 ⟨hn, d1⟩ s1 S1 r1 => ⟨rfl, by rw [r1.len]; exact hn, fun y dx hy hd hne => by
      obtain ⟨ws, e, rw_⟩ := hgB G1 (.ref y) vs bs (by rw [r1.len]; exact hn) r1
      rw [e]
      exact mk_lift hT hK S1 rw_ d1 (p.mono s1) (fun _ _ _ _ _ _ z => z.elim) y dx hy hd hne⟩), x⟩

/-! ### C.m(e, ..), a def of a class, called through it -/
structure ClsF (K : PySem.W.Frag) (C : Addr) (mc : Value) (m : Str) (f : Addr) : Prop where
  rd : PySem.W.readsIn K C mc = true
  ga : PySem.W.specialIn K (.ref C) "__getattribute__" = some (some (.builtin "type.__getattribute__"))
  at_ : PySem.W.findCls K (.ref C) mc m = some (.val (.ref f))
  kp : PySem.W.keepIn K (.ref f) = true
theorem de_clscall {tabs : List (Addr × Str)} {k j : Nat} {C f : Addr} {mc : Value} {m : Str} {F : FSp} {pl : Sem Bool} (hT : T.tabs = tabs) (hK : T.K = X.K) (k0 : ClsF X.K C mc m f) (c : CalA X.prog X.w X.K X.mg X.base tabs k f F) (hr : Room j X.A) (hk : k ≤ j) (tk : Takes X W) (ha : DA X T W (e :: es) η) (hm : X.mg x = some (.ref C)) (hg : Gl X x := by rfl)
    (hdb : (x == ("__debug__" : Str)) = false := by decide)
    (hc : eval (.Call (.Attribute (.Name x p) m apos) (e :: es) [] pos) X.env = (do
      let ov ← eval (.Name x p) X.env
      standAt apos.atName
      let (f, first) ← holding [ov] (getMethod ov m pl)
      callWith pos f first (backTo pos (starEach (e :: es) X.env)) (backToKw pos (keywordEach [] X.env))) := by rfl)
    (he : starEach (e :: es) X.env = (false, eval e X.env) :: starEach es X.env := by rfl) (hpl : (backTo pos (starEach es X.env)).any (·.1) = false := by rfl) :
    DE X T W (.Call (.Attribute (.Name x p) m apos) (e :: es) [] pos) (dCall F T η) := by
  obtain ⟨fd, ps, F0, hb⟩ := c.ex
  subst hT
  refine ⟨fun pins s σ H Q I ⟨G, ρ, O, R, RX, S, E, d, pp, xx⟩ => ?_⟩
  refine PySem.W.methodCall_KW (pl := pl) (ld_glob I hg hm ?_ hdb) hc
  refine PySem.W.method_cls I.kIn k0.ga (PySem.W.cls_value I.kIn k0.rd k0.at_ rfl ?_)
  refine PySem.W.callWith_K (h₀ := X.base) (first := []) I.ok.mod.kin k0.kp (thn (ha.run pos pins _ σ H (fun vs H1 => lift T.tabs X.K F vs H1 Q (WE W σ)) (I.tok _) ?_) fun us s1 ⟨vs, H1, I1, r1, q⟩ => ⟨I1.kIn, ?_⟩) he hpl
  · exact ⟨G, ρ, O, _, RX, S, E, d, fun bs O1 vs G1 H1 d1 s1 S1 r1 => by rw [← hK]; exact lift_of S1 r1 d1 (pp.mono s1) (xx.mono s1), xx⟩
  · exact run_fnS (E := WE W) F0 (hr.mono hk) hb (passAt tk σ) I1 r1 q

/-! ### properties: the getter at g, for instances of the classes L -/
structure PrpC (P : Program) (w : World) (K : PySem.W.Frag) (mg : Str → Option Value) (base : Heap) (tabs : List (Addr × Str)) (k : Nat) (C : Addr) (f : Str) (F : FSp) : Prop where
  cl : Cls K C
  ex : ∃ p g, PropOf K C f p g ∧ CalA P w K mg base tabs k g F
abbrev prpG (L : List Addr) (F : FSp) (T : Tb) : F1 := fun b O R => ∃ C ns ds, b = .d (.ins C ns ds) ∧ C ∈ L ∧ F T [b] O R noXB
theorem de_prop {tabs : List (Addr × Str)} {k j : Nat} {L : List Addr} {F : FSp} (hT : T.tabs = tabs) (hK : T.K = X.K) (he : DE X T W e α) (hC : ∀ C ∈ L, PrpC X.prog X.w X.K X.mg X.base tabs k C f F) (hr : Room j X.A) (hk : k + 1 ≤ j)
    (hb : attributeBase e f X.env (eval e X.env) = eval e X.env := by rfl) : DE X T W (.Attribute e f pos) (dUn (prpG L F T) α) := by
  subst hT
  refine ⟨fun pins s σ H Q I ⟨G, ρ, O, R, RX, S, E, d, pp, xx⟩ => ?_⟩
  refine attr_of hb (thn (he.run pins s σ H (fun v H1 => ∃ C a dx fs, v = .ref a ∧ H1 a = some (.ins C dx fs) ∧ C ∈ L ∧ lift T.tabs X.K F [v] H1 Q (fun _ _ _ => False)) I ?_) fun u s1 ⟨v, H1, I1, rv, C, a, dx, fs, e1, ea, hL, q⟩ => ?_)
  · refine ⟨G, ρ, O, _, RX, S, E, d, fun b O1 v G1 H1 ⟨C, ns, ds, e1, hL, d1⟩ s1 S1 r1 => ?_, xx⟩
    subst e1
    have r0 := r1
    simp only [RB, Rp] at r1
    obtain ⟨a, dxa, xs, rfl, h1, h2, h3, h4⟩ := r1
    refine ⟨C, a, dxa, _, rfl, S1.sub _ _ h1, hL, ?_⟩
    rw [← hK]
    exact lift_of (bs := [.d (.ins C ns ds)]) S1 ⟨r0, trivial⟩ d1 (pp.mono s1) (fun _ _ _ _ _ _ z => z.elim)
  · subst e1
    obtain rfl : u = Value.ref a := rv
    obtain ⟨pa, g, hp, c⟩ := (hC C hL).ex
    obtain ⟨fd, ps, F0, hbn⟩ := c.ex
    exact getprop_ok I1 ea (hC C hL).cl hp F0 (hr.mono hk) hbn .nil (passes_call LamX.takes0 fun _ _ _ _ z => z.elim) q

/-! ### the own == -/
abbrev eqOwnG (C : Addr) (q : Kd → Option Bool) (F : FSp) (T : Tb) : F2 := fun x y O R => ∃ ns ds k r, x = .d (.ins C ns ds) ∧ kB y O k ∧ q k = some r ∧ (r = true → k = .ins C) ∧ F T [x, y] O (fun b O' => ∃ z, b = .d (.bl z) ∧ R b O') noXB
def rEqOwn (K : PySem.W.Frag) (C : Addr) (sp : Sp) : R2 := fun x y H Q => ∃ a dx fs t b, x = .ref a ∧ H a = some (.ins C dx fs) ∧ TyZ K H y t ∧ PySem.W.kitOne K t (.ref C) = some b ∧ (b = true → t = .ref C) ∧ sp [x, y] H (fun v H' => (∃ r, v = .bl r) ∧ Q v H') fun _ _ _ => False
theorem notFirst_of {K : PySem.W.Frag} {C : Addr} {t : Value} {b : Bool} (h : PySem.W.kitOne K t (.ref C) = some b) (hb : b = true → t = .ref C) : PySem.W.notFirst K C t = true := by
  unfold PySem.W.notFirst
  by_cases e : t = .ref C
  · subst e
    simp
  · unfold PySem.W.kitOne at h
    have e2 : (t == Value.ref C) = false := by simpa using e
    rw [e2, if_neg Bool.false_ne_true] at h
    unfold PySem.W.kitCls at h
    simp only at h
    split at h
    · have : b = false := by
        cases b with
        | true => exact absurd (hb rfl) e
        | false => rfl
      rw [h, this]
      simp
    · cases h
theorem opr_eqOwn {tabs : List (Addr × Str)} {k : Nat} {C f : Addr} {F : FSp} (hs : PySem.W.findIn X.K (.ref C) "__eq__" = some (some (.ref f))) (hf : PySem.W.isFn X.K (.ref f) = true) (c : CalA X.prog X.w X.K X.mg X.base tabs k f F) (hr : Room k X.A) : OpR X (compareOp .Eq) (rEqOwn X.K C (lift tabs X.K F)) := by
  intro pins s σ H x y v u Q I rx ry hq
  obtain ⟨a, dx, fs, t, b, rfl, ea, ty, kt, hb, hsp⟩ := hq
  obtain ⟨fd, ps, F0, hbn⟩ := c.ex
  cases rx
  obtain ⟨mA, J, _⟩ := ins_get I.hok ea
  obtain ⟨od, J, _⟩ := J.look
  obtain ⟨P, Z, hp, _⟩ := kitZ I ry ty
  obtain ⟨m, hF⟩ := I.fr
  show wpAny (model X.prog X.w) X.A (richCompare .Eq (.ref a) u) (EP X pins σ Q) X.xe s
  refine PySem.W.cmp_K (op := .Eq) (tb := t) hr.units0 hF I.ok.mod.kin J (Z.ty _ _ I.kIn hp) (notFirst_of kt hb) hs hf ?_
  have hl := F0.len _ _ _ _ hsp
  have rr : Vals [V.ref a, y] [Value.ref a, u] := .cons rfl (.cons ry .nil)
  refine wpAny_mono (run_fn F0 hr hbn .nil (passes_call LamX.takes0 fun _ _ _ _ z => z.elim) I rr hsp) (fun z s' hz => ?_) fun _ _ z => z
  obtain ⟨v, H', I', rv, ⟨r, ev⟩, q⟩ := hz
  subst ev
  cases rv
  exact ⟨.bl r, H', I', rfl, q⟩
theorem op2_eqOwn {tabs : List (Addr × Str)} {C : Addr} {F : FSp} (hT : T.tabs = tabs) (hK : T.K = X.K) (Qq : IsQ X.K [.ref C] q) : Op2 T (rEqOwn X.K C (lift tabs X.K F)) (eqOwnG C q F T) := by
  intro G H O x y b c R Q S rb rc h p
  obtain ⟨ns, ds, k, r, e1, hk, hr, hb, h⟩ := h
  subst e1
  have r0 := rb
  simp only [RB, Rp] at rb
  obtain ⟨a, dxa, xs, rfl, h1, h2, h3, h4⟩ := rb
  refine ⟨a, dxa, _, k.ty, r, rfl, S.sub _ _ h1, tyZ_of S rc hk Qq hr, kit_one (Qq.ok k r hr), fun e => by rw [hb e]; rfl, ?_⟩
  subst hT
  rw [← hK]
  refine lift_of (bs := [.d (.ins C ns ds), c]) S ⟨r0, rc, trivial⟩ h (fun b O' v G' H' ⟨z, ez, hz⟩ s' S' r' => ⟨⟨z, ?_⟩, p _ _ _ _ _ hz s' S' r'⟩) (fun _ _ _ _ _ _ z => z.elim)
  subst ez
  simpa only [RB, Rp] using r'
theorem Op2.or {r r' : R2} {f g : F2} (h : Op2 T r f) (h' : Op2 T r' g) : Op2 T (fun x y H Q => r x y H Q ∨ r' x y H Q) (fun x y O R => f x y O R ∨ g x y O R) := fun G H O x y b c R Q S rb rc d p => by
  rcases d with d | d
  · exact .inl (h G H O x y b c R Q S rb rc d p)
  · exact .inr (h' G H O x y b c R Q S rb rc d p)

/-! ### {} -/
abbrev dEmp : DTE := fun _ O R _ => R (.d .emp) O
theorem de_emp : DE X T W (.Dict [] [] pos) dEmp :=
  de_of pe_dnewK fun G σ H ρ O R RX Q S E d p x => fun a ha => p _ _ _ _ _ d (Same.upd (S.gfresh ha)) (S.frz ha (fun _ z => nomatch z)) (by simp only [RB, Rp]; exact ⟨a, rfl, upd_same⟩)
end
end DL
end
section
set_option maxRecDepth 100000
set_option maxHeartbeats 2000000
/-! part k: own exceptions whose __init__ says super().__init__('..') and keeps one field -/
namespace DL
open PySem PySem.Spec PyProof.Rows L2 PySem.W

/-- the __init__ at fI, of the class at D, as the class at C uses it: super().__init__(msg); self.f = y -/
structure SupI (K : PySem.W.Frag) (prog : Program) (C D fI : Addr) (f y : Str) (fd : FuncData) (body : List Stmt) (scope : Scope) (cda cc : Addr) : Prop where
  fn : ∃ oc od osl name qual params dV kV doc pm an ct, K.lookup fI = some ⟨oc, od, .func fd, osl⟩ ∧ fd = ksFn name qual params body scope dV kV doc pm an (.ref cda) ct cc ∧ codeIn K (.ref cda) qual = true
  body_ : ∃ (msg : Str) (j : Nat) (p0 p1 p2 p3 p4 p5 p6 p7 p8 p9 : Pos), body = [.Expr (.Call (.Attribute (.Call (.Name "super" p0) [] [] p1) "__init__" p2) [.Constant (.str msg) j p3] [] p4) p5, .Assign [.Attribute (.Name "self" p6) f p7] (.Name y p8) p9] ∧
    (∀ env : Env, ∃ pl, eval (.Call (.Attribute (.Call (.Name "super" p0) [] [] p1) "__init__" p2) [.Constant (.str msg) j p3] [] p4) env = (do
      let ov ← attributeBase (.Call (.Name "super" p0) [] [] p1) "__init__" env (eval (.Call (.Name "super" p0) [] [] p1) env)
      standAt p2.atName
      let (f, first) ← holding [ov] (getMethod ov "__init__" pl)
      callWith p4 f first (backTo p4 (starEach [.Constant (.str msg) j p3] env)) [])) ∧
    (∀ env : Env, swapsWith (.Call (.Attribute (.Call (.Name "super" p0) [] [] p1) "__init__" p2) [.Constant (.str msg) j p3] [] p4) none p5.line env = pure false) ∧
    (∀ env : Env, swapsWith (.Name y p8) (some (.Attribute (.Name "self" p6) f p7)) p9.line env = pure false)
  binds : ∀ us : List Value, us.length = 2 → bindArgs fd ⟨us, []⟩ = pure ([("self" : Str), y].zip us)
  head : ∃ ar, (fd.params.posonlyargs ++ fd.params.args).head? = some ar ∧ ar.arg = "self"
  hs : scope.names.lookup ("self" : Str) = some .local
  hy : scope.names.lookup y = some .local
  hys : y ≠ "self"
  hyd : (y == ("__debug__" : Str)) = false
  hsup : scope.names.lookup ("super" : Str) = some .globalImplicit
  hcl : scope.names.lookup ("__class__" : Str) = some .free
  nocell : ∀ x ∈ scope.names, x.2 ≠ .cell
  co : scope.isCoroutine = false
  gen : scope.isGenerator = false
  kind : scope.kind = .function
  code : ∃ ccl cdd vs ccs file tf, K.lookup cda = some ⟨ccl, cdd, .fields vs, ccs⟩ ∧ vs[2]? = some (.str file tf) ∧ ((prog.main.file : Str) == file) = true
  cell : ∃ cl cld csl, K.lookup cc = some ⟨cl, cld, .cell (some (.ref D)), csl⟩
  dcl : (clsIn K D).isSome = true
  sub : mroIn K C (.ref D) = some true
  sup : nsIn K mainGlobals "super" = some none
  top : (prog.main.scope.names.lookup ("super" : Str)).isSome = false
  opq : nsIn K cStatics "thirdparty.any" = some none
  along : ks_superIn K C D "__init__" = some (some (.builtin "ValueError.__init__"))
  sve : subIn K (.ref C) (.type "ValueError") = some true
  no : findIn K (.ref C) f = some none

section
variable {M : Model} {A : Around} {E : Value → Shared → Prop} {h : Heap} {g : Array GenState} {d : Drawn} {t : Nat} {os : OsState}
variable {nm q : Str} {C N : Addr} {bs bm : List Value} {hdct : Bool} {sn : List Str} {sub : List Value} {ab : Bool} {col : Option Bool} {dd : Option Addr} {k0 k1 k2 k3 k5 : Option Value} {prog : Program} {w : World}
/-- ValueError.__init__ bound to the instance at e, called -/
theorem call_mwV {u e t0 : Addr} {rest : List Value} {Q : Value → Shared → Prop}
    (hC : h.get? C = some (excClassObj nm q C N bs bm hdct sn sub ab col dd k0 k1 k2 k3 k5 "ValueError.__new__")) (he : h.get? e = some (HandSPX.excO C t0)) (hu : h.get? u = some (kxs_mw "ValueError.__init__" e)) (hrest : rest.length ≤ sizeLine)
    (hq : ∀ h' t1, (∀ b o, b ≠ e → h.get? b = some o → h'.get? b = some o) → h'.get? e = some (HandSPX.excO C t1) → Q .none ⟨h', g, d, t, os⟩) :
    wpAny (model prog w) A (call (.ref u) rest) Q E ⟨h, g, d, t, os⟩ := by
  have FB := F.excBase_ValueError
  refine wpAny_call (codeAny_of_tree ?_)
  show wpAny _ A.in1 (callAny (.ref u) ⟨rest, []⟩) _ _ _
  simp only [callAny]
  refine wpAny_bind (wpAny_load hu ?_)
  simp only [kxs_mw, show (Value.type "method-wrapper" == Value.type "method" || Value.type "method-wrapper" == Value.type "builtin_function_or_method" || Value.type "method-wrapper" == Value.type "method-wrapper") = true by decide, if_true]
  refine KFB.if_so (by decide) ?_
  refine wpAny_bind (PySem.ESX.check_bound FB hC he rfl ?_)
  refine wpAny_bind (wpAny_pure (wpAny_pure ?_))
  refine ⟨Code.quiet_builtin _ (by decide +kernel), codeAny_builtin FB.initEntry ?_⟩
  rw [Around.under_plainId FB.init.plain _]
  wp_walk
  refine hq _ h.objs.size (fun b o hb ho => ?_) ?_
  · rw [Heap.get?_update_other _ _ (Ne.symm hb)]
    exact Heap.get?_push_of_some _ ho
  · rw [Heap.get?_update_self _ (Heap.get?_push_of_some _ he) rfl]
    rfl
theorem callWith_mw {s : Shared} {pos : Pos} {u x : Addr} {i : String} {env : Env} {e : Expr} {Q : Value → Shared → Prop}
    (h : wpAny M A (spliced (backTo pos (starEach [e] env))) (fun vs s₁ => KxsAt i u x s₁.heap ∧ wpAny M A (call (.ref u) ([] ++ vs)) Q E s₁) E s)
    (he : starEach [e] env = (false, eval e env) :: starEach [] env := by rfl) :
    wpAny M A (callWith pos (.ref u) [] (backTo pos (starEach [e] env)) []) Q E s := by
  rw [he] at h ⊢
  refine kxs_callWith (x := x) (i := i) (by rfl) ?_
  exact PySem.Calls.evalArgs_plain h
end

/-- the body of such an __init__, run on the new instance at x -/
theorem sup_run {prog : Program} {w : World} {K : PySem.W.Frag} {mg : Str → Option Value} {base : Heap} {A : Around} {s : Shared} {C D fI x t0 cda cc : Addr} {f y : Str} {fd : FuncData} {body : List Stmt} {scope : Scope} {u : Value} {R : Result → Shared → Prop}
    (mod : Mod K mg base) (T : OexC K C) (S : SupI K prog C D fI f y fd body scope cda cc) (hb : ∀ b o, base.get? b = some o → s.heap.get? b = some o) (hbx : base.get? x = none) (hx : s.heap.get? x = some (HandSPX.excO C t0)) (hroom : A.depth < recursionLimit)
    (hmg : mg "super" = none)
    (hR : ∀ h' tk' dx t1, (∀ b o, b ≠ x → s.heap.get? b = some o → h'.get? b = some o) → s.heap.objs.size ≤ dx → dx ≠ x → h'.get? x = some { cls := .ref C, dict := some dx, data := .fields #[.ref t1, .none, .none, .none, .bool false, .none] } →
      h'.Ns1 dx (fun z => if z = f then some u else none) → R (.ok (.ret .none)) { s with heap := h', toks := tk' }) :
    codeAny (model prog w) A (.call (.ref fI) ⟨[.ref x, u], []⟩) R s := by
  obtain ⟨oc, od, osl, name, qual, params, dV, kV, doc, pm, an, ct, lk, rfl, hcd⟩ := S.fn
  obtain ⟨msg, j, p0, p1, p2, p3, p4, p5, p6, p7, p8, p9, rfl, hev, hsw1, hsw2⟩ := S.body_
  obtain ⟨ccl, cdd, vs, ccs, file, tf, lc, hvs, hfile⟩ := S.code
  obtain ⟨cl, cld, csl, lcc⟩ := S.cell
  obtain ⟨cdD, hD⟩ := Option.isSome_iff_exists.mp S.dcl
  obtain ⟨nm, q, N, bs, bm, sn, sub, ab, col, dd, k0, k1, k2, k3, k5, hC, hbm⟩ := T.cls
  obtain ⟨ar, hhd, har⟩ := S.head
  have X0 : K.In s.heap := mod.kin.keeps hb
  have hcl : clsIn K C = some { name := nm, bases := bs, mro := .ref C :: bm, ns := N, qualname := q, hasDict := true, slotNames := sn, subclasses := sub, abstract := ab, collection := col, hasDel := false } := by unfold clsIn; rw [hC] <;> rfl
  have hbind : BindsTo s (ksFn name qual params [.Expr (.Call (.Attribute (.Call (.Name "super" p0) [] [] p1) "__init__" p2) [.Constant (.str msg) j p3] [] p4) p5, .Assign [.Attribute (.Name "self" p6) f p7] (.Name y p8) p9] scope dV kV doc pm an (.ref cda) ct cc) ⟨[.ref x, u], []⟩ [("self", .ref x), (y, u)] := by
    have e := S.binds [.ref x, u] rfl
    exact .of_eq e
  have xC : x ≠ C := fun z => by
    have z2 := mod.kin _ _ hC
    rw [← z, hbx] at z2; cases z2
  refine ks_codeAny_call_defAt hroom (X0 _ _ lk) rfl (mod.nolimit.keeps hb) (codeRec_of X0 hcd) rfl hbind S.nocell (fun z hz => ?_) (fun h₀ hns hk => ?_) S.co S.gen S.kind
  · rcases List.mem_cons.mp hz with e | hz
    · subst e; exact S.hs
    · rcases List.mem_cons.mp hz with e | hz
      · subst e; exact S.hy
      · simp at hz
  obtain ⟨hp, g, d, t, os⟩ := s
  have X1 : K.In h₀ := X0.keeps hk
  have lself : (([("self", Value.ref x), (y, u)] : List (Str × Value)).reverse).lookup ("self" : Str) = some (Value.ref x) := by
    have e1 : (("self" : Str) == y) = false := by simpa using (Ne.symm S.hys)
    show List.lookup ("self" : Str) [(y, u), (("self" : Str), Value.ref x)] = _
    rw [List.lookup_cons, e1]
    simp [List.lookup]
  have ly : (([(("self" : Str), Value.ref x), (y, u)] : List (Str × Value)).reverse).lookup y = some u := by
    show List.lookup y [(y, u), (("self" : Str), Value.ref x)] = _
    simp [List.lookup]
  have hx1 := hk _ _ hx
  have glob1 : ∀ {h2 : Heap}, (∀ b o, h₀.get? b = some o → h2.get? b = some o) → h2.Ns mainGlobals mg := fun {h2} k => mod.glob.keeps fun b o e => k _ _ (hk _ _ (hb _ _ e))
  obtain ⟨mb, hmb, hbb⟩ := mod.blt
  obtain ⟨pl, hpl⟩ := hev (callEnv (ksFn name qual params [.Expr (.Call (.Attribute (.Call (.Name "super" p0) [] [] p1) "__init__" p2) [.Constant (.str msg) j p3] [] p4) p5, .Assign [.Attribute (.Name "self" p6) f p7] (.Name y p8) p9] scope dV kV doc pm an (.ref cda) ct cc) hp.objs.size fI)
  refine ks_wpAt_execs_cons (ks_wpAt_Expr_any (ks_wpAt_MethodCall ?_ hpl) (by show (scope.kind == .module && _) = false; rw [S.kind]; rfl) (hsw1 _))
  refine ks_wpAt_super_base S.hsup S.hcl (by decide) rfl (X1 _ _ lk) rfl hhd rfl (X1 _ _ lc) rfl hvs hfile S.top ?_
  refine ks_loadName_global S.kind S.hsup (Calls.loadGlobal_builtin (mod.glob.keeps fun b o e => hk _ _ (hb _ _ e)) hmg (hmb.keeps fun b o e => hk _ _ (hb _ _ e)) ((hbb _ (by decide)).trans (by rfl)) ⟨rfl, ?_⟩)
  refine wpAny_loadName_free S.kind S.hcl rfl ⟨_, X1 _ _ lcc, rfl⟩ ?_
  rw [har]
  refine wpAny_loadName_local S.kind S.hs hns lself ?_
  obtain ⟨oD, hD1, hD2⟩ : ∃ oD, h₀.get? D = some oD ∧ oD.data = .cls cdD := by
    have hD' := hD
    unfold clsIn at hD'
    split at hD'
    · rename_i c d2 cd' sl ho
      cases hD'
      exact ⟨_, X1 _ _ ho, rfl⟩
    · cases hD'
  refine ks_wpAny_isType_cls hD1 hD2 ⟨rfl, ?_⟩
  refine ks_wpAny_call_super hD1 hD2 hx1 rfl (fun c e => nomatch e) (looks_mroIn X1 S.sub) (fun h2 hso k2 => ?_)
  have X2 : K.In h2 := X1.keeps k2
  have hx2 := k2 _ _ hx1
  refine kxs_getMethod kxs_ValueError hso (looks_opaque X2 S.opq) (l₀ := .ref C :: bm) ?_ (l := ((Value.ref C :: bm).dropWhile (· != .ref D)).drop 1) rfl X2 ?_ ?_ xC (by decide) ?_
  · exact fun A Q E s k q => wpAny_bind ((looks_clsIn X2 hcl) A _ E s k (wpAny_pure q))
  · have z := S.along
    unfold ks_superIn at z
    rw [hcl] at z
    exact z
  · have J : InstAt h2 x (HandSPX.excO C t0) C none := ⟨hx2, rfl, rfl, trivial⟩
    exact (J.type).andThen (looks_subIn X2 S.sve)
  have hx3 : (h2.push (kxs_mw "ValueError.__init__" x)).get? x = some (HandSPX.excO C t0) := Heap.get?_push_of_some _ hx2
  have k3 : ∀ b o, h2.get? b = some o → (h2.push (kxs_mw "ValueError.__init__" x)).get? b = some o := fun b o e => Heap.get?_push_of_some _ e
  have hu3 : (h2.push (kxs_mw "ValueError.__init__" x)).get? h2.objs.size = some (kxs_mw "ValueError.__init__" x) := Heap.get?_push_size _ rfl
  refine callWith_mw (i := "ValueError.__init__") (x := x) ?_
  show wpAny _ _ (spliced [(false, eval (.Constant (.str msg) j p3) _)]) _ _ _
  refine PySem.Calls.spliced_cons ?_
  refine PySem.Calls.Constant_str ?_
  refine PySem.Calls.spliced_nil ⟨hu3, ?_⟩
  refine call_mwV (k3 _ _ (k2 _ _ (hk _ _ (hb _ _ (mod.kin _ _ hC))))) hx3 hu3 (by show 1 ≤ sizeLine; rw [sizeLine_eq]; decide) (fun h4 t1 k4 hx4 => ?_)
  have xL : x < hp.objs.size := Heap.lt_size hx
  have k14 : ∀ b o, b ≠ x → h₀.get? b = some o → h4.get? b = some o := fun b o hne e => k4 b o hne (k3 _ _ (k2 _ _ e))
  have hns4 : h4.Ns hp.objs.size (fun z => (([(("self" : Str), Value.ref x), (y, u)] : List (Str × Value)).reverse).lookup z) := by
    obtain ⟨o, es, ep, ho, hr⟩ := hns
    exact ⟨o, es, ep, k14 _ _ (Nat.ne_of_gt xL) ho, hr⟩
  refine ks_wpAt_execs_cons (ks_wpAt_Assign_Attr (wpAt_of_wpAny (wpAny_Name (wpAny_loadName_local S.kind S.hy hns4 ly ?_) S.hyd)) (hsw2 _))
  refine wpAny_Name (wpAny_loadName_local S.kind S.hs hns4 lself ?_) (by decide)
  have X4 : K.In h4 := fun b o e => k4 b o (fun z => by rw [z] at e; have z2 := mod.kin _ _ e; rw [hbx] at z2; cases z2) (k3 _ _ (k2 _ _ (X1 _ _ e)))
  refine set_plain X4 (ox := HandSPX.excO C t1) (od := none) ⟨hx4, rfl, rfl, trivial⟩ T.sa ?_
  refine HandSPX.exc_osa X4 hx4 hcl (show HandSPX.refsVE (.ref C :: bm) = true from hbm) rfl S.no (fun h5 tk5 dx k5 dn dne hx5 hn5 => ?_)
  have hh4 : hp.objs.size ≤ h4.objs.size := by
    obtain ⟨o, es, ep, ho, hr⟩ := hns4
    exact Nat.le_of_lt (Heap.lt_size ho)
  refine wpAt_of_wpAny (wpAny_execs_nil ?_)
  exact hR h5 tk5 dx t1 (fun b o hne e => k5 b o hne (k14 b o hne (hk _ _ e))) (Nat.le_trans hh4 dn) dne hx5 hn5
end DL
end
section
set_option maxRecDepth 100000
set_option maxHeartbeats 2000000
/-! part l: raise -/
namespace DL
open PySem PySem.Spec PyProof.Rows L2 PySem.W

def tMkS (C : Addr) (f : Str) (ta : TA) : L2.St → Hp → XK → Prop := fun σ H Q => ta σ H fun vs H1 => ∃ v, vs = [v] ∧ ∀ dx, H1 dx = none → Q (.ref C) (some dx) (upd H1 dx (.xd [(f, v)]))
theorem pmk_sup {X : Cx} {C D fI cda cc : Addr} {f y x : Str} {fd : FuncData} {body : List Stmt} {scope : Scope} {k : Nat} {e : Expr} {ta : TA} {p pos : Pos} (T : OexC X.K C) (iC : findIn X.K (.ref C) "__init__" = some (some (.ref fI))) (tI : typeIn X.K (.ref fI) = some (.type "function"))
    (S : SupI X.K X.prog C D fI f y fd body scope cda cc) (hr : Room (k + 1) X.A) (hmg : X.mg "super" = none) (hg : Gl X x) (hm : X.mg x = some (.ref C)) (ha : PA X [e] ta)
    (hdb : (x == ("__debug__" : Str)) = false := by decide) (he : starEach [e] X.env = (false, eval e X.env) :: starEach [] X.env := by rfl) :
    PMk X (.Call (.Name x p) [e] [] pos) (tMkS C f ta) := by
  intro pins s σ H Q I h
  obtain ⟨nm, q, N, bs, bm, sn, sub, ab, col, dd, k0, k1, k2, k3, k5, hC, hbm⟩ := T.cls
  refine wpAny_Call_Name_kw (ld_glob I hg hm ?_ hdb)
  refine PySem.W.callWith_K (h₀ := X.base) I.ok.mod.kin T.kC (thn (ha.run pos pins s σ H _ I h) fun us s1 ⟨vs, H1, I1, r1, v, ev, q1⟩ => ⟨I1.kIn, ?_⟩) he (by rfl)
  subst ev
  show wpAny _ _ (call (.ref C) us) _ _ _
  obtain ⟨hp, g, dr, tk, os⟩ := s1
  cases r1 with
  | @cons _ u _ ur rv rr =>
  cases rr
  refine wpAny_call (PySem.HandSPX.call_own F.excBase_ValueError (fun Y => PySem.HandSPX.refsVE_contains Y bm hbm) (I1.kIn _ _ hC) (looks_findIn I1.kIn iC) (fun self => bind_fn I1.kIn self tI) (by show 1 ≤ sizeLine; rw [sizeLine_eq]; decide) ?_)
  have kk : ∀ b o, hp.get? b = some o → ((hp.push (kdv_tup [u])).push (PySem.HandSPX.excO C hp.objs.size)).get? b = some o := fun b o e => Heap.get?_push_of_some _ (Heap.get?_push_of_some _ e)
  have hget : ((hp.push (kdv_tup [u])).push (PySem.HandSPX.excO C hp.objs.size)).get? (hp.objs.size + 1) = some (PySem.HandSPX.excO C hp.objs.size) := by heap_get
  have hbx : X.base.get? (hp.objs.size + 1) = none := by
    cases e : X.base.get? (hp.objs.size + 1) with
    | none => rfl
    | some o =>
      have z := Heap.lt_size (I1.bk _ _ e)
      exact absurd z (by show ¬ (hp.objs.size + 1 < hp.objs.size); omega)
  refine sup_run I1.ok.mod T S (fun b o e => kk _ _ (I1.bk _ _ e)) hbx hget (by have := (hr.make C [u] []).dp; omega) hmg (fun h' tk' dx t1 k5 dn dne hx5 hn5 => ?_)
  have nb : ∀ {b : Addr} {o : Obj}, hp.get? b = some o → b ≠ hp.objs.size + 1 := fun {b o} z => Nat.ne_of_lt (Nat.lt_succ_of_lt (Heap.lt_size z))
  have k6 : ∀ b o, hp.get? b = some o → h'.get? b = some o := fun b o e => k5 b o (nb e) (kk _ _ e)
  have hdn : hp.objs.size ≤ dx := by
    have e1 : ((hp.push (kdv_tup [u])).push (PySem.HandSPX.excO C hp.objs.size)).objs.size = hp.objs.size + 1 + 1 := by simp [Heap.push]
    have e2 : ((hp.push (kdv_tup [u])).push (PySem.HandSPX.excO C hp.objs.size)).objs.size ≤ dx := dn
    omega
  obtain ⟨G, g1, g2⟩ := restrict h' fun b => decide (b ≠ hp.objs.size + 1)
  have gk : ∀ b, b ≠ hp.objs.size + 1 → G.get? b = h'.get? b := fun b hb => g1 b (decide_eq_true hb)
  have ge : G.get? (hp.objs.size + 1) = none := g2 _ (by simp)
  have rel : ∀ g : Str, RelO (List.lookup g [(f, v)]) (if g = f then some u else none) := fun g => by
    rw [lookup_put]
    by_cases hgf : g = f
    · rw [if_pos hgf, if_pos hgf]; exact rv
    · rw [if_neg hgf, if_neg hgf]; exact True.intro
  have J : Inv X pins σ (upd H1 dx (.xd [(f, v)])) ⟨G, g, dr, tk', os⟩ := I1.laid (t' := tk') (a := dx) (o := .xd [(f, v)]) (h' := G) (fun b o e => by rw [gk b (nb e)]; exact k6 b o e) hdn ⟨_, hn5.at fun o y => (gk dx dne).trans y, rel⟩
  refine ⟨rfl, hp.objs.size + 1, _, _, ⟨G, g, dr, tk', os⟩, _, .ref C, some dx, rfl, J, fun b o z => ?_, ge, hx5, ⟨rfl, rfl⟩, rfl, rfl, ?_, rfl, I1.bare, raises_own T.exC T.tyC, q1 dx (I1.hok.fresh hdn)⟩
  · by_cases hba : b = hp.objs.size + 1
    · rw [hba, ge] at z; cases z
    · exact (gk b hba).symm.trans z
  · rw [upd_ne (Ne.symm dne)]
    exact I1.hok.fresh (Nat.le_succ _)

section
variable {X : Cx} {T : Tb} {W : WX} {pos p : Pos} {e : Expr} {α : DTE} {x : Str}
abbrev dRaise (C : Addr) (f : Str) (α : DTE) : DTS := fun Δ ρ O => α ρ O (fun b O1 => frzK [b] O1 fun ds O2 => ∃ d, ds = [d] ∧ Δ.xr (C, [f], [d]) ρ O2) (xat Δ ρ)
theorem ds_raise {C D fI cda cc : Addr} {f y : Str} {fd : FuncData} {body : List Stmt} {scope : Scope} {j : Nat} {p2 : Pos} (hc : X.calm = true) (tk : Takes X W) (O0 : OexC X.K C) (iC : findIn X.K (.ref C) "__init__" = some (some (.ref fI))) (tI : typeIn X.K (.ref fI) = some (.type "function"))
    (S0 : SupI X.K X.prog C D fI f y fd body scope cda cc) (hr : Room j X.A) (hk : 1 ≤ j) (hmg : X.mg "super" = none) (hm : X.mg x = some (.ref C)) (ha : DE X T W e α) (hg : Gl X x := by rfl)
    (hdb : (x == ("__debug__" : Str)) = false := by decide) (he : starEach [e] X.env = (false, eval e X.env) :: starEach [] X.env := by rfl) :
    DS X T W (.Raise (some (.Call (.Name x p) [e] [] p2)) none pos) (dRaise C f α) :=
  ds_of (ps_raise hc tk (pmk_sup (k := 0) O0 iC tI S0 (hr.mono hk) hmg hg hm (pa_cons ha pa_nil he) hdb he)) fun G σ H ρ O Δ D S E d p => ⟨G, ρ, O, _, _, S, E, d, (fun b O1 v G1 H1 d1 s1 S1 r1 => by
    obtain ⟨ds, O2, G2, ⟨dd, e2, h2⟩, s2, S2, r2⟩ := frzK_ok (bs := [b]) (vs := [v]) S1 ⟨r1, trivial⟩ d1
    subst e2
    refine ⟨v, rfl, fun dx hdx => ?_⟩
    have nx : NT (HO.xd [(f, v)]) := fun _ z => nomatch z
    have s3 := Same.upd (H := G2) (o := HO.xd [(f, v)]) (S2.gfresh hdx)
    refine p.xr _ _ _ _ _ _ _ _ h2 ((s1.trans s2).trans s3) (S2.frz hdx nx) ⟨rfl, [v], .inr ⟨dx, rfl, upd_same⟩, rfl, r2.mono s3⟩ (E.mono ((s1.trans s2).trans s3))), p.xat E⟩
end
end DL
end
section
set_option maxRecDepth 100000
set_option maxHeartbeats 4000000
/-! part m: try .. except X as e: found = e, the exception kept behind the suite -/
namespace DL
open PySem PySem.Spec PyProof.Rows L2

theorem track_exc {X : Cx} {pins : List (Addr × Obj)} {σ : L2.St} {H : Hp} {s : Shared} {a C : Addr} {d : Option Addr} {oe : Obj} {vs : Array Value} (I : Inv X pins σ H s) (ha : s.heap.get? a = some oe) (hz : Zc (.ref C) d oe) (hd : oe.data = .fields vs) (na : H a = none) (nL : a ≠ X.env.locals)
    (h0 : X.s_0.heap.get? a = none) (hp : ∀ p ∈ X.pn ++ pins, p.1 ≠ a) : Inv X pins σ (upd H a (ExcV a C d)) s := by
  have nt : ∀ {b : Addr} {o : HO}, H b = some o → b ≠ a := fun {b o} e => ne_of_none e na
  refine ⟨I.ok, I.os, I.bare, ?_, I.loc, I.cell, by rw [upd_ne (Ne.symm nL)]; exact I.free, fun x c e => ?_, fun p h => ?_, fun b o e => ?_, I.len⟩
  · refine ⟨I.base.keep, I.base.slot, fun b o e n hx => ?_, I.base.there, fun b xs e => ?_, fun b o u e => ?_, fun b ps e => ?_⟩
    · rw [upd_ne (fun z => by rw [z, h0] at e; cases e)]
      exact I.base.free b o e n hx
    · have z := I.base.tups b xs e
      rw [upd_ne (nt z)]; exact z
    · have z := I.base.frzs b o u e
      rw [upd_ne (nt z)]; exact z
    · obtain ⟨m, z⟩ := I.base.tbls b ps e
      exact ⟨m, by rw [upd_ne (nt z)]; exact z⟩
  · obtain ⟨v, ce⟩ := I.cell x c e
    have hca : c ≠ a := fun z => by
      obtain ⟨o, ho, hdc⟩ := ce
      rw [z, ha] at ho
      cases ho
      rw [hd] at hdc
      cases hdc
    rw [upd_ne hca]
    exact I.freeC x c e
  · obtain ⟨h1, h2, h3, h4, h5⟩ := I.pin p h
    exact ⟨h1, by rw [upd_ne (hp p h)]; exact h2, h3, h4, h5⟩
  · by_cases hb : b = a
    · subst hb
      rw [upd_same] at e
      cases e
      refine ⟨⟨oe, vs, ha, hz.1, hz.2, hd⟩, ⟨oe, ha⟩, fun h1 h2 z k => ?_⟩
      obtain ⟨o, w, e1, e2, e3, e4⟩ := z
      exact ⟨o, w, k _ e1, e2, e3, e4⟩
    · rw [upd_ne hb] at e
      exact (I.hok b o e).stay (fun c v _ z => z) (fun c z => by rw [upd_ne (nt z)]; exact z) (fun c xs z => by rw [upd_ne (nt z)]; exact z)

/-- what the clause 'except x as n: m = n' wishes of an exception of the body: slot i is n's, slot j is m's -/
def wKeep (K : PySem.W.Frag) (c : Value) (i j n : Nat) (Wout : WX) (D : Ends) : WX := fun cls d σ H =>
  ∃ b, PySem.W.exmOne K cls c = some b ∧ (b = true → σ.length = n → ∃ C, cls = .ref C ∧ ∀ a, H a = none → D.nx (((σ.set i (some (.ref a))).set j (some (.ref a))).set i none) (upd H a (ExcV a C d))) ∧ (b = false → Wout cls d σ H)
theorem ps_try_keep {X : Cx} {x n m : Str} {c : Value} {i j : Nat} {body : List Stmt} {np mp p2 p3 pos pos' : Pos} {tb : WX → TS} {Wout : WX} (hs : X.stack = X.env :: X.outer) (hf : X.env.frame = some X.env.locals) (hN : X.N.Nodup) (hi : X.N[i]? = some n) (hj : X.N[j]? = some m) (hij : i ≠ j)
    (hln : X.env.kindOf n = some .local) (hlm : X.env.kindOf m = some .local) (hc : Names X x c) (hex : X.ex = []) (tk : Takes X Wout) (hnd : (n == ("__debug__" : Str)) = false) (hncd : (n == ("__classdict__" : Str)) = false)
    (hsw : ∀ env : Env, swapsWith (.Name n p2) (some (.Name m mp)) p3.line env = pure false)
    (hb : ∀ (W : WX) (pn : List (Addr × Obj)) (xe : Value → Shared → Prop), Takes (X.tr pn xe) W → PassesOwn (model X.prog X.w) X.A X.env xe → PSs (X.tr pn xe) body (tb W)) :
    PS X (.Try body [.ExceptHandler (some (.Name x np)) (some n) [.Assign [.Name m mp] (.Name n p2) p3] pos'] [] [] pos) (fun D σ H => tb (wKeep X.K c i j X.N.length Wout D) D σ H) := by
  refine ⟨fun pins s σ H D I h => ?_⟩
  have ok := I.ok
  have hfr : X.A.frames = some (X.env :: X.outer) := by rw [ok.frames, hs]
  have hloc : Loc X.env.scope n := .inl hln
  refine wpAny_Try_except ?_
  refine wpAny_mono ((hb (wKeep X.K c i j X.N.length Wout D) (X.pn ++ pins) (fun e s₁ => wpAny (model X.prog X.w) X.A (noteFrame e X.env) (fun _ s₂ => wpAny (model X.prog X.w) X.A (setFlight e none) (fun _ s₃ =>
    wpAny (model X.prog X.w) X.A (handleBy e X.env [.ExceptHandler (some (.Name x np)) (some n) [.Assign [.Name m mp] (.Name n p2) p3] pos']) (SP X pins D) X.xe s₃) X.xe s₂) X.xe s₁) (fun u s' xx => ?_) PassesOwn.looking).run [] s σ H D (I.toTry _) h) (fun f s1 hsp => ?_) (fun e s1 he => he)
  · obtain ⟨a, B, sI, pins', σ', H', cls, d, rfl, J', nb, up, sky, na, os, ag, b, hb1, hyes, hno⟩ := xx
    have J : Inv X pins σ' H' sI := J'.ofTry ok
    have sky' : Sky B (X.env :: X.outer) a (Zc cls d) X.env.locals s'.heap := by rw [← hs]; exact sky
    show wpAny (model X.prog X.w) X.A (noteFrame (.ref a) X.env) _ _ _
    refine Sky.land Zc.steady hfr hf sky' fun h3 fl3 up3 => ?_
    have J3 : Inv X pins σ' H' { s' with heap := h3 } := J.landed nb fl3.1 (up.trans up3) os ag
    obtain ⟨oe3, vs3, he3, hz3, hd3⟩ := fl3.there
    have nfr : a ∉ frs (X.env :: X.outer) := fun hm => by
      obtain ⟨_, o', e', hnf⟩ := fl3.2.2.1.mem hm
      rw [he3] at e'; cases e'
      exact hnf _ hd3
    have nL : a ≠ X.env.locals := fun z => nfr (List.mem_filterMap.mpr ⟨X.env, List.mem_cons_self, by rw [hf, z]⟩)
    have nF : a ∉ X.fs := fun hm => by
      obtain ⟨e, he, q⟩ := List.mem_filterMap.mp hm
      exact nfr (List.mem_filterMap.mpr ⟨e, List.mem_cons_of_mem _ he, q⟩)
    -- the exception is not of the state without it
    have hsI : sI.heap.get? a = none := by
      cases e : sI.heap.get? a with
      | none => rfl
      | some o =>
        have z := nb a o e (by rw [hs]; exact nfr)
        rw [fl3.2.1] at z; cases z
    have hs0 : X.s_0.heap.get? a = none := by
      cases e : X.s_0.heap.get? a with
      | none => rfl
      | some o =>
        obtain ⟨o', z⟩ := J.base.there a o e (by rw [hex]; simp)
        rw [hsI] at z; cases z
    have hpin : ∀ p ∈ X.pn ++ pins, p.1 ≠ a := fun p hp z => by
      have e := (J.pin p hp).1
      rw [z, hsI] at e; cases e
    have S3 := J3.suite he3 hd3 na nL nF
    refine wpAny_handleBy_cons (codeAny_handlers_test ?_) (by intro q; cases q)
    have LT : PySem.W.Looks (model X.prog X.w) h3 (typeOf (.ref a)) cls := fun A Q E s k q => wpAny_typeOf_ref (k _ _ he3) (by rw [hz3.1]; exact q)
    have LM := PySem.W.exm_one (M := model X.prog X.w) (J3.kIn) LT hb1
    have test : ∀ {Q : Value → Shared → Prop} {E : Value → Shared → Prop}, Q c { s' with heap := h3 } → wpAny (model X.prog X.w) (X.A.mark (some (.ref a))) (eval (.Name x np) X.env) Q E { s' with heap := h3 } := fun {Q E} q => by
      obtain ⟨hg, hdbg, hm | ⟨hm, hv, hnn⟩⟩ := hc
      · exact ld_glob (X := X.suite a ((a, oe3) :: (X.pn ++ pins))) S3 hg hm q hdbg
      · exact ld_blt (X := X.suite a ((a, oe3) :: (X.pn ++ pins))) S3 hg hm hv q hnn hdbg
    refine test (LM.here ?_)
    cases b with
    | true =>
      obtain ⟨C, rfl, hyes2⟩ := hyes rfl J.len
      refine codeAny_handlers_suite_as ?_
      refine HandSPX.lands_againZ fl3 fun h4 fl4 up4 => ?_
      have J4 : Inv X pins σ' H' { s' with heap := h4 } := J.landed nb fl4.1 ((up.trans up3).trans up4) os ag
      obtain ⟨oe4, vs4, he4, hz4, hd4⟩ := fl4.there
      have S4 := J4.suite he4 hd4 na nL nF
      refine store_ok (X := X.suite a ((a, oe4) :: (X.pn ++ pins))) (v := .ref a) S4 hN hi hloc rfl (fun s5 S5 => ?_) (.inr hln)
      have hil : i < σ'.length := by rw [J.len]; exact (List.getElem?_eq_some_iff.mp hi).1
      have run : PSs (X.suite a ((a, oe4) :: (X.pn ++ pins))) [.Assign [.Name m mp] (.Name n p2) p3] (tAsg (tVar i) (gName j)) :=
        pss_one (ps_set (X := X.suite a ((a, oe4) :: (X.pn ++ pins))) hN hj (.inl hlm) (pe_var (X := X.suite a ((a, oe4) :: (X.pn ++ pins))) hi (.inl hln) hnd hncd) (hsw _) (.inr hlm))
      refine wpAny_mono (run.run [] s5 _ H' { nx := fun σ6 H6 => σ6 = (σ'.set i (some (.ref a))).set j (some (.ref a)) ∧ H6 = H', rt := fun _ _ => False } S5 ⟨.ref a, List.getElem?_set_self hil, rfl, rfl⟩) (fun f s6 hsp => ?_) (fun _ _ z => False.elim z)
      cases f with
      | next =>
        obtain ⟨σ6, H6, S6, e6, e7⟩ := hsp
        subst e6
        subst e7
        have hp6 := (S6.pin (a, oe4) (List.mem_append_left _ List.mem_cons_self)).1
        have K6 := track_exc (S6.unsuite ok) hp6 hz4 hd4 na nL hs0 hpin
        exact gone_ok K6 hN hi hln fun s7 J7 => ⟨_, _, J7, hyes2 a na⟩
      | brk => obtain ⟨_, _, _, z⟩ := hsp; exact z.elim
      | cont => obtain ⟨_, _, _, z⟩ := hsp; exact z.elim
      | ret u => obtain ⟨_, _, _, _, _, z⟩ := hsp; exact z.elim
    | false =>
      show wpAny _ X.A (handleBy (.ref a) X.env []) _ _ _
      refine wpAny_handleBy_nil ?_
      obtain ⟨k1, k2, k3, oe, vs, T, oT, ts', he, hz, hd, h1, hr⟩ := id fl3
      unfold PySem.passOn
      refine wpAny_bind (wpAny_field he hd h1 ?_)
      rw [if_neg (show ¬ ((Value.ref T == Value.none) = true) from by simp)]
      have fin : wpAny (model X.prog X.w) X.A (setFlight (.ref a) X.env.frame) (fun _ s4 => wpAny (model X.prog X.w) X.A (throw (.ref a) : Sem Flow) (SP X pins D) X.xe s4) X.xe { s' with heap := h3 } := by
        rw [hf]
        refine HandSPX.setFlight_upZ fl3 fun h4 hh4 up4 => wpAny_throw (tk _ _ ?_)
        exact ⟨a, B, sI, pins, σ', H', cls, d, rfl, J, nb, (up.trans up3).trans up4, .inr (.inr (by rw [hs]; exact hh4)), na, os, ag, hno rfl⟩
      first
        | exact wpAny_bind (wpAny_pure (wpAny_bind fin))
        | exact wpAny_bind fin
  · cases f with
    | next =>
      obtain ⟨σ', H', J', q⟩ := hsp
      exact wpAny_execs_nil ⟨σ', H', J'.ofTry ok, q⟩
    | brk =>
      obtain ⟨σ', H', J', q⟩ := hsp
      exact ⟨σ', H', J'.ofTry ok, q⟩
    | cont =>
      obtain ⟨σ', H', J', q⟩ := hsp
      exact ⟨σ', H', J'.ofTry ok, q⟩
    | ret u =>
      obtain ⟨v, σ', H', J', r, q⟩ := hsp
      exact ⟨v, σ', H', J'.ofTry ok, r, q⟩
/-! ### the def that keeps what its argument raises, called with a lambda -/
def TKeep (K : PySem.W.Frag) (CB : Addr) : (XK → Hp → VK → Prop) → Hp → VK → Prop := fun tl H Q =>
  tl (fun cls d H' => PySem.W.exmOne K cls (.ref CB) = some true ∧ ∃ C, cls = .ref C ∧ ∀ a, H' a = none → Q (.ref a) (upd H' a (ExcV a C d))) H fun _ H' => Q .non H'
theorem caught_gives {X : Cx} {a m n x e q : Str} {sg : Scope} {g CB : Addr} {cdg : Value} {j : Nat} {pm pn pp p1 p2 p3 p4 p5 p6 p7 p8 p9 p10 p11 : Pos} (hNd : [a, m, n].Nodup) (hla : Vis sg a) (hlm : sg.names.lookup m = some .local) (hln : sg.names.lookup n = some .local) (hge : sg.names.lookup e = some .globalImplicit)
    (hme : X.mg e = some (.ref CB)) (hde : (e == ("__debug__" : Str)) = false) (hmd : (m == ("__debug__" : Str)) = false) (hmcd : (m == ("__classdict__" : Str)) = false) (hnd : (n == ("__debug__" : Str)) = false) (hncd : (n == ("__classdict__" : Str)) = false)
    (hsw0 : ∀ env : Env, swapsWith (.Constant .none j pn) (some (.Name m pm)) pp.line env = pure false) (hsw1 : ∀ env : Env, swapsWith (.Call (.Name a p1) [] [] p2) none p3.line env = pure false) (hsw : ∀ env : Env, swapsWith (.Name n p6) (some (.Name m p5)) p7.line env = pure false) :
    LamX.GivesTo X [a, m, n] x sg g cdg [.Assign [.Name m pm] (.Constant .none j pn) pp, .Try [.Expr (.Call (.Name a p1) [] [] p2) p3] [.ExceptHandler (some (.Name e p4)) (some n) [.Assign [.Name m p5] (.Name n p6) p7] p8] [] [] p9, .Return (some (.Name m p10)) p11] a q (TKeep X.K CB) := by
  intro f c' s H Q tl act hc h
  have hgl : Gl (cxOf C8.CX0 X.prog X.w X.K X.mg X.base [a, m, n] x sg g cdg X.A X.stack s H C8.E0).nox e := hge
  refine ⟨_, pss_cons (ps_set (X := (cxOf C8.CX0 X.prog X.w X.K X.mg X.base [a, m, n] x sg g cdg X.A X.stack s H C8.E0).nox) (i := 1) hNd rfl (.inl hlm) pe_non (hsw0 _) (.inr hlm)) (pss_cons
    (ps_try_keep (X := (cxOf C8.CX0 X.prog X.w X.K X.mg X.base [a, m, n] x sg g cdg X.A X.stack s H C8.E0).nox) (c := .ref CB) (i := 2) (j := 1)
      (tb := fun W D σ H => ∃ Ech : XK, (∀ cls d σ' H', Ech cls d H' → W cls d σ' H') ∧ σ[0]? = some (some (.ref f)) ∧ H c' = some (LamX.CodeO c' q) ∧ tl Ech H fun _ H' => D.nx σ H')
      rfl rfl hNd rfl rfl (by decide) hln hlm ⟨hgl, hde, .inl hme⟩ rfl LamX.takes0 hnd hncd hsw (fun W pn xe tk _ => ?_))
    (pss_one (ps_ret (pe_var (X := (cxOf C8.CX0 X.prog X.w X.K X.mg X.base [a, m, n] x sg g cdg X.A X.stack s H C8.E0).nox) (i := 1) rfl (.inl hlm) hmd hmcd)))), ?_⟩
  · refine ⟨fun pins s' σ H' D I h' => ?_⟩
    obtain ⟨Ech, hW, h1, h2, h3⟩ := h'
    have hp := act W pn xe Ech p1 p2 tk hW
    have hq := pss_one (ps_expr (pos := p3) hp (hsw1 _))
    exact hq.run pins s' σ H' D I ⟨h1, h2, h3⟩
  · refine ⟨fun cls d H' => PySem.W.exmOne X.K cls (.ref CB) = some true ∧ ∃ C, cls = .ref C ∧ ∀ a, H' a = none → Q (.ref a) (upd H' a (ExcV a C d)), fun cls d σ' H' ⟨e1, C, e2, e3⟩ => ⟨true, e1, fun _ hl => ⟨C, e2, fun b hb => ⟨.ref b, ?_, e3 b hb⟩⟩, fun hb => nomatch hb⟩, rfl, hc, ?_⟩
    · have hl' : σ'.length = 3 := hl
      match σ', hl' with
      | [u, v, w], _ => rfl
    · have h' : tl (fun cls d H' => PySem.W.exmOne X.K cls (.ref CB) = some true ∧ ∃ C, cls = .ref C ∧ ∀ a, H' a = none → Q (.ref a) (upd H' a (ExcV a C d))) H fun _ H' => Q .non H' := h
      have e : (fun (_ : V) (H' : Hp) => tRet (tVar 1) { nx := fun _ H'' => Q .non H'', rt := Q } ((L2.start [a, m, n] [V.ref f]).set 1 (some .non)) H') = fun _ H' => Q .non H' := by
        funext _ H'
        apply propext
        constructor
        · rintro ⟨v, e1, e2⟩
          cases e1
          exact e2
        · intro z
          exact ⟨.non, rfl, z⟩
      rw [← e] at h'
      exact h'
end DL
end
section
set_option maxRecDepth 100000
set_option maxHeartbeats 4000000
/-! part n: what is raised, kept and asked; a lambda handed to the def that keeps it -/
namespace DL
open PySem PySem.Spec PyProof.Rows L2

section
variable {X : Cx} {T : Tb} {W : WX} {pos p lpos : Pos} {e body : Expr} {α ε : DTE} {x f : Str}
/-- e.f, e a kept exception of one of the classes L -/
def xfG (L : List Addr) (f : Str) : F1 := fun b O R => ∃ C ns ds d, b = .d (.exc C ns ds) ∧ C ∈ L ∧ (ns.zip ds).lookup f = some d ∧ R (.d d) O
structure XfD (K : PySem.W.Frag) (C : Addr) (f : Str) : Prop where
  xc : XfC K C
  no : PySem.W.findIn K (.ref C) f = some none
theorem de_xf {L : List Addr} (he : DE X T W e α) (hC : ∀ C ∈ L, XfD X.K C f) (hb : attributeBase e f X.env (eval e X.env) = eval e X.env := by rfl) : DE X T W (.Attribute e f pos) (dUn (xfG L f) α) := by
  refine ⟨fun pins s σ H Q I ⟨G, ρ, O, R, RX, S, E, d, pp, xx⟩ => ?_⟩
  refine attr_of hb (thn (he.run pins s σ H (fun v H1 => ∃ (a C dd : Addr) (fs : List (Str × V)) (w : V), v = .ref a ∧ C ∈ L ∧ H1 a = some (ExcV a C (some dd)) ∧ H1 dd = some (.xd fs) ∧ fs.lookup f = some w ∧ Q w H1) I ?_) fun u s1 hh => ?_)
  · refine ⟨G, ρ, O, _, RX, S, E, d, fun b O1 v G1 H1 d1 s1 S1 r1 => ?_, xx⟩
    obtain ⟨C, ns, ds, dv, e1, hL, hl, d1⟩ := d1
    subst e1
    simp only [RB, Rp] at r1
    obtain ⟨a, dd, xs, rfl, h1, h2, h3, h4⟩ := r1
    obtain ⟨w, e2, r2⟩ := zip_get h4 hl
    rcases h2 with ⟨_, z⟩ | ⟨dx, z, h2⟩
    · subst z
      simp at hl
    · subst z
      exact ⟨a, C, dx, _, w, rfl, hL, S1.sub _ _ h1, S1.sub _ _ h2, e2, pp _ _ _ _ _ d1 s1 S1 r2⟩
  · obtain ⟨y, H1, I1, rx, a, C, dd, fs, v, ev, hL, ea, ed, l, q⟩ := hh
    subst ev
    obtain rfl : u = Value.ref a := rx
    have z : ObjOk X.prog X.w H1 s1.heap a (ExcV a C (some dd)) := I1.hok a _ ea
    obtain ⟨⟨oe, vs, ha, hz1, hz2, hd⟩, _⟩ := z
    have hx : ObjOk X.prog X.w H1 s1.heap dd (.xd fs) := I1.hok dd _ ed
    obtain ⟨mA, hns, hr⟩ := hx
    obtain ⟨od, ho, hl⟩ := lookIn_ns hns
    obtain ⟨u, hu, ru⟩ := RelO.some_of (v := v) (o := mA f) (by rw [← l]; exact hr f)
    have T0 := (hC C hL).xc
    have J : PySem.W.InstAt s1.heap a oe C (some od) := ⟨ha, hz1, by unfold PySem.W.notCls; rw [hd] <;> rfl, by rw [hz2]; exact ho⟩
    exact HandSPX.exc_get I1.kIn J T0.ga T0.gg T0.exC (PySem.W.findObj_own T0.hdC (hC C hL).no rfl (by rw [hl, hu])) (handed_of ru) ⟨v, H1, I1.tok _, ru, q⟩

/-- the def x that calls what it is handed and hands back what that raises of the class at CB -/
structure CgtD (K : PySem.W.Frag) (mg : Str → Option Value) (x a : Str) (CB : Addr) : Prop where
  ex : ∃ (g : Addr) (oc : Value) (od : Option Addr) (osl : Array (Option Value)) (pg : Arguments) (bg : List Stmt) (sg : Scope) (dV kV doc pm : Value) (an : Option Addr) (cdv ct : Value) (Ng : List Str),
    mg x = some (.ref g) ∧ PySem.W.keepIn K (.ref g) = true ∧ K.lookup g = some ⟨oc, od, .func (PySem.W.fnOf x x pg bg sg dV kV doc pm an cdv ct), osl⟩ ∧ PySem.W.codeIn K cdv x = true ∧ L2.Binds K (PySem.W.fnOf x x pg bg sg dV kV doc pm an cdv ct) [a] [] ∧ FnScope Ng [a] sg ∧ Ng[0]? = some a ∧ Vis sg a ∧
      ∀ (X : Cx) (q : Str), X.K = K → X.mg = mg → LamX.GivesTo X Ng x sg g cdv bg a q (TKeep K CB)
  hdb : (x == ("__debug__" : Str)) = false
  hd : (a == ("__debug__" : Str)) = false
  hcd : (a == ("__classdict__" : Str)) = false
abbrev dCaught (L : List Addr) (ε : DTE) : DTE := fun ρ O R RX => ε ρ O (fun _ O1 => R (.d .non) O1) (fun y O1 => y.1 ∈ L ∧ R (.d (.exc y.1 y.2.1 y.2.2)) O1)
theorem de_caught {a : Str} {CB c P : Addr} {L : List Addr} {j k : Nat} {params : Arguments} {scope : Scope} (hK : T.K = X.K) (Cg : CgtD X.K X.mg x a CB) (hL : ∀ C ∈ L, PySem.W.exmOne X.K (.ref C) (.ref CB) = some true)
    (TB : LamX.TabB X.base X.mg c P) (hcode : X.env.code = .ref c) (hmT : (P, X.env.qual ++ "<lambda>") ∈ T.tabs) (hu : ∀ p ∈ T.tabs, p.1 = P → p.2 = X.env.qual ++ "<lambda>") (hr : Room j X.A) (hk : k + 2 ≤ j) (Ls : LamX.LamS X.env.scope scope)
    (hdef : defaultsOf params X.env = ([], [])) (hbind : ∀ (q : Str) (cl : List (Str × Addr)) (pm cv ctv : Value), bindArgs (PySem.W.kla_fn "<lambda>" q params body scope cl pm cv ctv) ⟨[], []⟩ = pure [])
    (hbody : ∀ (A : Around) (outer : List Env) (s : Shared) (H : Hp) (E : XK) (f c' : Addr), Room k (A.deeper (LamX.lamEnv X scope s.heap.objs.size f c')) → Takes (LamX.lamCx X A outer s H E scope f c') (wE E) → DE (LamX.lamCx X A outer s H E scope f c') T (wE E) body ε)
    (hg : Gl X x := by rfl) : DE X T W (.Call (.Name x p) [.Lambda params body scope lpos] [] pos) (dCaught L ε) := by
  obtain ⟨g, oc, od, osl, pg, bg, sg, dV, kV, doc, pm, an, cdv, ct, Ng, hm, hkp, lk, hcg, hb, Sg, hNg, hva, hG⟩ := Cg.ex
  refine de_of (LamX.pe_lamcall (T := T.tabs) (t := fun E => canE T (wE E) ε) hg hm hkp lk hcg hb Sg hNg hva (hG X _ rfl rfl) TB hcode hmT hu (hr.mono hk) Ls hdef hbind (fun A outer s H E f c' hr' => hbody A outer s H E f c' hr' (takes_of rfl rfl rfl rfl)) Cg.hdb Cg.hd Cg.hcd) ?_
  intro G σ H ρ O R RX Q S E d pp xx
  refine ⟨S.tab.tab, fun H1 hE hT1 => ?_⟩
  have S1 := S.growN hE hT1
  show canE T (wE _) ε σ H1 _
  refine ⟨G, ρ, O, _, _, S1, E, d, fun b O2 v G2 H2 d2 s2 S2 r2 => pp _ _ _ _ _ d2 s2 S2 (by simp only [RB, Rp]), fun y O2 cls dd G2 H2 ⟨hy, d2⟩ s2 S2 xr => ?_⟩
  obtain ⟨ec, xs, hx, hl, rr⟩ := xr
  subst ec
  refine ⟨hL _ hy, y.1, rfl, fun q hq => ?_⟩
  have s3 := Same.upd (H := G2) (o := ExcV q y.1 dd) (S2.gfresh hq)
  refine pp _ _ _ _ _ d2 (s2.trans s3) (S2.frz hq fun _ z => nomatch z) ?_
  simp only [RB, Rp]
  exact ⟨q, dd, xs, rfl, upd_same, hx.mono s3, hl, rr.mono s3⟩
end

section
variable {P : Program} {w : World} {K : PySem.W.Frag} {mg : Str → Option Value} {base : Heap} {tabs : List (Addr × Str)} {x qual : Str} {st : Stmt} {f : Addr} {fd : FuncData} {N ps : List Str} {k : Nat} {F : FSp}
/-- the code object of a def -/
def codeAt (K : PySem.W.Frag) (f : Addr) : Option Value := match K.lookup f with
  | some ⟨_, _, .func fd, _⟩ => some fd.code
  | _ => none
/-- fn_dl, the code object told -/
theorem fn_dlC {δ : Tb → DTS} (Fn : Fun K x qual st f fd) (S : FnScope N ps (defScope st)) (len : ∀ T bs O R RX, F T bs O R RX → bs.length = ps.length)
    (hbody : ∀ (cdv : Value) (A : Around) (outer : List Env) (s : Shared) (H : Hp) (E : XK) (T : Tb), T.K = K → T.tabs = tabs → codeAt K f = some cdv → Room k (A.deeper (envOfC qual (defScope st) s.heap.objs.size f cdv)) → PySem.W.codeIn K cdv qual = true →
      Takes (cxOf (L2.CX P w) P w K mg base N qual (defScope st) f cdv A outer s H E) (wE E) → PassesOwn (model P w) (A.deeper (envOfC qual (defScope st) s.heap.objs.size f cdv)) (envOfC qual (defScope st) s.heap.objs.size f cdv) (cxOf (L2.CX P w) P w K mg base N qual (defScope st) f cdv A outer s H E).xe →
      N.Nodup → DSs (cxOf (L2.CX P w) P w K mg base N qual (defScope st) f cdv A outer s H E) T (wE E) (defBody st) (δ T))
    (hd : ∀ T bs O R RX, T.K = K → T.tabs = tabs → F T bs O R RX → δ T (ends0 R RX) (startR N bs) O) : FnOk P w K mg base (L2.CX P w) (k + 1) f fd ps (lift tabs K F) := by
  obtain ⟨oc, od, kV, doc, pm, an, cdv, ct, osl, rfl, lk, hcd⟩ := Fn.ex
  have hc : codeAt K f = some cdv := by
    unfold codeAt
    rw [lk]
  refine fn_of lk hcd S (fun vs H Q E ⟨scr, G, bs, O, R, RX, r, _, hF, _⟩ => by rw [r.len]; exact len _ _ _ _ _ hF) (fun A outer s H vs Q E hr ⟨scr, G, bs, O, R, RX, r, S0, hF, hp, hx⟩ => ?_)
  refine ⟨_, hbody cdv A outer s H E ⟨tabs, K, scr⟩ rfl rfl hc hr hcd (takes_of rfl rfl rfl rfl) (passes_of rfl) S.nd, ?_⟩
  refine ⟨G, startR N bs, O, ends0 R RX, S0, ev_start r, hd _ _ _ _ _ rfl rfl hF, ⟨fun ρ1 O1 σ1 G1 H1 ⟨O2, hs, h1⟩ s1 S1 E1 => ?_, hp, fun _ _ _ _ _ z => z.elim, fun _ _ _ _ _ z => z.elim, fun x ρ1 O1 c d σ1 G1 H1 h1 s1 S1 x1 E1 => hx x O1 c d G1 H1 h1 s1 S1 x1⟩⟩
  exact hp _ _ _ _ _ h1 s1 (S1.sublist hs) (by simp only [RB, Rp])
end
end DL
end
section
set_option maxRecDepth 100000
set_option maxHeartbeats 2000000
/-! part o: the state of a law's draws; a tuple turned round -/
namespace DL
open PySem PySem.Spec PyProof.Rows L2

def DrK.Ok (ks : DrK) : Prop := ks.kg ≠ ks.kc ∧ ks.kg ≠ ks.kr ∧ ks.kg ≠ ks.kt ∧ ks.kc ≠ ks.kr ∧ ks.kc ≠ ks.kt ∧ ks.kr ≠ ks.kt
theorem oset_same {O : Ow} {a : Addr} {o : OD} (nd : (O.map (·.1)).Nodup) (m : (a, o) ∈ O) : oset O a o = O := by
  unfold oset
  conv => rhs; rw [← List.map_id O]
  refine List.map_congr_left fun p hp => ?_
  split
  · rename_i h
    obtain ⟨p1, p2⟩ := p
    have h1 : p1 = a := h
    subst h1
    rw [nodup_fst nd hp m]
    rfl
  · rfl
theorem putK_len {kvs : List (Key × V)} {k : Key} {v w : V} (h : valV kvs k = some w) : (putK kvs k v).length = kvs.length := by
  unfold putK
  rw [valV_any k kvs, h, if_pos (by rfl), List.length_map]

section
variable {T : Tb} {G H : Hp} {O : Ow} {p c : Addr} {ks : DrK} {cs : List Int} {n : Nat}
structure DrAt (H : Hp) (p : Addr) (ks : DrK) (c : Addr) (cs : List Int) (n : Nat) (g : Addr) (gs : List Int) (r t : Int) (kvs : List (Key × V)) : Prop where
  d : H p = some (.dK kvs)
  kg : valV kvs (.inr ks.kg) = some (.ref g)
  kc : valV kvs (.inr ks.kc) = some (.ref c)
  kr : valV kvs (.inr ks.kr) = some (.int r)
  kt : valV kvs (.inr ks.kt) = some (.int t)
  t0 : 0 ≤ t
  tn : t ≤ n
  g_ : H g = some (.lst (gs.map V.int))
  c_ : H c = some (.lst (cs.map V.int))
  len : kvs.length ≤ 10
theorem Sep.drAt (S : Sep T G H O) (m : (p, .draws ks c cs n) ∈ O) : ∃ g gs r t kvs, DrAt H p ks c cs n g gs r t kvs := by
  obtain ⟨h, ⟨g, gs, r, t, kvs, n1, n2, n3, e1, ⟨e2, e3, e4, e5, e6, e7, e8⟩, e9, e10, _⟩, sm, _⟩ := S.chunk m
  exact ⟨g, gs, r, t, kvs, sm _ _ e1, e3, e4, e5, e6, e7, e8, sm _ _ e9, sm _ _ e10, e2⟩
/-- the number that is left is stored -/
theorem Sep.drPutR (S : Sep T G H O) (ok : ks.Ok) (m : (p, .draws ks c cs n) ∈ O) {kvs : List (Key × V)} (hd : H p = some (.dK kvs)) (i : Int) : Sep T G (upd H p (.dK (putK kvs (.inr ks.kr) (.int i)))) O := by
  obtain ⟨o1, o2, o3, o4, o5, o6⟩ := ok
  have nd := S.nd
  obtain ⟨h, ⟨g, gs, r, t, kvs', n1, n2, n3, e1, ⟨e2, e3, e4, e5, e6, e7, e8⟩, e9, e10, nn⟩, sm, _, k, _⟩ := S.chunk m
  have z := sm _ _ e1
  rw [hd] at z; cases z
  have := k p _ (.dK (putK kvs (.inr ks.kr) (.int i))) (.draws ks c cs n) e1 (fun _ q => nomatch q) (fun _ q => nomatch q) (fun _ _ q => nomatch q)
    ⟨g, gs, i, t, _, n1, n2, n3, upd_same, ⟨by rw [putK_len e5]; exact e2, by rw [valV_put, if_neg (fun q => o2 (Sum.inr.inj q))]; exact e3, by rw [valV_put, if_neg (fun q => o4 (Sum.inr.inj q))]; exact e4, by rw [valV_put, if_pos rfl],
      by rw [valV_put, if_neg (fun q => o6 (Sum.inr.inj q).symm)]; exact e6, e7, e8⟩, by rw [upd_ne (Ne.symm n1)]; exact e9, by rw [upd_ne (Ne.symm n2)]; exact e10, fun b b1 b2 b3 => by rw [upd_ne b1]; exact nn b b1 b2 b3⟩
  rw [oset_same nd m] at this
  exact this
theorem Sep.drPutT (S : Sep T G H O) (ok : ks.Ok) (m : (p, .draws ks c cs n) ∈ O) {kvs : List (Key × V)} (hd : H p = some (.dK kvs)) {i : Int} {n' : Nat} (h0 : 0 ≤ i) (hn : i ≤ n') : Sep T G (upd H p (.dK (putK kvs (.inr ks.kt) (.int i)))) (oset O p (.draws ks c cs n')) := by
  obtain ⟨o1, o2, o3, o4, o5, o6⟩ := ok
  obtain ⟨h, ⟨g, gs, r, t, kvs', n1, n2, n3, e1, ⟨e2, e3, e4, e5, e6, e7, e8⟩, e9, e10, nn⟩, sm, _, k, _⟩ := S.chunk m
  have z := sm _ _ e1
  rw [hd] at z; cases z
  exact k p _ (.dK (putK kvs (.inr ks.kt) (.int i))) (.draws ks c cs n') e1 (fun _ q => nomatch q) (fun _ q => nomatch q) (fun _ _ q => nomatch q)
    ⟨g, gs, r, i, _, n1, n2, n3, upd_same, ⟨by rw [putK_len e6]; exact e2, by rw [valV_put, if_neg (fun q => o3 (Sum.inr.inj q))]; exact e3, by rw [valV_put, if_neg (fun q => o5 (Sum.inr.inj q))]; exact e4, by rw [valV_put, if_neg (fun q => o6 (Sum.inr.inj q))]; exact e5,
      by rw [valV_put, if_pos rfl], h0, hn⟩, by rw [upd_ne (Ne.symm n1)]; exact e9, by rw [upd_ne (Ne.symm n2)]; exact e10, fun b b1 b2 b3 => by rw [upd_ne b1]; exact nn b b1 b2 b3⟩
/-- the great ones change -/
theorem Sep.drPutG (S : Sep T G H O) (m : (p, .draws ks c cs n) ∈ O) {g : Addr} {kvs : List (Key × V)} (hd : H p = some (.dK kvs)) (hg : valV kvs (.inr ks.kg) = some (.ref g)) (gs' : List Int) : Sep T G (upd H g (.lst (gs'.map V.int))) O := by
  have nd := S.nd
  obtain ⟨h, ⟨g', gs, r, t, kvs', n1, n2, n3, e1, ⟨e2, e3, e4, e5, e6, e7, e8⟩, e9, e10, nn⟩, sm, _, k, _⟩ := S.chunk m
  have z := sm _ _ e1
  rw [hd] at z; cases z
  rw [hg] at e3; cases e3
  have := k g _ (.lst (gs'.map V.int)) (.draws ks c cs n) e9 (fun _ q => nomatch q) (fun _ q => nomatch q) (fun _ _ q => nomatch q)
    ⟨g, gs', r, t, kvs, n1, n2, n3, by rw [upd_ne n1]; exact e1, ⟨e2, hg, e4, e5, e6, e7, e8⟩, upd_same, by rw [upd_ne (Ne.symm n3)]; exact e10, fun b b1 b2 b3 => by rw [upd_ne b2]; exact nn b b1 b2 b3⟩
  rw [oset_same nd m] at this
  exact this
end

section
variable {X : Cx} {T : Tb} {W : WX} {pos p1 p2 p3 p4 apos : Pos} {o e : Expr} {α ε : DTE} {tg : Expr}
/-- d['rest'], d['turn'] -/
abbrev dDgR (ks : DrK) (α : DTE) : DTE := fun ρ O R RX => α ρ O (fun b O1 => ∃ p c cs n, b = .v (.ref p) ∧ (p, .draws ks c cs n) ∈ O1 ∧ ∀ i : Int, R (.d (.int i)) O1) RX
abbrev dDgT (ks : DrK) (α : DTE) : DTE := fun ρ O R RX => α ρ O (fun b O1 => ∃ (p c : Addr) (cs : List Int) (n : Nat), b = .v (.ref p) ∧ (p, .draws ks c cs n) ∈ O1 ∧ ∀ i : Int, 0 ≤ i → i ≤ n → R (.d (.int i)) O1) RX
theorem de_dgR {ks : DrK} {j : Nat} (hu : X.A.units + 1 < cLine) (ho : DE X T W o α) : DE X T W (.Subscript o (.Constant (.str ks.kr) j p1) pos) (dDgR ks α) :=
  de_of (pe_dget hu ho pe_str fun _ _ => rfl) fun G σ H ρ O R RX Q S E d p x => ⟨G, ρ, O, _, RX, S, E, d, (fun b O1 v G1 H1 d1 s1 S1 r1 => by
    obtain ⟨pa, c, cs, n, rfl, m, d1⟩ := d1
    have ev : v = _ := r1
    subst ev
    obtain ⟨g, gs, r, t, kvs, D0⟩ := S1.drAt m
    refine ⟨pa, .int r, rfl, ?_, p _ _ _ _ _ (d1 r) s1 S1 (by simp only [RB, Rp])⟩
    rw [← D0.kr]
    exact DGet.k (k := .inr ks.kr) D0.d), x⟩
theorem de_dgT {ks : DrK} {j : Nat} (hu : X.A.units + 1 < cLine) (ho : DE X T W o α) : DE X T W (.Subscript o (.Constant (.str ks.kt) j p1) pos) (dDgT ks α) :=
  de_of (pe_dget hu ho pe_str fun _ _ => rfl) fun G σ H ρ O R RX Q S E d p x => ⟨G, ρ, O, _, RX, S, E, d, (fun b O1 v G1 H1 d1 s1 S1 r1 => by
    obtain ⟨pa, c, cs, n, rfl, m, d1⟩ := d1
    have ev : v = _ := r1
    subst ev
    obtain ⟨g, gs, r, t, kvs, D0⟩ := S1.drAt m
    refine ⟨pa, .int t, rfl, ?_, p _ _ _ _ _ (d1 t D0.t0 D0.tn) s1 S1 (by simp only [RB, Rp])⟩
    rw [← D0.kt]
    exact DGet.k (k := .inr ks.kt) D0.d), x⟩
/-- d['rest'] = e, d['turn'] = e -/
abbrev dDpR (ks : DrK) (α ε : DTE) : DTS := fun Δ ρ O => ε ρ O (fun y O1 => α ρ O1 (fun b O2 => ∃ p c cs n i, y = .d (.int i) ∧ b = .v (.ref p) ∧ (p, .draws ks c cs n) ∈ O2 ∧ Δ.nx ρ O2) (xat Δ ρ)) (xat Δ ρ)
abbrev dDpT (ks : DrK) (α ε : DTE) : DTS := fun Δ ρ O => ε ρ O (fun y O1 => α ρ O1 (fun b O2 => ∃ p c cs n i n', y = .d (.int i) ∧ b = .v (.ref p) ∧ (p, .draws ks c cs n) ∈ O2 ∧ 0 ≤ i ∧ i ≤ ((n' : Nat) : Int) ∧ Δ.nx ρ (oset O2 p (.draws ks c cs n'))) (xat Δ ρ)) (xat Δ ρ)
theorem ds_dpR {ks : DrK} {j : Nat} (ok : ks.Ok) (hu : X.A.units + 1 < cLine) (ho : DE X T W o α) (he : DE X T W e ε) (hs : swapsWith e (some (.Subscript o (.Constant (.str ks.kr) j p1) p2)) pos.line X.env = pure false := by rfl) : DS X T W (.Assign [.Subscript o (.Constant (.str ks.kr) j p1) p2] e pos) (dDpR ks α ε) :=
  ds_of (ps_dput hu ho pe_str he hs) fun G σ H ρ O Δ D S E d p => ⟨G, ρ, O, _, _, S, E, d, (fun y O1 u G1 H1 d1 s1 S1 r1 => ⟨G1, ρ, O1, _, _, S1, E.mono s1, d1, (fun b O2 w G2 H2 d2 s2 S2 r2 => by
    obtain ⟨pa, c, cs, n, i, rfl, rfl, m, d2⟩ := d2
    have ew : w = _ := r2
    subst ew
    have eu : u = .int i := by simpa only [RB, Rp] using r1
    subst eu
    obtain ⟨g, gs, r, t, kvs, D0⟩ := S2.drAt m
    exact ⟨pa, _, rfl, DPut.k (k := .inr ks.kr) D0.d (by have := D0.len; rw [sizeLine_eq]; omega), p.nx _ _ _ _ _ d2 (s1.trans s2) (S2.drPutR ok m D0.d i) (E.mono (s1.trans s2))⟩), (p.mono s1).xat (E.mono s1)⟩), p.xat E⟩
theorem ds_dpT {ks : DrK} {j : Nat} (ok : ks.Ok) (hu : X.A.units + 1 < cLine) (ho : DE X T W o α) (he : DE X T W e ε) (hs : swapsWith e (some (.Subscript o (.Constant (.str ks.kt) j p1) p2)) pos.line X.env = pure false := by rfl) : DS X T W (.Assign [.Subscript o (.Constant (.str ks.kt) j p1) p2] e pos) (dDpT ks α ε) :=
  ds_of (ps_dput hu ho pe_str he hs) fun G σ H ρ O Δ D S E d p => ⟨G, ρ, O, _, _, S, E, d, (fun y O1 u G1 H1 d1 s1 S1 r1 => ⟨G1, ρ, O1, _, _, S1, E.mono s1, d1, (fun b O2 w G2 H2 d2 s2 S2 r2 => by
    obtain ⟨pa, c, cs, n, i, n', rfl, rfl, m, h0, hn, d2⟩ := d2
    have ew : w = _ := r2
    subst ew
    have eu : u = .int i := by simpa only [RB, Rp] using r1
    subst eu
    obtain ⟨g, gs, r, t, kvs, D0⟩ := S2.drAt m
    exact ⟨pa, _, rfl, DPut.k (k := .inr ks.kt) D0.d (by have := D0.len; rw [sizeLine_eq]; omega), p.nx _ _ _ _ _ d2 (s1.trans s2) (S2.drPutT ok m D0.d h0 hn) (E.mono (s1.trans s2))⟩), (p.mono s1).xat (E.mono s1)⟩), p.xat E⟩
/-- for .. in d['cells'] -/
abbrev dCells (ks : DrK) (α : DTE) : DSrc := fun ρ O R RX => α ρ O (fun b O1 => ∃ p c cs n, b = .v (.ref p) ∧ (p, .draws ks c cs n) ∈ O1 ∧ R (cs.map fun i => B.d (.int i)) (fun O' => (p, OD.draws ks c cs n) ∈ O') O1) RX
theorem di_cells {ks : DrK} {j : Nat} (hu : X.A.units + 1 < cLine) (ho : DE X T W o α) : DI X T W tg (.Subscript o (.Constant (.str ks.kc) j p1) pos) (dCells ks α) :=
  pi_imp (pi_seq (pe_dget hu ho pe_str fun _ _ => rfl)) fun σ H Q ⟨G, ρ, O, R, RX, S, E, d, h, x⟩ => ⟨G, ρ, O, _, RX, S, E, d, (fun b O1 v G1 H1 d1 s1 S1 r1 => by
    obtain ⟨pa, c, cs, n, rfl, m, d1⟩ := d1
    have ev : v = _ := r1
    subst ev
    obtain ⟨g, gs, r, t, kvs, D0⟩ := S1.drAt m
    refine ⟨pa, .ref c, rfl, by rw [← D0.kc]; exact DGet.k (k := .inr ks.kc) D0.d, c, rfl, .inl ⟨⟨_, SqL.of D0.c_⟩, h _ _ _ _ _ _ d1 s1 S1 fun i G2 H2 O2 s2 S2 m2 => ?_⟩⟩
    obtain ⟨g2, gs2, r2, t2, kvs2, D2⟩ := S2.drAt m2
    have q : SqL X.K H2 c (cs.map V.int) := SqL.of D2.c_
    refine ⟨fun b hb => ?_, fun hi => ⟨_, q, by rw [hi, List.length_map, List.length_map]; exact Nat.le_refl _⟩⟩
    rw [List.getElem?_map] at hb
    cases ed : cs[i]? with
    | none => rw [ed] at hb; cases hb
    | some z =>
      rw [ed] at hb
      cases hb
      have e1 : (cs.map V.int)[i]? = some (.int z) := by rw [List.getElem?_map, ed]; rfl
      refine ⟨⟨_, _, q, e1⟩, fun u H' ⟨eH, hu⟩ => ?_⟩
      have := hu _ q
      rw [e1] at this; cases this
      subst eH
      exact ⟨G2, Same.refl _, S2, by simp only [RB, Rp]⟩), x⟩
/-- d['great'].pop(0) if d['great'] != [] else e -/
abbrev dGpop (i : Nat) (ks : DrK) (ε : DTE) : DTE := fun ρ O R RX => ∃ p c cs n, ρ[i]? = some (some (.v (.ref p))) ∧ (p, .draws ks c cs n) ∈ O ∧ (∀ z : Int, R (.d (.int z)) O) ∧ ε ρ O R RX
theorem dpAll_ints {K : PySem.W.Frag} {H : Hp} : ∀ gs : List Int, DpAll K H (gs.map V.int) (gs.map PyData.int)
  | [] => .nil
  | g :: gs => .cons (.int g) (dpAll_ints gs)
theorem eqv_nil (gs : List Int) : PyData.eqv (.list (gs.map PyData.int)) (.list []) = gs.isEmpty := by
  cases gs <;> rfl
theorem shaped_ints (gs : List Int) : SeqAt.shaped (.list (gs.map PyData.int)) = true := by
  unfold SeqAt.shaped
  induction gs with
  | nil => rfl
  | cons g gs ih => first | exact ih | simp_all [SeqAt.shaped]
theorem de_gpop {ks : DrK} {i : Nat} {o1 o2 : Expr} {j1 j2 j3 : Nat} {pa pb pc pd pe_ pf pg cpos : Pos} (hu : X.A.units + 64 < cLine) (h1 : PE X o1 (tVar i)) (h2 : PE X o2 (tVar i)) (he : DE X T W e ε) (hm : behindInMarks .NotEq (.List [] pd) = false)
    (hbase : attributeBase (.Subscript o2 (.Constant (.str ks.kg) j2 pe_) pf) "pop" X.env (eval (.Subscript o2 (.Constant (.str ks.kg) j2 pe_) pf) X.env) = eval (.Subscript o2 (.Constant (.str ks.kg) j2 pe_) pf) X.env := by rfl)
    (hfew : ((backTo cpos (starEach [.Constant (.int 0) j3 pg] X.env)).all (fun x => !x.1) && (backToKw cpos (keywordEach [] X.env)).all (fun x => x.1.isSome)
      && decide (([.Constant (.int 0) j3 pg] : List Expr).length + ([] : List Keyword).length + (if ([] : List Keyword).isEmpty then 0 else 1) < 30)) = true := by rfl)
    (hline : (apos.endLine == cpos.line) = true := by rfl) (hs : starEach [.Constant (.int 0) j3 pg] X.env = (false, eval (.Constant (.int 0) j3 pg) X.env) :: starEach [] X.env := by rfl) (hplain : (backTo cpos (starEach [] X.env)).any (·.1) = false := by rfl) :
    DE X T W (.IfExp (.Compare (.Subscript o1 (.Constant (.str ks.kg) j1 pa) pb) [.NotEq] [.List [] pd] pc) (.Call (.Attribute (.Subscript o2 (.Constant (.str ks.kg) j2 pe_) pf) "pop" apos) [.Constant (.int 0) j3 pg] [] cpos) e pos) (dGpop i ks ε) := by
  have hu1 : X.A.units + 1 < cLine := by omega
  refine de_of (pe_ifExp (pt_cmpR (op_neD hu) (pe_dget hu1 h1 (pe_str (x := ks.kg)) fun _ _ => rfl) (pe_lst pa_nil) hm)
    (pe_bm PySem.F.plainAttrs_list PySem.F.slot_list_pop PySem.F.type_list_pop (r := rPopAt) (fun pins s σ H x xs v us Q I rx rv h => mt_popAt pins s σ H x xs v us Q I rx rv h) (pe_dget hu1 h2 (pe_str (x := ks.kg)) fun _ _ => rfl) (pa_cons pe_int pa_nil hs) hbase hfew hline hs hplain) he) ?_
  intro G σ H ρ O R RX Q S E d p x
  obtain ⟨pa, c, cs, n, hv, m, hz, d⟩ := d
  obtain ⟨v, e1, ev⟩ := E i _ hv
  have ev' : v = .ref pa := ev
  subst ev'
  obtain ⟨g, gs, r, t, kvs, D0⟩ := S.drAt m
  have hget : DGet H pa (kV (.inr ks.kg)) (some (.ref g)) := by rw [← D0.kg]; exact DGet.k (k := .inr ks.kg) D0.d
  refine ⟨_, e1, pa, _, rfl, hget, ?_⟩
  refine ⟨Nat.zero_le _, fun q hq => ?_⟩
  have S1 := S.upd' (o := .lst []) hq
  have neq : ∀ {b : Addr} {o : HO}, H b = some o → b ≠ q := fun {b o} h z => by rw [z, hq] at h; cases h
  have hp1 : upd H q (.lst []) pa = some (.dK kvs) := by rw [upd_ne (neq D0.d)]; exact D0.d
  have hg1 : upd H q (.lst []) g = some (.lst (gs.map V.int)) := by rw [upd_ne (neq D0.g_)]; exact D0.g_
  refine ⟨.list (gs.map PyData.int), .list [], .lst (SqL.of hg1) (dpAll_ints gs), .lst (SqL.of upd_same) .nil, shaped_ints gs, rfl, ?_⟩
  rw [eqv_nil]
  refine ⟨_, rfl, ?_⟩
  cases gs with
  | nil =>
    rw [if_neg (by simp)]
    exact ⟨G, ρ, O, _, _, S1, E, d, p, x⟩
  | cons z gs =>
    rw [if_pos (by simp)]
    have hget1 : DGet (upd H q (.lst [])) pa (kV (.inr ks.kg)) (some (.ref g)) := by rw [← D0.kg]; exact DGet.k (k := .inr ks.kg) hp1
    refine ⟨_, e1, pa, _, rfl, hget1, .inl ⟨rfl, _, SqL.of hg1⟩, ?_⟩
    refine ⟨g, _, 0, 0, .int z, rfl, rfl, hg1, by decide, by decide, ?_, rfl, p _ _ _ _ _ (hz z) (Same.refl _) (S1.drPutG m hp1 D0.kg gs) (by simp only [RB, Rp])⟩
    simp [seqIndex?]
/-- three chunks become the state of the draws -/
theorem Sep.merge {G H : Hp} {O : Ow} {p g c : Addr} {gs cs : List Int} {ks : DrK} {kvs : List (Key × V)} {n : Nat} (S : Sep T G H O) (mp : (p, .dct0) ∈ O) (mg : (g, .lst (gs.map D.int)) ∈ O) (mc : (c, .lst (cs.map D.int)) ∈ O) (hpg : p ≠ g) (hpc : p ≠ c) (hgc : g ≠ c)
    (hk : kvs.length ≤ 10 ∧ valV kvs (.inr ks.kg) = some (.ref g) ∧ valV kvs (.inr ks.kc) = some (.ref c) ∧ (∃ r, valV kvs (.inr ks.kr) = some (.int r)) ∧ valV kvs (.inr ks.kt) = some (.int 0)) :
    Sep T G (upd H p (.dK kvs)) ((p, .draws ks c cs n) :: odel (odel (odel O p) g) c) := by
  have gnp := S.gnone mp
  obtain ⟨sub, nt, ⟨f, h1, h2⟩, nd, tab⟩ := S
  obtain ⟨ow, smp, djp⟩ := h1 _ mp
  obtain ⟨⟨vg, eg, zg, rg, ng⟩, smg, djg⟩ := h1 _ mg
  obtain ⟨⟨vc, ec, zc, rc, nc⟩, smc, djc⟩ := h1 _ mc
  obtain ⟨ep, np⟩ := ow
  have ep' : f p p = some (.dK []) := ep
  have evg : vg = gs.map V.int := Rps.ints_inv rg
  have evc : vc = cs.map V.int := Rps.ints_inv rc
  subst evg
  subst evc
  dsimp only at eg ec ng nc smp smg smc djp djg djc np ep
  have fgp : f g p = none := ng p hpg
  have fcp : f c p = none := nc p hpc
  have fgc : f g c = none := ng c (Ne.symm hgc)
  have U0 : ∀ b, b ≠ p → (fun b => if b = p then some (HO.dK kvs) else match f g b with | some u => some u | none => f c b) b = match f g b with | some u => some u | none => f c b := fun b hb => if_neg hb
  have memd : ∀ q, q ∈ odel (odel (odel O p) g) c → q ∈ O ∧ q.1 ≠ p ∧ q.1 ≠ g ∧ q.1 ≠ c := fun q hq => by
    obtain ⟨a1, a2⟩ := mem_odel.mp hq
    obtain ⟨a3, a4⟩ := mem_odel.mp a1
    obtain ⟨a5, a6⟩ := mem_odel.mp a3
    exact ⟨a5, a6, a4, a2⟩
  have djU : ∀ q, q ∈ odel (odel (odel O p) g) c → Dj (fun b => if b = p then some (HO.dK kvs) else match f g b with | some u => some u | none => f c b) (f q.1) := fun q hq b => by
    obtain ⟨m0, m1, m2, m3⟩ := memd q hq
    by_cases hb : b = p
    · subst hb
      exact .inr ((h2 (b, .dct0) mp q m0 (Ne.symm m1)).none_of ep)
    · show (if b = p then _ else _) = none ∨ _
      rw [if_neg hb]
      cases e1 : f g b with
      | some u => exact .inr ((h2 (g, _) mg q m0 (Ne.symm m2)).none_of e1)
      | none =>
        cases e2 : f c b with
        | none => exact .inl rfl
        | some u => exact .inr ((h2 (c, _) mc q m0 (Ne.symm m3)).none_of e2)
  refine ⟨fun b o e => by rw [upd_ne (fun z => by rw [z, gnp] at e; cases e)]; exact sub _ _ e, nt, ⟨fun a => if a = p then (fun b => if b = p then some (HO.dK kvs) else match f g b with | some u => some u | none => f c b) else f a, fun q hq => ?_, fun q hq r hr hne => ?_⟩, ?_, amb_upd tab fun x e => ?_⟩
  · rcases List.mem_cons.mp hq with e | hq
    · subst e
      dsimp only
      rw [if_pos rfl]
      refine ⟨?_, fun b o e => ?_, fun b => ?_⟩
      · obtain ⟨k1, k2, k3, ⟨r, k4⟩, k5⟩ := hk
        refine ⟨g, gs, r, 0, kvs, hpg, hpc, hgc, if_pos rfl, ⟨k1, k2, k3, k4, k5, Int.le_refl _, Int.natCast_nonneg _⟩, ?_, ?_, fun b b1 b2 b3 => ?_⟩
        · dsimp only
          rw [if_neg (Ne.symm hpg), eg]
        · dsimp only
          rw [if_neg (Ne.symm hpc), fgc]
          exact ec
        · dsimp only
          rw [if_neg b1, ng b b2]
          exact nc b b3
      · dsimp only at e
        by_cases hb : b = p
        · subst hb
          rw [if_pos rfl] at e
          rw [upd_same]; exact e
        · rw [if_neg hb] at e
          rw [upd_ne hb]
          cases e1 : f g b with
          | some u => rw [e1] at e; cases e; exact smg _ _ e1
          | none => rw [e1] at e; exact smc _ _ e
      · dsimp only
        by_cases hb : b = p
        · subst hb; exact .inr gnp
        · rw [if_neg hb]
          cases e1 : f g b with
          | some u => exact .inr (djg.none_of e1)
          | none => exact djc b
    · obtain ⟨m0, m1, m2, m3⟩ := memd q hq
      dsimp only
      rw [if_neg m1]
      obtain ⟨x, y, z⟩ := h1 q m0
      refine ⟨x, fun b o e => ?_, z⟩
      rw [upd_ne (fun zz => by rw [zz] at e; rw [(h2 (p, .dct0) mp q m0 (Ne.symm m1)).none_of ep] at e; cases e)]
      exact y _ _ e
  · dsimp only
    rcases List.mem_cons.mp hq with e | hq
    · rcases List.mem_cons.mp hr with e' | hr
      · rw [e, e'] at hne; exact absurd rfl hne
      · obtain ⟨m0, m1, m2, m3⟩ := memd r hr
        have e1 : q.1 = p := by rw [e]
        rw [if_pos e1, if_neg m1]
        exact djU r hr
    · rcases List.mem_cons.mp hr with e' | hr
      · obtain ⟨m0, m1, m2, m3⟩ := memd q hq
        have e1 : r.1 = p := by rw [e']
        rw [if_pos e1, if_neg m1]
        exact (djU q hq).symm
      · obtain ⟨m0, m1, m2, m3⟩ := memd q hq
        obtain ⟨l0, l1, l2, l3⟩ := memd r hr
        rw [if_neg m1, if_neg l1]
        exact h2 q m0 r l0 hne
  · rw [List.map_cons]
    refine List.nodup_cons.mpr ⟨fun hm => ?_, odel_nd (odel_nd (odel_nd nd))⟩
    obtain ⟨q, hq, e⟩ := List.mem_map.mp hm
    exact (memd q hq).2.1 e
  · have := smp _ _ ep'
    rw [this] at e; cases e
    exact ⟨(fun _ z => nomatch z), (fun _ z => nomatch z), (fun _ _ z => nomatch z)⟩
theorem Sep.dct {G H : Hp} {O : Ow} {p : Addr} (S : Sep T G H O) (h : H p = none) : Sep T G (upd H p (.dK [])) ((p, .dct0) :: O) := by
  refine S.ownC (c := upd (fun _ => none) p (.dK [])) (Same.upd h) ⟨upd_same, fun b hb => by rw [upd_ne hb]⟩ fun b u e => ?_
  by_cases hb : b = p
  · subst hb
    rw [upd_same] at e ⊢
    exact ⟨h, e⟩
  · rw [upd_ne hb] at e; cases e
/-- {'great': .., 'cells': .., 'rest': 0, 'turn': 0} -/
abbrev dBegun (ks : DrK) (α β : DTE) : DTE := fun ρ O R RX => ∀ p, (∀ r ∈ O, r.1 ≠ p) → α ρ ((p, .dct0) :: O) (fun b1 O1 => β ρ O1 (fun b2 O2 => ∃ (g c : Addr) (gs cs : List Int) (n : Nat), b1 = .v (.ref g) ∧ b2 = .v (.ref c) ∧ p ≠ g ∧ p ≠ c ∧ g ≠ c ∧ (p, .dct0) ∈ O2 ∧ (g, .lst (gs.map D.int)) ∈ O2 ∧ (c, .lst (cs.map D.int)) ∈ O2 ∧
  R (.v (.ref p)) ((p, .draws ks c cs n) :: odel (odel (odel O2 p) g) c)) RX) RX
theorem de_begun {ks : DrK} {e1 e2 : Expr} {β : DTE} {j1 j2 j3 j4 j5 j6 : Nat} {q1 q2 q3 q4 q5 q6 : Pos} (ok : ks.Ok) (h1 : DE X T W e1 α) (h2 : DE X T W e2 β) :
    DE X T W (.Dict [some (.Constant (.str ks.kg) j1 q1), some (.Constant (.str ks.kc) j2 q2), some (.Constant (.str ks.kr) j3 q3), some (.Constant (.str ks.kt) j4 q4)] [e1, e2, .Constant (.int 0) j5 q5, .Constant (.int 0) j6 q6] pos) (dBegun ks α β) := by
  obtain ⟨o1, o2, o3, o4, o5, o6⟩ := ok
  refine de_of (pe_disp (pps_cons pe_str h1 (pps_cons pe_str h2 (pps_cons pe_str pe_int (pps_cons pe_str pe_int pps_nil)))) rfl rfl (by simp) (by show 4 ≤ 15; decide)) ?_
  intro G σ H ρ O R RX Q S E d p x pa hpa
  refine ⟨G, ρ, _, _, RX, S.dct hpa, E, d pa (S.fresh hpa), fun b1 O1 v1 G1 H1 d1 s1 S1 r1 => ⟨G1, ρ, O1, _, _, S1, E.mono s1, d1, fun b2 O2 v2 G2 H2 d2 s2 S2 r2 => ?_, x.mono s1⟩, x⟩
  obtain ⟨g, c, gs, cs, n, rfl, rfl, hpg, hpc, hgc, mp, mg, mc, d2⟩ := d2
  have ev1 : v1 = _ := r1
  have ev2 : v2 = _ := r2
  subst ev1
  subst ev2
  obtain ⟨hh, ow, smp, _⟩ := S2.chunk mp
  refine ⟨smp _ _ ow.1, [(.inr ks.kg, .ref g), (.inr ks.kc, .ref c), (.inr ks.kr, .int 0), (.inr ks.kt, .int 0)], rfl, by show 4 ≤ 15; decide, ?_⟩
  have nn : ∀ {a b : Str}, a ≠ b → ¬ ((.inr a : Key) = .inr b) := fun h e => h (Sum.inr.inj e)
  have em : mergeK [] [((.inr ks.kg : Key), V.ref g), (.inr ks.kc, .ref c), (.inr ks.kr, .int 0), (.inr ks.kt, .int 0)] = [(.inr ks.kg, .ref g), (.inr ks.kc, .ref c), (.inr ks.kr, .int 0), (.inr ks.kt, .int 0)] := by
    simp [mergeK, putK, o1, o2, o3, o4, o5, o6]
  rw [em]
  exact p _ _ _ _ _ d2 (s1.trans s2) (S2.merge mp mg mc hpg hpc hgc ⟨by simp, by simp [valV], by simp [valV, o1], ⟨0, by simp [valV, o2, o4]⟩, by simp [valV, o3, o5, o6]⟩) rfl
end
end DL
end
section
set_option maxRecDepth 100000
set_option maxHeartbeats 2000000
/-! part p: a tuple turned round -/
namespace DL
open PySem PySem.Spec PyProof.Rows L2

section
variable {prog : Program} {w : World} {A : Around} {E : Value → Shared → Prop} {s : Shared}
theorem rev_pick (xs : Array Value) : ((List.range xs.size).filterMap fun (m : Nat) => xs[(((xs.size : Int) - 1) + (m : Int) * (-1)).toNat]?) = xs.toList.reverse := by
  refine List.ext_getElem? fun i => ?_
  have key : ∀ n, n ≤ xs.size → ((List.range n).filterMap fun (m : Nat) => xs[(((xs.size : Int) - 1) + (m : Int) * (-1)).toNat]?) = (xs.toList.reverse).take n := by
    intro n
    induction n with
    | zero => intro _; rfl
    | succ n ih =>
      intro hn
      rw [List.range_succ, List.filterMap_append, ih (by omega)]
      have e : (((xs.size : Int) - 1) + (n : Int) * (-1)).toNat = xs.size - 1 - n := by omega
      have hlt : xs.size - 1 - n < xs.size := by omega
      simp only [List.filterMap_cons, List.filterMap_nil, e, Array.getElem?_eq_getElem hlt]
      rw [List.take_add_one, List.getElem?_reverse (by rw [Array.length_toList]; omega), Array.length_toList]
      have : xs.toList[xs.size - 1 - n]? = some xs[xs.size - 1 - n] := by rw [Array.getElem?_toList, Array.getElem?_eq_getElem hlt]
      rw [this]
      rfl
  rw [key _ (Nat.le_refl _)]
  have : xs.size = xs.toList.reverse.length := by rw [List.length_reverse, Array.length_toList]
  rw [this, List.take_length]
theorem getItem_tuple_rev {t sl : Addr} {items : Array Value} {vl vu vs : Value} {Q : Value → Shared → Prop} (ht : IsTup s.heap t items) (hs : s.heap.IsSliceOf sl vl vu vs) (pl : IsPart vl none) (pu : IsPart vu none) (ps : IsPart vs (some (-1)))
    (h : Q (.ref s.heap.objs.size) { s with heap := s.heap.push { cls := .type "tuple", data := .seq items.toList.reverse.toArray } }) (hsz : items.size ≤ sizeLine) : wpAny (model prog w) A (getItem (.ref t) (.ref sl)) Q E s := by
  have htake : sizeOk (.seq items.toList.reverse.toArray) := by
    show items.toList.reverse.toArray.size ≤ sizeLine
    rw [List.size_toArray, List.length_reverse, Array.length_toList]
    exact hsz
  obtain ⟨os, hos, hcs, hds⟩ := id hs
  have hTs : s.TypeIs (.ref sl) "slice" := ⟨os, hos, hcs⟩
  unfold getItem
  try with_reducible refine wpAny_holding ?_
  first | refine wpAny_bind (wpAny_pure ?_) | skip
  refine wpAny_bind (wpAny_sequenceKey ht.typeIs (by decide) ?_)
  refine wpAny_bind (wpAny_callSpecial?_slot (name := Str.ofString "__getitem__") ht.typeIs PyProof.Rows.slot_tuple_getitem
    (wpAny_call_entry PyProof.Rows.slot_tuple_getitem ht.typeIs PyProof.Rows.entry_tuple_getitem ?_ (PyProof.Rows.args_tuple_getitem _ _)))
  show wpAny _ _ (Builtin.Tuple.tupleItemsOf (.ref t) >>= _) _ _ s
  refine wpAny_bind (PyProof.Rows.tupleItemsOf_ ht ?_)
  refine wpAny_bind (wpAny_typeOf hTs ?_)
  rw [if_pos (by decide)]
  refine wpAny_bind (m := Builtin.Slice.sliceApplied (.ref sl) (pure (items.size : Int))) ?_
  unfold Builtin.Slice.sliceApplied Builtin.Slice.sliceFields
  refine wpAny_bind (wpAny_bind (wpAny_field hos hds (x := vl) rfl (wpAny_bind (wpAny_field hos hds (x := vu) rfl (wpAny_bind (wpAny_field hos hds (x := vs) rfl (wpAny_pure ?_)))))))
  refine wpAny_bind (HT.slicePart_ ps ?_)
  show wpAny _ _ (if ((-1 : Int) == 0) = true then _ else _) _ _ s
  rw [if_neg (by decide)]
  refine wpAny_bind (HT.slicePart_ pl (wpAny_bind (HT.slicePart_ pu (wpAny_bind (wpAny_pure ?_)))))
  show wpAny _ _ (match Builtin.Slice.sliceAdjust none none (-1) (items.size : Int) with | (lo, hi) => pure (lo, (-1 : Int), Builtin.Slice.slicePlaces lo hi (-1))) _ _ s
  have ea : Builtin.Slice.sliceAdjust none none (-1) (items.size : Int) = ((items.size : Int) - 1, -1) := rfl
  rw [ea]
  show wpAny _ _ (pure ((items.size : Int) - 1, (-1 : Int), Builtin.Slice.slicePlaces ((items.size : Int) - 1) (-1) (-1))) _ _ s
  have ep : Builtin.Slice.slicePlaces ((items.size : Int) - 1) (-1) (-1) = items.size := by
    unfold Builtin.Slice.slicePlaces
    rw [if_neg (by decide)]
    split
    · have : ((items.size : Int) - 1 - -1 - 1) / (- -1) = (items.size : Int) - 1 := by
        have e1 : (- -1 : Int) = 1 := by decide
        rw [e1, Int.ediv_one]; omega
      rw [this]; omega
    · omega
  rw [ep]
  refine wpAny_pure ?_
  have hno : ¬ ((((items.size : Int) - 1) == 0 && (-1 : Int) == 1 && items.size == items.size) = true) := by
    intro q
    rw [Bool.and_eq_true, Bool.and_eq_true] at q
    exact absurd q.1.2 (by decide)
  show wpAny _ _ (if (((items.size : Int) - 1) == 0 && (-1 : Int) == 1 && items.size == items.size) = true then _ else _) _ _ s
  rw [if_neg hno, rev_pick]
  first
    | exact wpAny_bind (m := Builtin.Tuple.tupleExact _) (wpAny_newObj_type (wpAny_pure ⟨_, rfl, wpAny_pure h⟩) htake)
    | exact wpAny_bind (m := Builtin.Tuple.tupleExact _) (wpAny_newObj_type (wpAny_bind (wpAny_pure (wpAny_pure ⟨_, rfl, wpAny_pure h⟩))) htake)
    | exact wpAny_bind (wpAny_bind (m := Builtin.Tuple.tupleExact _) (wpAny_newObj_type (wpAny_pure (wpAny_pure ⟨_, rfl, wpAny_pure h⟩)) htake))
    | exact wpAny_bind (wpAny_bind (m := Builtin.Tuple.tupleExact _) (wpAny_newObj_type (wpAny_pure ⟨_, rfl, wpAny_pure h⟩) htake))
end
section
variable {X : Cx} {T : Tb} {W : WX} {e : Expr} {α : DTE} {k : Nat} {p1 p2 p3 pos : Pos}
def tRevT (K : PySem.W.Frag) (te : TE) : TE := fun σ H Q => te σ H fun x H1 => ∃ a xs, x = .ref a ∧ SqT K H1 a xs ∧ ∀ p, H1 p = none → Q (.ref p) (upd H1 p (.tup xs.reverse))
theorem pe_revT {te : TE} (he : PE X e te) : PE X (.Subscript e (.Slice none none (some (.UnaryOp .USub (.Constant (.int 1) k p1) p2)) p3) pos) (tRevT X.K te) := by
  refine ⟨fun pins s σ H Q I h => ?_⟩
  refine Subscript_ (thn (he.run pins s σ H _ I h) fun v s1 ⟨x, H1, I1, r1, q1⟩ => ?_)
  obtain ⟨a, xs, ex, hx, q⟩ := q1
  subst ex
  cases r1
  have hst : PO X (some (.UnaryOp .USub (.Constant (.int 1) k p1) p2)) (tPart (tUn (rU fun i => .int (-i)) (tC (.int 1)))) := po_some (pe_un un_neg pe_int)
  refine wpAny_Slice (thn (po_none.run pins s1 σ H1 (fun o H2 => o = none ∧ H2 = H1) I1 ⟨rfl, rfl⟩) fun vl s2 ⟨l, H2, I2, pl, el, e2⟩ => ?_)
  subst el e2
  refine thn (po_none.run pins s2 σ H2 (fun o H3 => o = none ∧ H3 = H2) I2 ⟨rfl, rfl⟩) fun vu s3 ⟨u, H3, I3, pu, eu, e3⟩ => ?_
  subst eu e3
  refine thn (hst.run pins s3 σ H3 (fun o H4 => o = some (-1) ∧ H4 = H3) I3 ⟨1, rfl, -1, rfl, rfl, rfl⟩) fun vs s4 ⟨o, H4, I4, ps, eo, e4⟩ => ?_
  subst eo e4
  have I5 : Inv X pins σ H4 { s4 with heap := s4.heap.push { cls := .type "slice", data := .fields #[vl, vu, vs] } } := I4.kept (t' := s4.toks) fun b ob q => Heap.get?_push_of_some _ q
  obtain ⟨its, r, ht, hz⟩ := I5.tuple hx
  have hlen := r.length
  show wpAny (model X.prog X.w) X.A (subscriptTail e (.Slice none none (some (.UnaryOp .USub (.Constant (.int 1) k p1) p2)) p3) (.ref a) (.ref s4.heap.objs.size)) (EP X pins σ Q) X.xe { s4 with heap := s4.heap.push { cls := .type "slice", data := .fields #[vl, vu, vs] } }
  refine tail_any (ops := [.ref a, .ref s4.heap.objs.size]) ht.typeIs (PyProof.Rows.slot_tuple_getitem.lookup) ?_ (by with_unfolding_all rfl)
  refine getItem_tuple_rev ht (Heap.IsSliceOf.new _ vl vu vs) pl pu ps ?_ (by rw [List.size_toArray]; omega)
  refine ⟨.ref _, _, I5.laid (t' := s4.toks) (o := .tup xs.reverse) (fun b ob q => Heap.get?_push_of_some _ q) (Nat.le_refl _) ?_, rfl, q _ (I5.hok.fresh (Nat.le_refl _))⟩
  exact ⟨by rw [List.length_reverse]; exact hz, _, r.reverse, _, Heap.get?_push_size _ rfl, rfl, 0, rfl⟩
abbrev dRevT (α : DTE) : DTE := fun ρ O R RX => α ρ O (fun b O1 => ∃ xs, b = .d (.tup xs) ∧ R (.d (.tup xs.reverse)) O1) RX
theorem de_revT (he : DE X T W e α) : DE X T W (.Subscript e (.Slice none none (some (.UnaryOp .USub (.Constant (.int 1) k p1) p2)) p3) pos) (dRevT α) :=
  de_of (pe_revT he) fun G σ H ρ O R RX Q S E d p x => ⟨G, ρ, O, _, RX, S, E, d, (fun b O1 v G1 H1 d1 s1 S1 r1 => by
    obtain ⟨xs, e1, d1⟩ := d1
    subst e1
    simp only [RB, Rp] at r1
    obtain ⟨a, vs, e2, h1, z, r⟩ := r1
    refine ⟨a, vs, e2, SqT.of (S1.sub _ _ h1), fun q hq => ?_⟩
    obtain ⟨S2, s2, rr⟩ := new_tup S1 r.rev (by rw [List.length_reverse, ← r.len]; exact z) hq
    exact p _ _ _ _ _ d1 (s1.trans s2) S2 rr), x⟩
end
end DL
end
section
set_option maxRecDepth 100000
set_option maxHeartbeats 2000000
/-! part q: odds and ends -/
namespace DL
open PySem PySem.Spec PyProof.Rows L2

section
variable {X : Cx} {T : Tb} {W : WX} {pos : Pos} {a b c e : Expr} {τ υ φ : DTT}
theorem pt_ifx {tA tB tC : TT} (hc : PT X c tA) (ha : PT X a tB) (hb : PT X b tC) : PT X (.IfExp c a b pos) (fun σ H Q => tA σ H fun k H1 => if k = true then tB σ H1 Q else tC σ H1 Q) := by
  refine ⟨fun pins s σ H Q I h => ?_⟩
  refine PyProof.Rows.isTrue_IfExp (thn (hc.run pins s σ H _ I h) fun d s1 ⟨H1, I1, q1⟩ => ?_)
  cases d with
  | true =>
    rw [if_pos rfl] at q1
    exact ha.run pins s1 σ H1 Q I1 q1
  | false =>
    rw [if_neg Bool.false_ne_true] at q1
    exact hb.run pins s1 σ H1 Q I1 q1
abbrev dIfT (τ υ φ : DTT) : DTT := fun ρ O R RX => τ ρ O (fun k O1 => iteP k (υ ρ O1 R RX) (φ ρ O1 R RX)) RX
theorem dt_if (hc : DT X T W c τ) (ha : DT X T W a υ) (hb : DT X T W b φ) : DT X T W (.IfExp c a b pos) (dIfT τ υ φ) :=
  dt_of (pt_ifx hc ha hb) fun G σ H ρ O R RX Q S E d p x => ⟨G, ρ, O, _, RX, S, E, d, (fun k O1 G1 H1 d1 s1 S1 =>
    ifP (fun h => ⟨G1, ρ, O1, R, RX, S1, E.mono s1, d1.1 h, p.mono s1, x.mono s1⟩) fun h => ⟨G1, ρ, O1, R, RX, S1, E.mono s1, d1.2 h, p.mono s1, x.mono s1⟩), x⟩
abbrev dNeverE : DTE := fun _ _ _ _ => False
theorem de_never : DE X T W e dNeverE := ⟨fun pins s σ H Q I ⟨_, _, _, _, _, _, _, d, _, _⟩ => d.elim⟩
theorem mtr {id : String} {r : V → List V → Hp → VK → Prop} (h : MtM X id r) : MtR X id r := fun pins s σ H x xs v us Q I rx rv q => h pins s σ H x xs v us Q I rx rv q
theorem units64 {k : Nat} {A : Around} (h : Room k A) : A.units + 64 < cLine := by have := h.un; omega
theorem units1 {k : Nat} {A : Around} (h : Room k A) : A.units + 1 < cLine := by have := h.un; omega
theorem de_globE {x : Str} {i : Int} (hm : ∃ u, X.mg x = some (.int i u)) (hg : Gl X x := by rfl) (hd : (x == ("__debug__" : Str)) = false := by decide) : DE X T W (.Name x pos) (dC (.d (.int i))) := by
  obtain ⟨u, h⟩ := hm
  exact de_glob h hg hd
/-- an own exception that may be raised with one part, kept as f -/
structure XsE (K : PySem.W.Frag) (P : Program) (C : Addr) (f : Str) : Prop where
  ox : OexC K C
  ex : ∃ (fI D : Addr) (y : Str) (fd : FuncData) (body : List Stmt) (scope : Scope) (cda cc : Addr), PySem.W.findIn K (.ref C) "__init__" = some (some (.ref fI)) ∧ PySem.W.typeIn K (.ref fI) = some (.type "function") ∧ SupI K P C D fI f y fd body scope cda cc
theorem ds_raiseE {α : DTE} {p p2 : Pos} {x f : Str} {C : Addr} {j : Nat} (hc : X.calm = true) (tk : Takes X W) (xs : XsE X.K X.prog C f) (hr : Room j X.A) (hk : 1 ≤ j) (hmg : X.mg "super" = none) (hm : X.mg x = some (.ref C)) (ha : DE X T W e α) (hg : Gl X x := by rfl)
    (hdb : (x == ("__debug__" : Str)) = false := by decide) (he : starEach [e] X.env = (false, eval e X.env) :: starEach [] X.env := by rfl) :
    DS X T W (.Raise (some (.Call (.Name x p) [e] [] p2)) none pos) (dRaise C f α) := by
  obtain ⟨fI, D, y, fd, body, scope, cda, cc, h1, h2, h3⟩ := xs.ex
  exact ds_raise hc tk xs.ox h1 h2 h3 hr hk hmg hm ha hg hdb he
end
end DL
end
section
set_option maxRecDepth 100000
set_option maxHeartbeats 2000000
/-! part r: the law at a script -/
namespace DL
open PySem PySem.Spec PyProof.Rows L2
/-- what the law promises: at a script that is known for good, or at a list that nobody else holds -/
def lawSp (tabs : List (Addr × Str)) (K : PySem.W.Frag) (F : FSp) : Sp := fun vs H Q E => lift tabs K F vs H Q E ∨
  ∃ (a : Addr) (ns : List Int), vs = [.ref a] ∧ H a = some (.lst (ns.map V.int)) ∧ Q = (fun v _ => v = .bl true) ∧ E = (fun _ _ _ => False) ∧ ∀ o, lift tabs K F vs (upd H a (.frz o (.lst (ns.map V.int)))) Q E
theorem hok_frz {P : Program} {w : World} {H : Hp} {h : Heap} {a : Addr} {xs : List V} {o : Obj} (ok : HOk P w H h) (e : H a = some (.lst xs)) (ho : h.get? a = some o) : HOk P w (upd H a (.frz o (.lst xs))) h := fun b u q => by
  by_cases z : b = a
  · subst z
    rw [upd_same] at q
    cases q
    exact ⟨ho, ok _ _ e⟩
  · rw [upd_ne z] at q
    refine (ok b u q).stay (fun c v hc r => r) (fun c r => ?_) fun c xs r => ?_
    · rw [upd_ne (fun z => by rw [z, e] at r; cases r)]; exact r
    · rw [upd_ne (fun z => by rw [z, e] at r; cases r)]; exact r
theorem fn_law {P : Program} {w : World} {K : PySem.W.Frag} {mg : Str → Option Value} {base : Heap} {k : Nat} {f : Addr} {fd : FuncData} {ps : List Str} {tabs : List (Addr × Str)} {F : FSp} (F0 : FnOk P w K mg base (L2.CX P w) k f fd ps (lift tabs K F)) :
    FnOk P w K mg base (L2.CX P w) k f fd ps (lawSp tabs K F) := by
  refine ⟨fun vs H Q E h => ?_, fun A outer s H args us vs Q E hr he hb hv h => ?_⟩
  · rcases h with h | ⟨a, ns, _, _, _, _, h⟩
    · exact F0.len _ _ _ _ h
    · exact F0.len _ _ _ _ (h { cls := .none, data := .plain })
  · rcases h with h | ⟨a, ns, _, e, rfl, rfl, h⟩
    · exact F0.run A outer s H args us vs Q E hr he hb hv h
    · obtain ⟨_, its, n, _, ho⟩ := he.hok a _ e
      have ne : ∀ b, H b = none → b ≠ a := fun b hb z => by rw [z, e] at hb; cases hb
      have e1 : ∀ b, H b = none → upd H a (.frz { cls := .type "list", data := .seq its.toArray n } (.lst (ns.map V.int))) b = none := fun b hb => by rw [upd_ne (ne b hb)]; exact hb
      have he' : Env0 P w K mg base A outer s (upd H a (.frz { cls := .type "list", data := .seq its.toArray n } (.lst (ns.map V.int)))) :=
        ⟨he.frames, he.mod, fun b o q => ⟨(he.bs b o q).1, e1 b (he.bs b o q).2⟩, he.bsz, he.funs, fun b hb => e1 b (he.frf b hb), hok_frz he.hok e ho, he.bare⟩
      refine codeAny_mono (F0.run A outer s _ args us vs _ _ hr he' hb hv (h _)) fun r s' q => ?_
      match r, q with
      | .ok (.ret u), q =>
        obtain ⟨v, H', h1, h2, un, h4, h5, h6⟩ := q
        refine ⟨v, H', h1, h2, ⟨fun b o q n => un.keep b o q (e1 b n), fun b o q n => un.slot b o q (e1 b n), fun b o q n => un.free b o q (e1 b n), un.there, fun b xs q => un.tups b xs ?_, fun b o u q => un.frzs b o u ?_, fun b ps q => un.tbls b ps ?_⟩, h4, h5, h6⟩
        all_goals
          rw [upd_ne (fun z => by rw [z, e] at q; cases q)]
          exact q
      | .error x, q =>
        obtain ⟨a, B, H', cls, d, _, _, _, _, _, _, _, hE⟩ := q
        exact hE.elim
/-- the law's promise at any script -/
theorem law_sp {tabs : List (Addr × Str)} {K : PySem.W.Frag} {F : FSp} (hF : ∀ (T : Tb) (a : Addr) (ns : List Int) (R : DK) (RX : DX), (a, ns) ∈ T.scr → T.K = K → T.tabs = tabs → R (.d (.bl true)) [] → F T [.v (.ref a)] [] R RX)
    (H : Hp) (a : Addr) (ns : List Int) (hl : ns.length ≤ 63) (ht : ∀ p ∈ tabs, H p.1 = some (.tbl #[])) (hs : SqL K H a (ns.map V.int)) : lawSp tabs K F [.ref a] H (fun v _ => v = .bl true) fun _ _ _ => False := by
  have main : ∀ H' : Hp, (∀ p ∈ tabs, H' p.1 = some (.tbl #[])) → ScrOk K H' (a, ns) → lift tabs K F [.ref a] H' (fun v _ => v = .bl true) fun _ _ _ => False := fun H' ht' so => by
    refine ⟨[(a, ns)], fun _ => none, [.v (.ref a)], [], fun b _ => b = .d (.bl true), fun _ _ => False, ⟨rfl, trivial⟩, ⟨(fun b o e => by cases e), (fun b o e => by cases e), ⟨fun _ _ => none, (fun p hp => by cases hp), (fun p hp => by cases hp)⟩, List.nodup_nil, ⟨(fun p hp => .nil (ht' p hp)), (fun p hp => ?_)⟩⟩, hF _ a ns _ _ (List.mem_singleton_self _) rfl rfl rfl, ?_, ?_⟩
    · rw [List.mem_singleton.mp hp]
      exact ⟨so, hl⟩
    · intro b O v G H2 d s S r
      subst d
      simpa only [RB, Rp] using r
    · intro x O c d G H1 h
      exact h.elim
  rcases hs with (h | ⟨o, h⟩) | h
  · refine .inr ⟨a, ns, rfl, h, rfl, rfl, fun o => main _ (fun p hp => ?_) (.inl ⟨o, upd_same⟩)⟩
    rw [upd_ne (fun z => by have := ht p hp; rw [z, h] at this; cases this)]
    exact ht p hp
  · exact .inl (main H ht (.inl ⟨o, h⟩))
  · exact .inl (main H ht (.inr fun H' => .inr h))
end DL
end
section
set_option maxRecDepth 100000
set_option maxHeartbeats 4000000
namespace K00
open PySem PySem.Spec PyProof.Rows L2 DL
structure Ad where
  (Line Bent BadLine : Addr)
  (BentError a_Bent___init__ a_Line___init__ a_Line___eq__ : Addr)
  (tb_law co_law tb__law_bounds_right co__law_bounds_right : Addr)
abbrev Ad.inst (A : Ad) : List Addr := [A.Line]
abbrev Ad.errs (A : Ad) : List Addr := [A.BadLine]
def drk : DrK := ⟨"great", "cells", "rest", "turn"⟩
theorem drk_ok : drk.Ok := by unfold DrK.Ok drk; decide
/-! kinds of classes -/
def qInt : Kd → Option Bool
  | .int => some true | .bl => some true | .non => some false | .str => some false | .tup => some false | .lst => some false | .dct => some false | _ => none
def qBool : Kd → Option Bool
  | .bl => some true | .int => some false | .non => some false | .str => some false | .tup => some false | .lst => some false | .dct => some false | _ => none
def qListTuple : Kd → Option Bool
  | .lst => some true | .tup => some true | .int => some false | .bl => some false | .non => some false | .str => some false | .dct => some false | _ => none
def qIntStr : Kd → Option Bool
  | .int => some true | .bl => some true | .str => some true | .non => some false | .tup => some false | .lst => some false | .dct => some false | _ => none
def qDict : Kd → Option Bool
  | .dct => some true | .int => some false | .bl => some false | .str => some false | .non => some false | .tup => some false | .lst => some false | _ => none
def qTuple : Kd → Option Bool
  | .tup => some true | .int => some false | .bl => some false | .str => some false | .non => some false | .dct => some false | .lst => some false | _ => none
def qList : Kd → Option Bool
  | .lst => some true | .int => some false | .bl => some false | .str => some false | .non => some false | .dct => some false | .tup => some false | _ => none
def qLine (A : Ad) : Kd → Option Bool
  | .ins C => if C = A.Line then some true else none
  | .exc _ => none
  | _ => some false
def qBadLine (A : Ad) : Kd → Option Bool
  | .exc C => if C = A.BadLine then some true else none
  | .ins _ => none
  | _ => some false
/-! data -/
/-- no instance, no exception -/
def plain : D → Prop
  | .ins _ _ _ => False
  | .exc _ _ _ => False
  | _ => True
def isNum : D → Bool
  | .int _ => true
  | _ => false
def isBet (d : D) (lo hi : Int) : Bool := match d with
  | .int i => decide (lo ≤ i) && decide (i ≤ hi)
  | _ => false
abbrev VL : Int := 1000000000000000000000000000000000000000000000000000000000000000000000000000000000000000000000000000000000000000000000000000000000000000000000000000000000000000000000000000000000000000000000000000000000000000000000000000000000000000000000000000000000000000000000000000000000000000000000000000000000000
abbrev SZ : Int := 1000000000000000000000000000000
def isSize (d : D) : Bool := isBet d (-SZ) SZ
def isSeq : D → Bool
  | .lst _ => true
  | .tup _ => true
  | _ => false
def items : D → List D
  | .lst xs => xs
  | .tup xs => xs
  | _ => []
def nums : List D → List Int
  | [] => []
  | .int i :: r => i :: nums r
  | _ :: r => 0 :: nums r
def asc : List Int → Bool
  | a :: b :: r => decide (a < b) && asc (b :: r)
  | _ => true
def notNone : D → Bool
  | .non => false
  | _ => true
def isNonD : D → Bool
  | .non => true
  | _ => false
def ptsR (d : D) : Bool := isSeq d && decide (1 ≤ (items d).length) && decide ((items d).length ≤ 200) && (items d).all isSize && asc (nums (items d))
def mid (xs : List D) : List D := cutD xs (some 1) (some (-1))
def slpR (many : Int) (d : D) : Bool := isSeq d && decide (((items d).length : Int) = many + 1) && (mid (items d)).all isSize && (items d).all (fun x => isNonD x || isSize x) &&
  decide (1 ≤ ((items d).filter notNone).length) && decide (((items d).filter notNone).length ≤ 200) && asc (nums ((items d).filter notNone))
/-- a value, or a list that is owned and stays -/
def look (b : B) (O : Ow) (d : D) : Prop := b = .d d ∨ ∃ a xs, b = .v (.ref a) ∧ (a, .lst xs) ∈ O ∧ d = .lst xs
/-! what the defs promise -/
def F_is_number (A : Ad) : FSp := fun T bs O R RX => ∃ d, bs = [.d d] ∧ plain d ∧ R (.d (.bl (isNum d))) O
def F_is_between (A : Ad) : FSp := fun T bs O R RX => ∃ d lo hi, bs = [.d d, .d (.int lo), .d (.int hi)] ∧ plain d ∧ R (.d (.bl (isBet d lo hi))) O
def F_is_list (A : Ad) : FSp := fun T bs O R RX => ∃ b d, bs = [b] ∧ look b O d ∧ plain d ∧ R (.d (.bl (isSeq d))) O
def F_ascends (A : Ad) : FSp := fun T bs O R RX => ∃ b d ns, bs = [b] ∧ look b O d ∧ isSeq d = true ∧ items d = ns.map D.int ∧ R (.d (.bl (asc ns))) O
def F_is_size (A : Ad) : FSp := fun T bs O R RX => ∃ d, bs = [.d d] ∧ plain d ∧ R (.d (.bl (isSize d))) O
def F_points_right (A : Ad) : FSp := fun T bs O R RX => ∃ b d, bs = [b] ∧ look b O d ∧ plain d ∧ (∀ x ∈ items d, plain x) ∧ R (.d (.bl (ptsR d))) O
def F_told_slopes (A : Ad) : FSp := fun T bs O R RX => ∃ b d, bs = [b] ∧ look b O d ∧ isSeq d = true ∧ R (.d (.lst ((items d).filter notNone))) O
def F_slopes_right (A : Ad) : FSp := fun T bs O R RX => ∃ (many : Int) (b : B) (d : D), bs = [.d (.int many), b] ∧ look b O d ∧ plain d ∧ (∀ x ∈ items d, plain x) ∧ R (.d (.bl (slpR many d))) O
theorem fin_same {b : B} {O : Ow} {P : B → Ow → Prop} (h : P b O) : ∃ b' O', DL.Fin b O b' O' ∧ P b' O' := ⟨b, O, .same (List.Sublist.refl _), h⟩
theorem asc_cons (a b : Int) (r : List Int) : asc (a :: b :: r) = (decide (a < b) && asc (b :: r)) := rfl
/-- by places -/
theorem asc_places : ∀ ns : List Int, asc ns = (List.range (ns.length - 1)).all fun i => decide (ns.getD i 0 < ns.getD (i + 1) 0)
  | [] => rfl
  | [a] => rfl
  | a :: b :: r => by
    rw [asc_cons, asc_places (b :: r)]
    show _ = (List.range (r.length + 1)).all _
    rw [List.range_succ_eq_map, List.all_cons, List.all_map]
    congr 1
theorem look_seq {b : B} {O : Ow} {d : D} (h : look b O d) (hs : isSeq d = true) : peekS b O (items d) := by
  rcases h with rfl | ⟨a, xs, rfl, m, rfl⟩
  · cases d <;> first | rfl | (simp [isSeq] at hs)
  · exact m
theorem look_len {T : Tb} {b : B} {O : Ow} {d : D} {R : DK} (h : look b O d) (hs : isSeq d = true) (k : (items d).length ≤ sizeLine → R (.d (.int (items d).length)) O) : gLen T [b] O R := by
  rcases h with rfl | ⟨a, xs, rfl, m, rfl⟩
  · cases d <;> first | exact k | (simp [isSeq] at hs)
  · exact .inl ⟨xs, m, k⟩
/-- walked, an owned list stays -/
theorem look_iter {T : Tb} {b : B} {O : Ow} {d : D} {k : List B → (Ow → Prop) → Ow → Prop} (h : look b O d) (hs : isSeq d = true) (k1 : ∀ P : Ow → Prop, (∀ O', (∀ q ∈ O, q ∈ O') → P O') → (items d).length ≤ sizeLine → k ((items d).map B.d) P O) : fIter T b O k := by
  rcases h with rfl | ⟨a, xs, rfl, m, rfl⟩
  · cases d <;> first | exact fun z => k1 _ (fun _ _ => trivial) z | (simp [isSeq] at hs)
  · exact .inr (.inr ⟨xs, m, fun z => k1 _ (fun O' h => h _ m) z⟩)
theorem filterMap_some {α β : Type} (f : α → β) : ∀ xs : List α, xs.filterMap (fun x => some (f x)) = xs.map f
  | [] => rfl
  | x :: xs => by rw [List.filterMap_cons, List.map_cons, filterMap_some f xs]
theorem all_bl {α : Type} (f : α → Bool) (xs : List α) : (xs.map f).all id = xs.all f := by
  rw [List.all_map]; rfl
abbrev ptsN : List Str := ["own_points", "own_slopes", "own_value"]
def wrongL (p s v : D) : Option Str := if ptsR p = false then some "points" else if slpR ((items p).length : Int) s = false then some "slopes" else if isBet v (-VL) VL = false then some "value" else none
def F_Bent___init__ (A : Ad) : FSp := fun T bs O R RX => ∃ (q : Addr) (b c : B) (p s v : D), bs = [.v (.ref q), b, c, .d v] ∧ (q, .ins A.Line [] []) ∈ O ∧ look b O p ∧ isSeq p = true ∧ look c O s ∧ isSeq s = true ∧ (∀ a, b = .v (.ref a) → a ≠ q) ∧ (∀ a, c = .v (.ref a) → a ≠ q) ∧
  R (.d .non) (oset O q (.ins A.Line ptsN [.d (.tup (items p)), .d (.tup (items s)), .d v]))
def F_Line___init__ (A : Ad) : FSp := fun T bs O R RX => ∃ (q : Addr) (b c : B) (p s v : D), bs = [.v (.ref q), b, c, .d v] ∧ (q, .ins A.Line [] []) ∈ O ∧ look b O p ∧ plain p ∧ (∀ x ∈ items p, plain x) ∧ look c O s ∧ plain s ∧ (∀ x ∈ items s, plain x) ∧ plain v ∧ (∀ a, b = .v (.ref a) → a ≠ q) ∧ (∀ a, c = .v (.ref a) → a ≠ q) ∧
  (wrongL p s v = none → R (.d .non) (oset O q (.ins A.Line ptsN [.d (.tup (items p)), .d (.tup (items s)), .d v]))) ∧ (∀ w, wrongL p s v = some w → RX (A.BadLine, ["part"], [.str w]) O)
/-- a line as data -/
def oI : Option Int → D
  | some i => .int i
  | none => .non
def lineD (A : Ad) (ps ss : List D) (v : D) : D := .ins A.Line ptsN [.tup ps, .tup ss, v]
def F_Bent_points (A : Ad) : FSp := fun T bs O R RX => ∃ ps ss v, bs = [.d (lineD A ps ss v)] ∧ R (.d (.tup ps)) O
def F_Bent_slopes (A : Ad) : FSp := fun T bs O R RX => ∃ ps ss v, bs = [.d (lineD A ps ss v)] ∧ R (.d (.tup ss)) O
def F_Bent_value (A : Ad) : FSp := fun T bs O R RX => ∃ ps ss v, bs = [.d (lineD A ps ss v)] ∧ R (.d v) O
/-- either two lines of numbers, or a line and something else -/
def F_Line___eq__ (A : Ad) : FSp := fun T bs O R RX => ∃ (ps : List Int) (ss : List (Option Int)) (v : Int) (o : D), bs = [.d (lineD A (ps.map D.int) (ss.map oI) (.int v)), .d o] ∧
  ((∃ (ps' : List Int) (ss' : List (Option Int)) (v' : Int), o = lineD A (ps'.map D.int) (ss'.map oI) (.int v') ∧ R (.d (.bl (decide (ps = ps' ∧ ss = ss' ∧ v = v')))) O) ∨ (plain o ∧ R (.d (.bl false)) O))
def F__law_begun (A : Ad) : FSp := fun T bs O R RX => ∃ a ns, bs = [.v (.ref a)] ∧ (a, ns) ∈ T.scr ∧ ∀ p c cs, (∀ q ∈ O, q.1 ≠ p) → R (.v (.ref p)) ((p, .draws drk c cs 0) :: O)
/-- the bound of the turns -/
abbrev TL : Nat := 2 ^ 40
def F__law_blended (A : Ad) : FSp := fun T bs O R RX => ∃ p c cs n, bs = [.v (.ref p)] ∧ (p, .draws drk c cs n) ∈ O ∧ n < TL ∧ ∀ i : Int, R (.d (.int i)) (oset O p (.draws drk c cs (n + 1)))
def F__law_draw (A : Ad) : FSp := fun T bs O R RX => ∃ (p c : Addr) (cs : List Int) (n : Nat) (room : Int), bs = [.v (.ref p), .d (.int room)] ∧ (p, .draws drk c cs n) ∈ O ∧ n < TL ∧ 0 < room ∧ room.natAbs.log2 < 9000 ∧ ∀ i : Int, 0 ≤ i → i < room → R (.d (.int i)) (oset O p (.draws drk c cs (n + 1)))
def F__law_pick (A : Ad) : FSp := fun T bs O R RX => ∃ (p c : Addr) (cs : List Int) (n : Nat) (xs : List D), bs = [.v (.ref p), .d (.lst xs)] ∧ (p, .draws drk c cs n) ∈ O ∧ n < TL ∧ xs ≠ [] ∧ xs.length < 1000 ∧ ∀ x ∈ xs, R (.d x) (oset O p (.draws drk c cs (n + 1)))
def F__law_is_truth (A : Ad) : FSp := fun T bs O R RX => ∃ a k, bs = [.d (.bl a), .d (.bl k)] ∧ R (.d (.bl (decide (a = k)))) O
mutual
def dsize : D → Nat
  | .tup xs => dsizes xs + 1
  | .lst xs => dsizes xs + 1
  | _ => 1
def dsizes : List D → Nat
  | [] => 0
  | x :: xs => dsize x + dsizes xs
end
/-- of numbers, None, tuples and lists, not deep -/
def okD : Nat → D → Prop
  | 0, d => d = .non ∨ ∃ i, d = .int i
  | n + 1, d => (d = .non ∨ ∃ i, d = .int i) ∨ ∃ xs, (d = .tup xs ∨ d = .lst xs) ∧ ∀ x ∈ xs, okD n x
def F__law_same (A : Ad) : FSp := fun T bs O R RX => ∃ x, bs = [.d x, .d x] ∧ okD 4 x ∧ dsize x ≤ 1000000 ∧ R (.d (.bl true)) O
def F__law_is_number (A : Ad) : FSp := fun T bs O R RX => ∃ d, bs = [.d d] ∧ plain d ∧ R (.d (.bl (isNum d))) O
def F__law_bl_far (A : Ad) : FSp := fun T bs O R RX => bs = [] ∧ R (.d (.int SZ)) O
def F__law_bl_top (A : Ad) : FSp := fun T bs O R RX => bs = [] ∧ R (.d (.int VL)) O
def F__law_bl_rising (A : Ad) : FSp := fun T bs O R RX => ∃ (p c : Addr) (cs : List Int) (n : Nat) (many : Nat) (reach : Int), bs = [.v (.ref p), .d (.int many), .d (.int reach)] ∧ (p, .draws drk c cs n) ∈ O ∧ n + 2 * many + 1 < TL ∧ many ≤ 200 ∧ 1 ≤ reach ∧ reach ≤ 10 ^ 29 ∧
  ∀ (xs : List Int) (q : Addr), xs.length = many → asc xs = true → (∀ x ∈ xs, -reach ≤ x ∧ x ≤ many * (reach + 1)) → (∀ r ∈ O, r.1 ≠ q) → R (.v (.ref q)) ((q, .lst (xs.map D.int)) :: oset O p (.draws drk c cs (n + 2 * many + 1)))
/-- drawn parts: points, slopes (told), value -/
structure Parts (ps : List Int) (ss : List (Option Int)) (v : Int) : Prop where
  p1 : 1 ≤ ps.length
  p6 : ps.length ≤ 6
  pa : asc ps = true
  pz : ∀ x ∈ ps, -(8 * 10 ^ 29) ≤ x ∧ x ≤ 8 * 10 ^ 29
  sl : ss.length = ps.length + 1
  sm : ∀ (i : Nat), 0 < i → i < ps.length → ss[i]? ≠ some none
  sz : ∀ x, some x ∈ ss → -(8 * 10 ^ 29) ≤ x ∧ x ≤ 8 * 10 ^ 29
  sa : asc (ss.filterMap id) = true
  s1 : 1 ≤ (ss.filterMap id).length
  vz : -(10 ^ 29) ≤ v ∧ v ≤ 10 ^ 29
def partsD (ps : List Int) (ss : List (Option Int)) (v : Int) : D := .tup [.tup (ps.map D.int), .tup (ss.map oI), .int v]
def F__law_bl_parts (A : Ad) : FSp := fun T bs O R RX => ∃ (p c : Addr) (cs : List Int) (n : Nat) (reach : Int), bs = [.v (.ref p), .d (.int 6), .d (.int reach)] ∧ (p, .draws drk c cs n) ∈ O ∧ n + 40 < TL ∧ 1 ≤ reach ∧ reach ≤ 10 ^ 29 ∧
  ∀ ps ss v, Parts ps ss v → R (.d (partsD ps ss v)) (oset O p (.draws drk c cs (n + 40)))
def F__law_bl_is_size (A : Ad) : FSp := fun T bs O R RX => ∃ d, bs = [.d d] ∧ plain d ∧ R (.d (.bl (isSize d))) O
def F__law_bl_rises (A : Ad) : FSp := fun T bs O R RX => ∃ d ns, bs = [.d d] ∧ isSeq d = true ∧ items d = ns.map D.int ∧ R (.d (.bl (asc ns))) O
def wD : Option Str → D
  | some w => .str w
  | none => .non
def F__law_bl_wrong (A : Ad) : FSp := fun T bs O R RX => ∃ p s v, bs = [.d p, .d s, .d v] ∧ plain p ∧ (∀ x ∈ items p, plain x) ∧ plain s ∧ (∀ x ∈ items s, plain x) ∧ plain v ∧ R (.d (wD (wrongL p s v))) O
def F__law_bl_is (A : Ad) : FSp := fun T bs O R RX => ∃ ps ss v, bs = [.d (lineD A (ps.map D.int) (ss.map oI) (.int v)), .d (partsD ps ss v)] ∧ ps.length ≤ 1000 ∧ ss.length ≤ 1000 ∧ R (.d (.bl true)) O
/-- numbers of a line -/
structure VLine (ps : List Int) (ss : List (Option Int)) (v : Int) : Prop where
  p1 : 1 ≤ ps.length
  p6 : ps.length ≤ 200
  pa : asc ps = true
  pz : ∀ x ∈ ps, -SZ ≤ x ∧ x ≤ SZ
  sl : ss.length = ps.length + 1
  sm : ∀ (i : Nat), 0 < i → i < ps.length → ss[i]? ≠ some none
  sz : ∀ x, some x ∈ ss → -SZ ≤ x ∧ x ≤ SZ
  sa : asc (ss.filterMap id) = true
  s1 : 1 ≤ (ss.filterMap id).length
  s2 : (ss.filterMap id).length ≤ 200
  vz : -VL ≤ v ∧ v ≤ VL
def kwB_Line : List B → List B
  | [v, s, p] => [p, s, v]
  | bs => bs
def F__law_taken (A : Ad) : FSp := fun T bs O R RX => ∃ (b : B) (ps : List Int) (ss : List (Option Int)) (v : Int), bs = [b, .d (partsD ps ss v)] ∧ Parts ps ss v ∧ R (.d (.bl true)) O
/-- a triple of plain things -/
def Tri (d : D) : Prop := ∃ p s v, d = .tup [p, s, v] ∧ plain p ∧ (∀ x ∈ items p, plain x) ∧ plain s ∧ (∀ x ∈ items s, plain x) ∧ plain v
def F__law_near (A : Ad) : FSp := fun T bs O R RX => ∃ (p c : Addr) (cs : List Int) (n : Nat) (ps : List Int) (ss : List (Option Int)) (v : Int), bs = [.v (.ref p), .d (partsD ps ss v)] ∧ (p, .draws drk c cs n) ∈ O ∧ n + 2 < TL ∧ Parts ps ss v ∧
  ∀ os : List D, os.length ≤ 1000 → (∀ o ∈ os, Tri o) → R (.d (.lst os)) (oset O p (.draws drk c cs (n + 2)))
def F__law_bounds_right (A : Ad) : FSp := fun T bs O R RX => bs = [] ∧ R (.d (.bl true)) O
def F_law (A : Ad) : FSp := fun T bs O R RX => ∃ a ns, bs = [.v (.ref a)] ∧ (a, ns) ∈ T.scr ∧ R (.d (.bl true)) O
abbrev s0_is_number (A : Ad) (T : Tb) : DTS :=
  (dRet (dAndV (dIsi qInt (dVar 0)) (dNotV (dIsi qBool (dVar 0)))))
def b_is_number (A : Ad) (T : Tb) : DTS := s0_is_number A T
abbrev N_is_number : List Str := ["thing"]
abbrev s0_is_between (A : Ad) (T : Tb) : DTS :=
  (dRet (dAndV (dCall (F_is_number A) T (dCons (dVar 0) dNil)) (dChain fLe fLe (dVar 1) (dVar 0) (dVar 2))))
def b_is_between (A : Ad) (T : Tb) : DTS := s0_is_between A T
abbrev N_is_between : List Str := ["thing", "low", "high"]
abbrev s0_is_list (A : Ad) (T : Tb) : DTS :=
  (dRet (dIsi qListTuple (dVar 0)))
def b_is_list (A : Ad) (T : Tb) : DTS := s0_is_list A T
abbrev N_is_list : List Str := ["thing"]
abbrev s0_ascends (A : Ad) (T : Tb) : DTS :=
  (dRet (dCB gAll (dCons (dLc (dRng1 (dCons (dOp fSub (dCB (gLen T) (dCons (dVar 0) dNil)) (dC (.d (.int 1)))) dNil)) (dName 1) dYes (dOp fLt (dOp fIx (dVar 0) (dVar 1)) (dOp fIx (dVar 0) (dOp fAdd (dVar 1) (dC (.d (.int 1)))))) [1]) dNil)))
def b_ascends (A : Ad) (T : Tb) : DTS := s0_ascends A T
abbrev N_ascends : List Str := ["numbers", "spot"]
abbrev s0_is_size (A : Ad) (T : Tb) : DTS :=
  (dRet (dCall (F_is_between A) T (dCons (dVar 0) (dCons (dUn fNeg (dC (.d (.int 1000000000000000000000000000000)))) (dCons (dC (.d (.int 1000000000000000000000000000000))) dNil)))))
def b_is_size (A : Ad) (T : Tb) : DTS := s0_is_size A T
abbrev N_is_size : List Str := ["thing"]
abbrev s1_points_right (A : Ad) (T : Tb) : DTS :=
  (dRet (dAndV (dCB gAll (dCons (dLc (dIter T (dVar 0)) (dName 1) dYes (dCall (F_is_size A) T (dCons (dVar 1) dNil)) [1]) dNil)) (dCall (F_ascends A) T (dCons (dVar 0) dNil))))
abbrev s0_points_right (A : Ad) (T : Tb) : DTS :=
  (dSeq (dIfS (dOr (dNot (dB (dCall (F_is_list A) T (dCons (dVar 0) dNil)))) (dNot (dB (dChain fLe fLe (dC (.d (.int 1))) (dCB (gLen T) (dCons (dVar 0) dNil)) (dC (.d (.int 200))))))) (dRet (dC (.d (.bl false)))) dNext) (s1_points_right A T))
def b_points_right (A : Ad) (T : Tb) : DTS := s0_points_right A T
abbrev N_points_right : List Str := ["thing", "item"]
abbrev s0_told_slopes (A : Ad) (T : Tb) : DTS :=
  (dRet (dLc (dIter T (dVar 0)) (dName 1) (dB (dOp fIsNot (dVar 1) (dC (.d .non)))) (dVar 1) [1]))
def b_told_slopes (A : Ad) (T : Tb) : DTS := s0_told_slopes A T
abbrev N_told_slopes : List Str := ["slopes", "item"]
abbrev s3_slopes_right (A : Ad) (T : Tb) : DTS :=
  (dRet (dAndV (dChain fLe fLe (dC (.d (.int 1))) (dCB (gLen T) (dCons (dVar 2) dNil)) (dC (.d (.int 200)))) (dCall (F_ascends A) T (dCons (dVar 2) dNil))))
abbrev s2_slopes_right (A : Ad) (T : Tb) : DTS :=
  (dSeq (dSet 2 (dCall (F_told_slopes A) T (dCons (dVar 1) dNil))) (s3_slopes_right A T))
abbrev s1_slopes_right (A : Ad) (T : Tb) : DTS :=
  (dSeq (dIfS (dOr (dNot (dB (dCB gAll (dCons (dLc (dIter T (dSl (dVar 1) (dPart (dC (.d (.int 1)))) (dPart (dUn fNeg (dC (.d (.int 1))))))) (dName 3) dYes (dCall (F_is_size A) T (dCons (dVar 3) dNil)) [3]) dNil)))) (dNot (dB (dCB gAll (dCons (dLc (dIter T (dVar 1)) (dName 3) dYes (dOrV (dOp fIs (dVar 3) (dC (.d .non))) (dCall (F_is_size A) T (dCons (dVar 3) dNil))) [3]) dNil))))) (dRet (dC (.d (.bl false)))) dNext) (s2_slopes_right A T))
abbrev s0_slopes_right (A : Ad) (T : Tb) : DTS :=
  (dSeq (dIfS (dOr (dNot (dB (dCall (F_is_list A) T (dCons (dVar 1) dNil)))) (dB (dOp fNe (dCB (gLen T) (dCons (dVar 1) dNil)) (dOp fAdd (dVar 0) (dC (.d (.int 1))))))) (dRet (dC (.d (.bl false)))) dNext) (s1_slopes_right A T))
def b_slopes_right (A : Ad) (T : Tb) : DTS := s0_slopes_right A T
abbrev N_slopes_right : List Str := ["many", "thing", "told", "item"]
abbrev s2_Bent___init__ (A : Ad) (T : Tb) : DTS :=
  (dStF A.inst "own_value" (dVar 0) (dVar 3))
abbrev s1_Bent___init__ (A : Ad) (T : Tb) : DTS :=
  (dSeq (dStF A.inst "own_slopes" (dVar 0) (dCB gTuple (dCons (dVar 2) dNil))) (s2_Bent___init__ A T))
abbrev s0_Bent___init__ (A : Ad) (T : Tb) : DTS :=
  (dSeq (dStF A.inst "own_points" (dVar 0) (dCB gTuple (dCons (dVar 1) dNil))) (s1_Bent___init__ A T))
def b_Bent___init__ (A : Ad) (T : Tb) : DTS := s0_Bent___init__ A T
abbrev N_Bent___init__ : List Str := ["self", "points", "slopes", "value"]
abbrev s0_Bent_points (A : Ad) (T : Tb) : DTS :=
  (dRet (dFld A.inst "own_points" (dVar 0)))
def b_Bent_points (A : Ad) (T : Tb) : DTS := s0_Bent_points A T
abbrev N_Bent_points : List Str := ["self"]
abbrev s0_Bent_slopes (A : Ad) (T : Tb) : DTS :=
  (dRet (dFld A.inst "own_slopes" (dVar 0)))
def b_Bent_slopes (A : Ad) (T : Tb) : DTS := s0_Bent_slopes A T
abbrev N_Bent_slopes : List Str := ["self"]
abbrev s0_Bent_value (A : Ad) (T : Tb) : DTS :=
  (dRet (dFld A.inst "own_value" (dVar 0)))
def b_Bent_value (A : Ad) (T : Tb) : DTS := s0_Bent_value A T
abbrev N_Bent_value : List Str := ["self"]
abbrev s3_Line___init__ (A : Ad) (T : Tb) : DTS :=
  (dDrop (dCall (F_Bent___init__ A) T (dCons (dVar 0) (dCons (dVar 1) (dCons (dVar 2) (dCons (dVar 3) dNil))))))
abbrev s2_Line___init__ (A : Ad) (T : Tb) : DTS :=
  (dSeq (dIfS (dNot (dB (dCall (F_is_between A) T (dCons (dVar 3) (dCons (dUn fNeg (dC (.d (.int 1000000000000000000000000000000000000000000000000000000000000000000000000000000000000000000000000000000000000000000000000000000000000000000000000000000000000000000000000000000000000000000000000000000000000000000000000000000000000000000000000000000000000000000000000000000000000000000000000000000000000)))) (dCons (dC (.d (.int 1000000000000000000000000000000000000000000000000000000000000000000000000000000000000000000000000000000000000000000000000000000000000000000000000000000000000000000000000000000000000000000000000000000000000000000000000000000000000000000000000000000000000000000000000000000000000000000000000000000000000))) dNil)))))) (dRaise A.BadLine "part" (dC (.d (.str "value")))) dNext) (s3_Line___init__ A T))
abbrev s1_Line___init__ (A : Ad) (T : Tb) : DTS :=
  (dSeq (dIfS (dNot (dB (dCall (F_slopes_right A) T (dCons (dCB (gLen T) (dCons (dVar 1) dNil)) (dCons (dVar 2) dNil))))) (dRaise A.BadLine "part" (dC (.d (.str "slopes")))) dNext) (s2_Line___init__ A T))
abbrev s0_Line___init__ (A : Ad) (T : Tb) : DTS :=
  (dSeq (dIfS (dNot (dB (dCall (F_points_right A) T (dCons (dVar 1) dNil)))) (dRaise A.BadLine "part" (dC (.d (.str "points")))) dNext) (s1_Line___init__ A T))
def b_Line___init__ (A : Ad) (T : Tb) : DTS := s0_Line___init__ A T
abbrev N_Line___init__ : List Str := ["self", "points", "slopes", "value"]
abbrev s1_Line___eq__ (A : Ad) (T : Tb) : DTS :=
  (dRet (dAndV (dOp fEq (dFld A.inst "own_slopes" (dVar 0)) (dFld A.inst "own_slopes" (dVar 1))) (dOp fEq (dFld A.inst "own_value" (dVar 0)) (dFld A.inst "own_value" (dVar 1)))))
abbrev s0_Line___eq__ (A : Ad) (T : Tb) : DTS :=
  (dSeq (dIfS (dOr (dNot (dB (dIsi (qLine A) (dVar 1)))) (dB (dOp fNe (dFld A.inst "own_points" (dVar 0)) (dFld A.inst "own_points" (dVar 1))))) (dRet (dC (.d (.bl false)))) dNext) (s1_Line___eq__ A T))
def b_Line___eq__ (A : Ad) (T : Tb) : DTS := s0_Line___eq__ A T
abbrev N_Line___eq__ : List Str := ["self", "other"]
abbrev s1__law_begun (A : Ad) (T : Tb) : DTS :=
  (dRet (dBegun drk (dVar 1) (dLc (dIter T (dVar 0)) (dName 2) dYes (dCB gAbs (dCons (dVar 2) dNil)) [2])))
abbrev s0__law_begun (A : Ad) (T : Tb) : DTS :=
  (dSeq (dSet 1 (dLc (dIter T (dVar 0)) (dName 2) (dB (dOp fGe (dCB gAbs (dCons (dVar 2) dNil)) (dOp fPow (dC (.d (.int 10))) (dC (.d (.int 18)))))) (dOp fSub (dCB gAbs (dCons (dVar 2) dNil)) (dOp fPow (dC (.d (.int 10))) (dC (.d (.int 18))))) [2])) (s1__law_begun A T))
def b__law_begun (A : Ad) (T : Tb) : DTS := s0__law_begun A T
abbrev N__law_begun : List Str := ["script", "great", "cell"]
abbrev s3__law_blended (A : Ad) (T : Tb) : DTS :=
  (dRet (dVar 2))
abbrev s2__law_blended (A : Ad) (T : Tb) : DTS :=
  (dSeq (dFor (dIter T (dLst (dCons (dC (.d (.int 2147483579))) (dCons (dC (.d (.int 2147483629))) (dCons (dC (.d (.int 2147483563))) dNil))))) (dName 3) (dSeq (dSet 4 (dOp fAdd (dOp fMul (dC (.d (.int 48271))) (dVar 1)) (dOp fDiv (dVar 3) (dC (.d (.int 53))))))
  (dSeq (dFor (dCells drk (dVar 0)) (dName 5) (dSet 4 (dOp fMod (dCB gInt (dCons (dOp fAdd (dOp fAdd (dOp fMul (dVar 4) (dC (.d (.int 69621)))) (dVar 5)) (dVar 1)) dNil)) (dVar 3))))
  (dSet 2 (dOp fAdd (dOp fMul (dVar 2) (dC (.d (.int 2147483647)))) (dOp fMod (dCB gInt (dCons (dOp fPow (dVar 4) (dC (.d (.int 5)))) dNil)) (dVar 3))))))) (s3__law_blended A T))
abbrev s1__law_blended (A : Ad) (T : Tb) : DTS :=
  (dSeq (dDpT drk (dVar 0) (dVar 1)) (s2__law_blended A T))
abbrev s0__law_blended (A : Ad) (T : Tb) : DTS :=
  (dSeq (dPar 1 2 (dCons (dOp fAdd (dDgT drk (dVar 0)) (dC (.d (.int 1)))) (dCons (dC (.d (.int 0))) dNil))) (s1__law_blended A T))
def b__law_blended (A : Ad) (T : Tb) : DTS := s0__law_blended A T
abbrev N__law_blended : List Str := ["state", "turn", "found", "prime", "blend", "cell"]
abbrev s3__law_draw (A : Ad) (T : Tb) : DTS :=
  (dRet (dVar 2))
abbrev s2__law_draw (A : Ad) (T : Tb) : DTS :=
  (dSeq (dDpR drk (dVar 0) (dOp fDiv (dDgR drk (dVar 0)) (dVar 1))) (s3__law_draw A T))
abbrev s1__law_draw (A : Ad) (T : Tb) : DTS :=
  (dSeq (dSet 2 (dOp fMod (dCB gInt (dCons (dDgR drk (dVar 0)) dNil)) (dVar 1))) (s2__law_draw A T))
abbrev s0__law_draw (A : Ad) (T : Tb) : DTS :=
  (dSeq (dIfS (dB (dOp fEq (dDgR drk (dVar 0)) (dC (.d (.int 0))))) (dDpR drk (dVar 0) (dGpop 0 drk (dCall (F__law_blended A) T (dCons (dVar 0) dNil)))) dNext) (s1__law_draw A T))
def b__law_draw (A : Ad) (T : Tb) : DTS := s0__law_draw A T
abbrev N__law_draw : List Str := ["state", "room", "found"]
abbrev s0__law_pick (A : Ad) (T : Tb) : DTS :=
  (dRet (dOp fIx (dVar 1) (dCall (F__law_draw A) T (dCons (dVar 0) (dCons (dCB (gLen T) (dCons (dVar 1) dNil)) dNil)))))
def b__law_pick (A : Ad) (T : Tb) : DTS := s0__law_pick A T
abbrev N__law_pick : List Str := ["state", "some"]
abbrev s0__law_is_truth (A : Ad) (T : Tb) : DTS :=
  (dRet (dIf (dB (dVar 1)) (dOp fIs (dVar 0) (dC (.d (.bl true)))) (dOp fIs (dVar 0) (dC (.d (.bl false))))))
def b__law_is_truth (A : Ad) (T : Tb) : DTS := s0__law_is_truth A T
abbrev N__law_is_truth : List Str := ["found", "due"]
abbrev s2__law_same (A : Ad) (T : Tb) : DTS :=
  (dRet (dC (.d (.bl true))))
abbrev s1__law_same (A : Ad) (T : Tb) : DTS :=
  (dSeq (dWhile (dB (dOp fNe (dVar 2) (dLst dNil))) (dSeq (dAsg (dBM0 gPop (dVar 2)) (dgTup 2 (dgCons (dName 3) (dgCons (dName 4) dgNil))))
  (dIfS (dOr (dB (dOp fIs (dVar 4) (dC (.d .non)))) (dB (dIsi qBool (dVar 4)))) (dIfS (dIfT (dB (dOp fIs (dVar 4) (dC (.d .non)))) (dB (dOp fIsNot (dVar 3) (dC (.d .non)))) (dNot (dB (dCall (F__law_is_truth A) T (dCons (dVar 3) (dCons (dVar 4) dNil)))))) (dRet (dC (.d (.bl false)))) dNext) (dIfS (dB (dIsi qIntStr (dVar 4))) (dIfS (dOr (dB (dIsi qBool (dVar 3))) (dOr (dB (dOp fNe (dIsi qInt (dVar 3)) (dIsi qInt (dVar 4)))) (dB (dOp fNe (dVar 3) (dVar 4))))) (dRet (dC (.d (.bl false)))) dNext) (dIfS (dB (dIsi qDict (dVar 4))) dNever (dSeq (dSet 5 (dLst (dCons (dAndV (dIsi qTuple (dVar 3)) (dIsi qTuple (dVar 4))) (dCons (dAndV (dIsi qList (dVar 3)) (dIsi qList (dVar 4))) dNil))))
  (dSeq (dIfS (dOr (dB (dOp (fIn true) (dC (.d (.bl true))) (dVar 5))) (dB (dOp fNe (dCB (gLen T) (dCons (dVar 3) dNil)) (dCB (gLen T) (dCons (dVar 4) dNil))))) (dRet (dC (.d (.bl false)))) dNext)
  (dDrop (dBM gExtend (dVar 2) (dCons (dLc (dZip (dCons (dVar 3) (dCons (dVar 4) dNil))) (dgTup 2 (dgCons (dName 7) (dgCons (dName 8) dgNil))) dYes (dTup (dCons (dVar 7) (dCons (dVar 8) dNil))) [7, 8]) dNil)))))))))) (s2__law_same A T))
abbrev s0__law_same (A : Ad) (T : Tb) : DTS :=
  (dSeq (dSet 2 (dLstO (dCons (dTup (dCons (dVar 0) (dCons (dVar 1) dNil))) dNil))) (s1__law_same A T))
def b__law_same (A : Ad) (T : Tb) : DTS := s0__law_same A T
abbrev N__law_same : List Str := ["found", "due", "waiting", "one", "other", "same_kinds", "key", "left", "right"]
abbrev s0__law_is_number (A : Ad) (T : Tb) : DTS :=
  (dRet (dAndV (dIsi qInt (dVar 0)) (dNotV (dIsi qBool (dVar 0)))))
def b__law_is_number (A : Ad) (T : Tb) : DTS := s0__law_is_number A T
abbrev N__law_is_number : List Str := ["value"]
abbrev s0__law_bl_far (A : Ad) (T : Tb) : DTS :=
  (dRet (dOp fMul (dOp fPow (dC (.d (.int 10))) (dC (.d (.int 15)))) (dOp fPow (dC (.d (.int 10))) (dC (.d (.int 15))))))
def b__law_bl_far (A : Ad) (T : Tb) : DTS := s0__law_bl_far A T
abbrev N__law_bl_far : List Str := []
abbrev s2__law_bl_top (A : Ad) (T : Tb) : DTS :=
  (dRet (dVar 0))
abbrev s1__law_bl_top (A : Ad) (T : Tb) : DTS :=
  (dSeq (dFor (dRng1 (dCons (dC (.d (.int 10))) dNil)) (dName 1) (dSet 0 (dOp fMul (dVar 0) (dCall (F__law_bl_far A) T dNil)))) (s2__law_bl_top A T))
abbrev s0__law_bl_top (A : Ad) (T : Tb) : DTS :=
  (dSeq (dSet 0 (dC (.d (.int 1)))) (s1__law_bl_top A T))
def b__law_bl_top (A : Ad) (T : Tb) : DTS := s0__law_bl_top A T
abbrev N__law_bl_top : List Str := ["found", "lap"]
abbrev s2__law_bl_rising (A : Ad) (T : Tb) : DTS :=
  (dRet (dVar 3))
abbrev s1__law_bl_rising (A : Ad) (T : Tb) : DTS :=
  (dSeq (dFor (dRng1 (dCons (dVar 1) dNil)) (dName 5) (dSeq (dDrop (dBM gAppend (dVar 3) (dCons (dVar 4) dNil)))
  (dSet 4 (dOp fAdd (dOp fAdd (dVar 4) (dC (.d (.int 1)))) (dCall (F__law_draw A) T (dCons (dVar 0) (dCons (dCall (F__law_pick A) T (dCons (dVar 0) (dCons (dLst (dCons (dC (.d (.int 1))) (dCons (dC (.d (.int 2))) (dCons (dOp fAdd (dVar 2) (dC (.d (.int 1)))) dNil)))) dNil))) dNil))))))) (s2__law_bl_rising A T))
abbrev s0__law_bl_rising (A : Ad) (T : Tb) : DTS :=
  (dSeq (dPar 3 4 (dCons (dLstO dNil) (dCons (dUn fNeg (dCall (F__law_draw A) T (dCons (dVar 0) (dCons (dOp fAdd (dVar 2) (dC (.d (.int 1)))) dNil)))) dNil))) (s1__law_bl_rising A T))
def b__law_bl_rising (A : Ad) (T : Tb) : DTS := s0__law_bl_rising A T
abbrev N__law_bl_rising : List Str := ["draws", "many", "reach", "found", "here", "lap"]
abbrev s5__law_bl_parts (A : Ad) (T : Tb) : DTS :=
  (dRet (dTup (dCons (dCB gTuple (dCons (dCall (F__law_bl_rising A) T (dCons (dVar 0) (dCons (dVar 3) (dCons (dVar 2) dNil)))) dNil)) (dCons (dCB gTuple (dCons (dVar 4) dNil)) (dCons (dOp fSub (dCall (F__law_draw A) T (dCons (dVar 0) (dCons (dOp fAdd (dOp fMul (dC (.d (.int 2))) (dVar 2)) (dC (.d (.int 1)))) dNil))) (dVar 2)) dNil)))))
abbrev s4__law_bl_parts (A : Ad) (T : Tb) : DTS :=
  (dSeq (dIfS (dB (dVar 6)) (dStore (dVar 4) (dUn fNeg (dC (.d (.int 1)))) (dC (.d .non))) dNext) (s5__law_bl_parts A T))
abbrev s3__law_bl_parts (A : Ad) (T : Tb) : DTS :=
  (dSeq (dIfS (dAnd (dB (dVar 5)) (dOr (dB (dOp fGt (dVar 3) (dC (.d (.int 1))))) (dNot (dB (dVar 6))))) (dStore (dVar 4) (dC (.d (.int 0))) (dC (.d .non))) dNext) (s4__law_bl_parts A T))
abbrev s2__law_bl_parts (A : Ad) (T : Tb) : DTS :=
  (dSeq (dPar 5 6 (dCons (dOp fEq (dCall (F__law_draw A) T (dCons (dVar 0) (dCons (dC (.d (.int 3))) dNil))) (dC (.d (.int 0)))) (dCons (dOp fEq (dCall (F__law_draw A) T (dCons (dVar 0) (dCons (dC (.d (.int 3))) dNil))) (dC (.d (.int 0)))) dNil))) (s3__law_bl_parts A T))
abbrev s1__law_bl_parts (A : Ad) (T : Tb) : DTS :=
  (dSeq (dSet 4 (dCall (F__law_bl_rising A) T (dCons (dVar 0) (dCons (dOp fAdd (dVar 3) (dC (.d (.int 1)))) (dCons (dVar 2) dNil))))) (s2__law_bl_parts A T))
abbrev s0__law_bl_parts (A : Ad) (T : Tb) : DTS :=
  (dSeq (dSet 3 (dOp fAdd (dC (.d (.int 1))) (dCall (F__law_draw A) T (dCons (dVar 0) (dCons (dVar 1) dNil))))) (s1__law_bl_parts A T))
def b__law_bl_parts (A : Ad) (T : Tb) : DTS := s0__law_bl_parts A T
abbrev N__law_bl_parts : List Str := ["draws", "most", "reach", "many", "slopes", "first", "last"]
abbrev s0__law_bl_is_size (A : Ad) (T : Tb) : DTS :=
  (dRet (dAndV (dCall (F__law_is_number A) T (dCons (dVar 0) dNil)) (dChain fLe fLe (dUn fNeg (dCall (F__law_bl_far A) T dNil)) (dVar 0) (dCall (F__law_bl_far A) T dNil))))
def b__law_bl_is_size (A : Ad) (T : Tb) : DTS := s0__law_bl_is_size A T
abbrev N__law_bl_is_size : List Str := ["value"]
abbrev s0__law_bl_rises (A : Ad) (T : Tb) : DTS :=
  (dRet (dOp fEq (dLc (dZip (dCons (dVar 0) (dCons (dSl (dVar 0) (dPart (dC (.d (.int 1)))) dNoPart) dNil))) (dgTup 2 (dgCons (dName 1) (dgCons (dName 2) dgNil))) (dB (dOp fGe (dVar 1) (dVar 2))) (dC (.d (.int 1))) [1, 2]) (dLst dNil)))
def b__law_bl_rises (A : Ad) (T : Tb) : DTS := s0__law_bl_rises A T
abbrev N__law_bl_rises : List Str := ["values", "one", "other"]
abbrev s5__law_bl_wrong (A : Ad) (T : Tb) : DTS :=
  (dRet (dIf (dAnd (dB (dCall (F__law_is_number A) T (dCons (dVar 2) dNil))) (dB (dChain fLe fLe (dUn fNeg (dCall (F__law_bl_top A) T dNil)) (dVar 2) (dCall (F__law_bl_top A) T dNil)))) (dC (.d .non)) (dC (.d (.str "value")))))
abbrev s4__law_bl_wrong (A : Ad) (T : Tb) : DTS :=
  (dSeq (dIfS (dOr (dNot (dB (dChain fLe fLe (dC (.d (.int 1))) (dCB (gLen T) (dCons (dVar 5) dNil)) (dC (.d (.int 200)))))) (dNot (dB (dCall (F__law_bl_rises A) T (dCons (dVar 5) dNil))))) (dRet (dC (.d (.str "slopes")))) dNext) (s5__law_bl_wrong A T))
abbrev s3__law_bl_wrong (A : Ad) (T : Tb) : DTS :=
  (dSeq (dSet 5 (dLc (dIter T (dVar 1)) (dName 4) (dB (dOp fIsNot (dVar 4) (dC (.d .non)))) (dVar 4) [4])) (s4__law_bl_wrong A T))
abbrev s2__law_bl_wrong (A : Ad) (T : Tb) : DTS :=
  (dSeq (dFor (dEnum (dVar 1)) (dgTup 2 (dgCons (dName 3) (dgCons (dName 4) dgNil))) (dIfS (dAnd (dNot (dB (dCall (F__law_bl_is_size A) T (dCons (dVar 4) dNil)))) (dOr (dB (dOp fIsNot (dVar 4) (dC (.d .non)))) (dB (dChain fLt fLt (dC (.d (.int 0))) (dVar 3) (dCB (gLen T) (dCons (dVar 0) dNil)))))) (dRet (dC (.d (.str "slopes")))) dNext)) (s3__law_bl_wrong A T))
abbrev s1__law_bl_wrong (A : Ad) (T : Tb) : DTS :=
  (dSeq (dIfS (dOr (dNot (dB (dIsi qListTuple (dVar 1)))) (dB (dOp fNe (dCB (gLen T) (dCons (dVar 1) dNil)) (dOp fAdd (dCB (gLen T) (dCons (dVar 0) dNil)) (dC (.d (.int 1))))))) (dRet (dC (.d (.str "slopes")))) dNext) (s2__law_bl_wrong A T))
abbrev s0__law_bl_wrong (A : Ad) (T : Tb) : DTS :=
  (dSeq (dIfS (dOr (dNot (dB (dIsi qListTuple (dVar 0)))) (dOr (dNot (dB (dChain fLe fLe (dC (.d (.int 1))) (dCB (gLen T) (dCons (dVar 0) dNil)) (dC (.d (.int 200)))))) (dOr (dB (dOp fNe (dLc (dIter T (dVar 0)) (dName 4) (dNot (dB (dCall (F__law_bl_is_size A) T (dCons (dVar 4) dNil)))) (dC (.d (.int 1))) [4]) (dLst dNil))) (dNot (dB (dCall (F__law_bl_rises A) T (dCons (dVar 0) dNil))))))) (dRet (dC (.d (.str "points")))) dNext) (s1__law_bl_wrong A T))
def b__law_bl_wrong (A : Ad) (T : Tb) : DTS := s0__law_bl_wrong A T
abbrev N__law_bl_wrong : List Str := ["points", "slopes", "value", "at", "item", "told"]
abbrev s0__law_bl_is (A : Ad) (T : Tb) : DTS :=
  (dRet (dCall (F__law_same A) T (dCons (dTup (dCons (dUn (prpG A.inst (F_Bent_points A) T) (dVar 0)) (dCons (dUn (prpG A.inst (F_Bent_slopes A) T) (dVar 0)) (dCons (dUn (prpG A.inst (F_Bent_value A) T) (dVar 0)) dNil)))) (dCons (dVar 1) dNil))))
def b__law_bl_is (A : Ad) (T : Tb) : DTS := s0__law_bl_is A T
abbrev N__law_bl_is : List Str := ["line", "parts"]
abbrev s9__law_taken (A : Ad) (T : Tb) : DTS :=
  (dRet (dOp fEq (dLc (dIter T (dVar 8)) (dName 9) (dB (dOp fIsNot (dOp (fun x y O R => fEq x y O R ∨ eqOwnG A.Line (qLine A) (F_Line___eq__ A) T x y O R) (dVar 7) (dMake A.Line (F_Line___init__ A) T (dCons (dOp fIx (dVar 9) (dC (.d (.int 0)))) (dCons (dOp fIx (dVar 9) (dC (.d (.int 1)))) (dCons (dOp fIx (dVar 9) (dC (.d (.int 2)))) dNil))))) (dC (.d (.bl false))))) (dC (.d (.int 1))) [9]) (dLst dNil)))
abbrev s8__law_taken (A : Ad) (T : Tb) : DTS :=
  (dSeq (dIfS (dAnd (dB (dOp fIsNot (dOp fIx (dVar 3) (dUn fNeg (dC (.d (.int 1))))) (dC (.d .non)))) (dB (dOp fIsNot (dOp fIx (dVar 3) (dC (.d (.int 0)))) (dC (.d .non))))) (dSet 8 (dOp fAdd (dVar 8) (dLst (dCons (dTup (dCons (dVar 2) (dCons (dOp fAdd (dSl (dVar 3) dNoPart (dPart (dUn fNeg (dC (.d (.int 1)))))) (dTup (dCons (dC (.d .non)) dNil))) (dCons (dVar 4) dNil)))) (dCons (dTup (dCons (dVar 2) (dCons (dOp fAdd (dTup (dCons (dC (.d .non)) dNil)) (dSl (dVar 3) (dPart (dC (.d (.int 1)))) dNoPart)) (dCons (dVar 4) dNil)))) dNil))))) dNext) (s9__law_taken A T))
abbrev s7__law_taken (A : Ad) (T : Tb) : DTS :=
  (dSeq (dIfS (dB (dOp fLt (dOp fIx (dVar 2) (dUn fNeg (dC (.d (.int 1))))) (dCall (F__law_bl_far A) T dNil))) (dDrop (dBM gAppend (dVar 8) (dCons (dTup (dCons (dOp fAdd (dSl (dVar 2) dNoPart (dPart (dUn fNeg (dC (.d (.int 1)))))) (dTup (dCons (dOp fAdd (dOp fIx (dVar 2) (dUn fNeg (dC (.d (.int 1))))) (dC (.d (.int 1)))) dNil))) (dCons (dVar 3) (dCons (dVar 4) dNil)))) dNil))) dNext) (s8__law_taken A T))
abbrev s6__law_taken (A : Ad) (T : Tb) : DTS :=
  (dSeq (dSet 8 (dLstO (dCons (dTup (dCons (dVar 2) (dCons (dVar 3) (dCons (dIf (dB (dOp fLt (dVar 4) (dC (.d (.int 0))))) (dOp fAdd (dVar 4) (dC (.d (.int 1)))) (dOp fSub (dVar 4) (dC (.d (.int 1))))) dNil)))) dNil))) (s7__law_taken A T))
abbrev s5__law_taken (A : Ad) (T : Tb) : DTS :=
  (dSeq (dIfS (dOr (dNot (dB (dCall (F__law_bl_is A) T (dCons (dVar 7) (dCons (dVar 1) dNil))))) (dOr (dB (dOp fIsNot (dOp (fun x y O R => fEq x y O R ∨ eqOwnG A.Line (qLine A) (F_Line___eq__ A) T x y O R) (dVar 7) (dMakeK A.Line (F_Line___init__ A) T kwB_Line 3 (dCons (dVar 4) (dCons (dVar 3) (dCons (dVar 2) dNil))))) (dC (.d (.bl true))))) (dB (dOp fIsNot (dOp (fun x y O R => fEq x y O R ∨ eqOwnG A.Line (qLine A) (F_Line___eq__ A) T x y O R) (dVar 7) (dVar 1)) (dC (.d (.bl false))))))) (dRet (dC (.d (.bl false)))) dNext) (s6__law_taken A T))
abbrev s4__law_taken (A : Ad) (T : Tb) : DTS :=
  (dSeq (dStore (dVar 6) (dC (.d (.int 0))) (dC (.d (.int 77)))) (s5__law_taken A T))
abbrev s3__law_taken (A : Ad) (T : Tb) : DTS :=
  (dSeq (dDrop (dBM gAppend (dVar 5) (dCons (dC (.d (.int 5))) dNil))) (s4__law_taken A T))
abbrev s2__law_taken (A : Ad) (T : Tb) : DTS :=
  (dSeq (dSet 7 (dMake A.Line (F_Line___init__ A) T (dCons (dVar 5) (dCons (dVar 6) (dCons (dVar 4) dNil))))) (s3__law_taken A T))
abbrev s1__law_taken (A : Ad) (T : Tb) : DTS :=
  (dSeq (dPar 5 6 (dCons (dCB gListO (dCons (dVar 2) dNil)) (dCons (dCB gListO (dCons (dVar 3) dNil)) dNil))) (s2__law_taken A T))
abbrev s0__law_taken (A : Ad) (T : Tb) : DTS :=
  (dSeq (dAsg (dVar 1) (dgTup 3 (dgCons (dName 2) (dgCons (dName 3) (dgCons (dName 4) dgNil))))) (s1__law_taken A T))
def b__law_taken (A : Ad) (T : Tb) : DTS := s0__law_taken A T
abbrev N__law_taken : List Str := ["draws", "parts", "points", "slopes", "value", "given", "more", "one", "others", "other"]
abbrev s9__law_near (A : Ad) (T : Tb) : DTS :=
  (dRet (dOp fAdd (dVar 9) (dLst (dCons (dTup (dCons (dC (.d (.int 5))) (dCons (dC (.d .non)) (dCons (dC (.d .non)) dNil)))) (dCons (dTup (dCons dEmp (dCons (dVar 3) (dCons (dVar 4) dNil)))) (dCons (dTup (dCons (dVar 2) (dCons dEmp (dCons (dVar 4) dNil)))) (dCons (dTup (dCons (dC (.d (.str "ab"))) (dCons (dVar 3) (dCons (dVar 4) dNil)))) dNil)))))))
abbrev s8__law_near (A : Ad) (T : Tb) : DTS :=
  (dSeq (dSet 9 (dOp fAdd (dVar 9) (dLst (dCons (dTup (dCons (dRevT (dVar 2)) (dCons (dVar 3) (dCons (dVar 4) dNil)))) (dCons (dTup (dCons (dVar 2) (dCons (dRevT (dVar 3)) (dCons (dVar 4) dNil)))) (dCons (dTup (dCons (dVar 2) (dCons (dOp fMul (dTup (dCons (dC (.d .non)) dNil)) (dCB (gLen T) (dCons (dVar 3) dNil))) (dCons (dVar 4) dNil)))) dNil)))))) (s9__law_near A T))
abbrev s7__law_near (A : Ad) (T : Tb) : DTS :=
  (dSeq (dFor (dIter T (dLst (dCons (dVar 8) (dCons (dOp fAdd (dVar 8) (dC (.d (.int 1)))) (dCons (dUn fNeg (dVar 8)) (dCons (dOp fSub (dUn fNeg (dVar 8)) (dC (.d (.int 1)))) (dCons (dC (.d (.int 0))) dNil))))))) (dName 10) (dDrop (dBM gAppend (dVar 9) (dCons (dTup (dCons (dVar 2) (dCons (dVar 3) (dCons (dVar 10) dNil)))) dNil)))) (s8__law_near A T))
abbrev s6__law_near (A : Ad) (T : Tb) : DTS :=
  (dSeq (dFor (dIter T (dLst (dCons (dC (.d .non)) (dCons (dC (.d (.bl false))) (dCons (dC (.d (.str "1"))) (dCons (dLst (dCons (dC (.d (.int 1))) dNil)) (dCons (dVar 7) (dCons (dOp fAdd (dVar 7) (dC (.d (.int 1)))) (dCons (dUn fNeg (dVar 7)) (dCons (dOp fSub (dUn fNeg (dVar 7)) (dC (.d (.int 1)))) (dCons (dC (.d (.int 0))) dNil))))))))))) (dName 10) (dDrop (dBM gAppend (dVar 9) (dCons (dTup (dCons (dVar 2) (dCons (dOp fAdd (dOp fAdd (dSl (dVar 3) dNoPart (dPart (dVar 6))) (dTup (dCons (dVar 10) dNil))) (dSl (dVar 3) (dPart (dOp fAdd (dVar 6) (dC (.d (.int 1))))) dNoPart)) (dCons (dVar 4) dNil)))) dNil)))) (s7__law_near A T))
abbrev s5__law_near (A : Ad) (T : Tb) : DTS :=
  (dSeq (dFor (dIter T (dLst (dCons (dC (.d .non)) (dCons (dC (.d (.bl true))) (dCons (dC (.d (.str "1"))) (dCons (dTup (dCons (dC (.d (.int 1))) dNil)) (dCons (dVar 7) (dCons (dOp fAdd (dVar 7) (dC (.d (.int 1)))) (dCons (dUn fNeg (dVar 7)) (dCons (dOp fSub (dUn fNeg (dVar 7)) (dC (.d (.int 1)))) (dCons (dOp fIx (dVar 2) (dC (.d (.int 0)))) (dCons (dOp fSub (dOp fIx (dVar 2) (dVar 5)) (dC (.d (.int 1)))) (dCons (dOp fIx (dVar 2) (dUn fNeg (dC (.d (.int 1))))) dNil))))))))))))) (dName 10) (dDrop (dBM gAppend (dVar 9) (dCons (dTup (dCons (dOp fAdd (dOp fAdd (dSl (dVar 2) dNoPart (dPart (dVar 5))) (dTup (dCons (dVar 10) dNil))) (dSl (dVar 2) (dPart (dOp fAdd (dVar 5) (dC (.d (.int 1))))) dNoPart)) (dCons (dVar 3) (dCons (dVar 4) dNil)))) dNil)))) (s6__law_near A T))
abbrev s4__law_near (A : Ad) (T : Tb) : DTS :=
  (dSeq (dSet 9 (dOp fAdd (dVar 9) (dLst (dCons (dTup (dCons (dVar 2) (dCons (dVar 3) (dCons (dC (.d .non)) dNil)))) (dCons (dTup (dCons (dVar 2) (dCons (dVar 3) (dCons (dC (.d (.bl true))) dNil)))) (dCons (dTup (dCons (dVar 2) (dCons (dVar 3) (dCons (dC (.d (.str "0"))) dNil)))) dNil)))))) (s5__law_near A T))
abbrev s3__law_near (A : Ad) (T : Tb) : DTS :=
  (dSeq (dSet 9 (dLstO (dCons (dTup (dCons (dC (.d .non)) (dCons (dVar 3) (dCons (dVar 4) dNil)))) (dCons (dTup (dCons (dTup dNil) (dCons (dSl (dVar 3) dNoPart (dPart (dC (.d (.int 1))))) (dCons (dVar 4) dNil)))) (dCons (dTup (dCons (dVar 2) (dCons (dC (.d .non)) (dCons (dVar 4) dNil)))) (dCons (dTup (dCons (dVar 2) (dCons (dSl (dVar 3) (dPart (dC (.d (.int 1)))) dNoPart) (dCons (dVar 4) dNil)))) (dCons (dTup (dCons (dVar 2) (dCons (dOp fAdd (dVar 3) (dTup (dCons (dOp fIx (dVar 3) (dUn fNeg (dC (.d (.int 1))))) dNil))) (dCons (dVar 4) dNil)))) dNil))))))) (s4__law_near A T))
abbrev s2__law_near (A : Ad) (T : Tb) : DTS :=
  (dSeq (dPar 7 8 (dCons (dCall (F__law_bl_far A) T dNil) (dCons (dCall (F__law_bl_top A) T dNil) dNil))) (s3__law_near A T))
abbrev s1__law_near (A : Ad) (T : Tb) : DTS :=
  (dSeq (dPar 5 6 (dCons (dCall (F__law_draw A) T (dCons (dVar 0) (dCons (dCB (gLen T) (dCons (dVar 2) dNil)) dNil))) (dCons (dCall (F__law_draw A) T (dCons (dVar 0) (dCons (dCB (gLen T) (dCons (dVar 3) dNil)) dNil))) dNil))) (s2__law_near A T))
abbrev s0__law_near (A : Ad) (T : Tb) : DTS :=
  (dSeq (dAsg (dVar 1) (dgTup 3 (dgCons (dName 2) (dgCons (dName 3) (dgCons (dName 4) dgNil))))) (s1__law_near A T))
def b__law_near (A : Ad) (T : Tb) : DTS := s0__law_near A T
abbrev N__law_near : List Str := ["draws", "parts", "points", "slopes", "value", "at", "spot", "far_off", "top", "found", "item"]
abbrev s2__law_bounds_right (A : Ad) (T : Tb) : DTS :=
  (dRet (dOp fEq (dCB (gLen T) (dCons (dVar 0) dNil)) (dC (.d (.int 200)))))
abbrev s1__law_bounds_right (A : Ad) (T : Tb) : DTS :=
  (dSeq (dFor (dIter T (dLst (dCons (dTup (dCons (dC (.d (.int 200))) (dCons (dC (.d .non)) (dCons (dC (.d .non)) (dCons (dC (.d (.bl true))) dNil))))) (dCons (dTup (dCons (dC (.d (.int 200))) (dCons (dC (.d .non)) (dCons (dC (.d (.int 0))) (dCons (dC (.d (.bl true))) dNil))))) (dCons (dTup (dCons (dC (.d (.int 200))) (dCons (dC (.d (.int 0))) (dCons (dC (.d (.int 0))) (dCons (dC (.d (.bl false))) dNil))))) (dCons (dTup (dCons (dC (.d (.int 201))) (dCons (dC (.d .non)) (dCons (dC (.d .non)) (dCons (dC (.d (.bl false))) dNil))))) (dCons (dTup (dCons (dC (.d (.int 199))) (dCons (dC (.d (.int 0))) (dCons (dC (.d (.int 0))) (dCons (dC (.d (.bl true))) dNil))))) dNil))))))) (dgTup 4 (dgCons (dName 1) (dgCons (dName 2) (dgCons (dName 3) (dgCons (dName 4) dgNil))))) (dSeq (dSet 5 (dOp fAdd (dOp fAdd (dLst (dCons (dIf (dB (dOp fIs (dVar 2) (dC (.d .non)))) (dC (.d .non)) (dUn fNeg (dC (.d (.int 1))))) dNil)) (dListRg1 false (dOp fSub (dVar 1) (dC (.d (.int 1)))))) (dLst (dCons (dIf (dB (dOp fIs (dVar 3) (dC (.d .non)))) (dC (.d .non)) (dVar 1)) dNil))))
  (dSeq (dSet 6 (dCaught A.errs (dMake A.Line (F_Line___init__ A) T (dCons (dListRg1 false (dVar 1)) (dCons (dVar 5) (dCons (dC (.d (.int 0))) dNil))))))
  (dIfS (dOr (dB (dOp fNe (dOp fIs (dVar 6) (dC (.d .non))) (dVar 4))) (dAnd (dB (dOp fIsNot (dVar 6) (dC (.d .non)))) (dOr (dNot (dB (dIsi (qBadLine A) (dVar 6)))) (dB (dOp fNe (dUn (xfG A.errs "part") (dVar 6)) (dIf (dB (dOp fGt (dVar 1) (dC (.d (.int 200))))) (dC (.d (.str "points"))) (dC (.d (.str "slopes"))))))))) (dRet (dC (.d (.bl false)))) dNext)))) (s2__law_bounds_right A T))
abbrev s0__law_bounds_right (A : Ad) (T : Tb) : DTS :=
  (dSeq (dSet 0 (dListRg1 false (dC (.d (.int 200))))) (s1__law_bounds_right A T))
def b__law_bounds_right (A : Ad) (T : Tb) : DTS := s0__law_bounds_right A T
abbrev N__law_bounds_right : List Str := ["points", "many", "first", "last", "due", "slopes", "caught"]
abbrev s2_law (A : Ad) (T : Tb) : DTS :=
  (dRet (dAndV (dCall (F__law_bounds_right A) T dNil) (dAndV (dOp fIs (dOp (fun x y O R => fEq x y O R ∨ eqOwnG A.Line (qLine A) (F_Line___eq__ A) T x y O R) (dMake A.Line (F_Line___init__ A) T (dCons (dLst (dCons (dC (.d (.int 0))) dNil)) (dCons (dLst (dCons (dC (.d .non)) (dCons (dC (.d (.int 1))) dNil))) (dCons (dC (.d (.int 0))) dNil)))) (dMake A.Line (F_Line___init__ A) T (dCons (dTup (dCons (dC (.d (.int 0))) dNil)) (dCons (dTup (dCons (dC (.d .non)) (dCons (dC (.d (.int 1))) dNil))) (dCons (dC (.d (.int 0))) dNil))))) (dC (.d (.bl true)))) (dOp fIs (dOp (fun x y O R => fEq x y O R ∨ eqOwnG A.Line (qLine A) (F_Line___eq__ A) T x y O R) (dMake A.Line (F_Line___init__ A) T (dCons (dLst (dCons (dC (.d (.int 0))) dNil)) (dCons (dLst (dCons (dC (.d .non)) (dCons (dC (.d (.int 1))) dNil))) (dCons (dC (.d (.int 0))) dNil)))) (dMake A.Line (F_Line___init__ A) T (dCons (dLst (dCons (dC (.d (.int 0))) dNil)) (dCons (dLst (dCons (dC (.d (.int 1))) (dCons (dC (.d .non)) dNil))) (dCons (dC (.d (.int 0))) dNil))))) (dC (.d (.bl false)))))))
abbrev s1_law (A : Ad) (T : Tb) : DTS :=
  (dSeq (dFor (dRng1 (dCons (dOp fAdd (dC (.d (.int 4))) (dCB gMin (dCons (dCB (gLen T) (dCons (dVar 0) dNil)) (dCons (dC (.d (.int 8))) dNil)))) dNil)) (dName 2) (dSeq (dSet 3 (dCall (F__law_bl_parts A) T (dCons (dVar 1) (dCons (dC (.d (.int 6))) (dCons (dCall (F__law_pick A) T (dCons (dVar 1) (dCons (dLst (dCons (dC (.d (.int 1))) (dCons (dC (.d (.int 3))) (dCons (dC (.d (.int 10))) (dCons (dOp fPow (dC (.d (.int 10))) (dC (.d (.int 12)))) (dCons (dOp fPow (dC (.d (.int 10))) (dC (.d (.int 29)))) dNil)))))) dNil))) dNil)))))
  (dSeq (dIfS (dNot (dB (dCall (F__law_taken A) T (dCons (dVar 1) (dCons (dVar 3) dNil))))) (dRet (dC (.d (.bl false)))) dNext)
  (dFor (dIter T (dCall (F__law_near A) T (dCons (dVar 1) (dCons (dVar 3) dNil)))) (dgTup 3 (dgCons (dName 4) (dgCons (dName 5) (dgCons (dName 6) dgNil)))) (dSeq (dSet 7 (dCall (F__law_bl_wrong A) T (dCons (dVar 4) (dCons (dVar 5) (dCons (dVar 6) dNil)))))
  (dSeq (dSet 8 (dCaught A.errs (dMake A.Line (F_Line___init__ A) T (dCons (dVar 4) (dCons (dVar 5) (dCons (dVar 6) dNil))))))
  (dIfS (dOr (dAnd (dB (dOp fIs (dVar 7) (dC (.d .non)))) (dB (dOp fIsNot (dVar 8) (dC (.d .non))))) (dAnd (dB (dOp fIsNot (dVar 7) (dC (.d .non)))) (dOr (dNot (dB (dIsi (qBadLine A) (dVar 8)))) (dB (dOp fNe (dUn (xfG A.errs "part") (dVar 8)) (dVar 7)))))) (dRet (dC (.d (.bl false)))) dNext))))))) (s2_law A T))
abbrev s0_law (A : Ad) (T : Tb) : DTS :=
  (dSeq (dSet 1 (dCall (F__law_begun A) T (dCons (dVar 0) dNil))) (s1_law A T))
def b_law (A : Ad) (T : Tb) : DTS := s0_law A T
abbrev N_law : List Str := ["script", "draws", "turn", "parts", "points", "slopes", "value", "due", "caught"]
theorem iteP_intro {k : Bool} {A B : Prop} (h1 : k = true → A) (h2 : k = false → B) : iteP k A B := ⟨h1, h2⟩
theorem iteT {A B : Prop} (h : A) : iteP true A B := ⟨fun _ => h, fun c => Bool.noConfusion c⟩
theorem iteF {A B : Prop} (h : B) : iteP false A B := ⟨fun c => Bool.noConfusion c, fun _ => h⟩
theorem sp_is_number {A : Ad} : ∀ T bs O R RX, F_is_number A T bs O R RX → b_is_number A T (ends0 R RX) (startR N_is_number bs) O := by
  rintro T bs O R RX ⟨d, rfl, hp, h⟩
  cases d <;> first | exact hp.elim | (simp [b_is_number, s0_is_number, dSeq, dRet, dIfS, dAndV, dOrV, dNotV, dAnd, dOr, dNot, dB, dVar, dC, dCons, dNil, dOp, dUn, dCall, dCB, dSet, dNext, startR, ends0, iteP_true, iteP_false, List.map_cons, List.map_nil, List.length_cons, List.length_nil, dIsi, kB, kd, qInt, qBool, isNum] at h ⊢; exact fin_same h)
theorem chain_le {lo hi i : Int} {O : Ow} {R : DK} {α β γ : DTE} {ρ : Ro} {RX : DX} (ha : ∀ K, K (.d (.int lo)) O → α ρ O K RX) (hb : ∀ K, K (.d (.int i)) O → β ρ O K RX) (hc : ∀ K, K (.d (.int hi)) O → γ ρ O K RX)
    (h : R (.d (.bl (decide (lo ≤ i) && decide (i ≤ hi)))) O) : dChain fLe fLe α β γ ρ O R RX := by
  refine ha _ (hb _ ⟨_, rfl, fun c => hc _ ?_, fun c => ?_⟩)
  · rw [c, Bool.true_and] at h; exact h
  · rw [c, Bool.false_and] at h; exact h
theorem sp_is_between {A : Ad} : ∀ T bs O R RX, F_is_between A T bs O R RX → b_is_between A T (ends0 R RX) (startR N_is_between bs) O := by
  rintro T bs O R RX ⟨d, lo, hi, rfl, hp, h⟩
  refine ⟨_, rfl, d, rfl, hp, _, rfl, fun c => ?_, fun c => ?_⟩
  · cases d <;> first | exact Bool.noConfusion c | skip
    exact chain_le (fun K k => ⟨_, rfl, k⟩) (fun K k => ⟨_, rfl, k⟩) (fun K k => ⟨_, rfl, k⟩) (fin_same h)
  · cases d <;> first | exact hp.elim | exact Bool.noConfusion c | exact fin_same h
theorem sp_is_list {A : Ad} : ∀ T bs O R RX, F_is_list A T bs O R RX → b_is_list A T (ends0 R RX) (startR N_is_list bs) O := by
  rintro T bs O R RX ⟨b, d, rfl, hl, hp, h⟩
  rcases hl with rfl | ⟨a, xs, rfl, m, rfl⟩
  · refine ⟨_, rfl, kd d, isSeq d, .inl ⟨d, rfl, rfl⟩, ?_, fin_same h⟩
    cases d <;> first | exact hp.elim | rfl
  · exact ⟨_, rfl, .lst, true, .inr ⟨a, xs, rfl, m, rfl⟩, rfl, fin_same h⟩
theorem sp_is_size {A : Ad} : ∀ T bs O R RX, F_is_size A T bs O R RX → b_is_size A T (ends0 R RX) (startR N_is_size bs) O := by
  rintro T bs O R RX ⟨d, rfl, hp, h⟩
  exact ⟨_, rfl, d, _, _, rfl, hp, fin_same h⟩
theorem at_int {ns : List Int} {j : Nat} (h : j < ns.length) : atI (ns.map D.int) ((j : Nat) : Int) = some (D.int (ns.getD j 0)) := by
  refine atI_nat ?_
  rw [List.getElem?_map, List.getElem?_eq_getElem h, List.getD_eq_getElem?_getD, List.getElem?_eq_getElem h]
  rfl
theorem asc_all (ns : List Int) : (((rangeB 0 (ns.length - 1)).filterMap fun b => match b with | .d (.int i) => some (D.bl (decide (ns.getD i.toNat 0 < ns.getD (i.toNat + 1) 0))) | _ => none) : List D) = ((List.range (ns.length - 1)).map fun i => decide (ns.getD i 0 < ns.getD (i + 1) 0)).map D.bl := by
  unfold rangeB
  rw [List.filterMap_map, List.map_map]
  rw [← filterMap_some]
  congr 1
  funext i
  simp
theorem sp_ascends {A : Ad} : ∀ T bs O R RX, F_ascends A T bs O R RX → b_ascends A T (ends0 R RX) (startR N_ascends bs) O := by
  rintro T bs O R RX ⟨b, d, ns, rfl, hl, hs, hi, h⟩
  have hp := look_seq hl hs
  rw [hi] at hp
  refine ⟨b, rfl, look_len hl hs fun z => ⟨((items d).length : Int) - 1, rfl, ?_, ?_, fun Dl hD => ?_⟩⟩
  · rw [sizeLine_eq] at z; omega
  · rw [sizeLine_eq] at z; omega
  have zl : (items d).length = ns.length := by rw [hi, List.length_map]
  rw [zl] at z ⊢
  have et : ((ns.length : Int) - 1).toNat = ns.length - 1 := by omega
  rw [et]
  refine lc_pure (f := fun b => match b with | .d (.int i) => some (D.bl (decide (ns.getD i.toNat 0 < ns.getD (i.toNat + 1) 0))) | _ => none) hD (fun _ _ => trivial) (fun x hx O' K hO hK => ?_) (by rw [rangeB_len]; simp only [List.length_nil]; omega) ?_
  · obtain ⟨j, hj⟩ := List.mem_iff_getElem?.mp hx
    obtain ⟨hjn, rfl⟩ := rangeB_get hj
    have hp' : peekS b O' (ns.map D.int) := by
      rcases hl with rfl | ⟨a, xs, rfl, m, rfl⟩
      · cases d <;> first | exact hp | (simp [isSeq] at hs)
      · have : xs = ns.map D.int := hi
        subst this
        exact hO _ m
    have g1 : atI (ns.map D.int) (0 + (j : Int)) = some (D.int (ns.getD j 0)) := by
      rw [Int.zero_add]; exact at_int (by omega)
    have g2 : atI (ns.map D.int) (0 + (j : Int) + 1) = some (D.int (ns.getD (j + 1) 0)) := by
      rw [Int.zero_add]; exact at_int (j := j + 1) (by omega)
    refine iteT ?_
    refine ⟨_, rfl, _, rfl, _, _, hp', g1, _, rfl, _, rfl, _, _, hp', g2, ?_⟩
    refine ⟨_, rfl, ?_⟩
    simp at hK
    exact hK
  · rw [List.nil_append, asc_all]
    refine ⟨_, rfl, ?_⟩
    rw [all_bl]
    rw [asc_places] at h
    exact fin_same h

/-- all([f(item) for item in thing]) -/
theorem fin_all {T : Tb} {b : B} {O : Ow} {xs : List D} {P : Ow → Prop} {Dl : Addr} {step : B → Ow → (Option D → Ow → Prop) → Prop} {R : DK} {f : D → Bool} (hD : ∀ q ∈ O, q.1 ≠ Dl) (hP : ∀ O', (∀ q ∈ O, q ∈ O') → P O')
    (hs : ∀ x ∈ xs, ∀ (O' : Ow) (K : Option D → Ow → Prop), (∀ q ∈ O, q ∈ O') → K (some (.bl (f x))) O' → step (.d x) O' K) (hz : xs.length ≤ sizeLine) (h : R (.d (.lst ((xs.map f).map D.bl))) O) : lcGo step P Dl (xs.map B.d) [] ((Dl, .lst []) :: O) R := by
  refine lc_pure (f := fun b => match b with | .d x => some (.bl (f x)) | _ => none) hD hP (fun x hx O' K hO hK => ?_) (by rw [List.length_map]; simpa using hz) ?_
  · obtain ⟨y, hy, rfl⟩ := List.mem_map.mp hx
    exact hs y hy O' K hO hK
  · rw [List.nil_append, List.filterMap_map]
    have e : ((fun b => match b with | .d x => some (D.bl (f x)) | _ => none) ∘ B.d) = fun x => some (D.bl (f x)) := rfl
    rw [List.map_map] at h
    rw [e, filterMap_some]
    exact h
theorem size_num {xs : List D} (h : xs.all isSize = true) : xs = (nums xs).map D.int := by
  induction xs with
  | nil => rfl
  | cons x xs ih =>
    rw [List.all_cons, Bool.and_eq_true] at h
    cases x <;> first | (exact absurd h.1 (by decide)) | (exact Bool.noConfusion h.1) | skip
    show _ = D.int _ :: (nums xs).map D.int
    rw [← ih h.2]
theorem look_up {b : B} {O O' : Ow} {d : D} (h : look b O d) (hO : ∀ q ∈ O, q ∈ O') : look b O' d := by
  rcases h with h | ⟨a, xs, h1, h2, h3⟩
  · exact .inl h
  · exact .inr ⟨a, xs, h1, hO _ h2, h3⟩
theorem sp_points_right {A : Ad} : ∀ T bs O R RX, F_points_right A T bs O R RX → b_points_right A T (ends0 R RX) (startR N_points_right bs) O := by
  rintro T bs O R RX ⟨b, d, rfl, hl, hp, hi, h⟩
  refine ⟨b, rfl, b, d, rfl, hl, hp, _, rfl, ?_⟩
  cases hs : isSeq d with
  | false =>
    refine iteT (iteT ?_)
    unfold ptsR at h
    rw [hs] at h
    exact fin_same h
  | true =>
    refine iteF ?_
    refine chain_le (lo := 1) (hi := 200) (fun K k => k) (fun K k => ⟨b, rfl, look_len hl hs fun _ => k⟩) (fun K k => k) ⟨_, rfl, ?_⟩
    unfold ptsR at h
    rw [hs, Bool.true_and] at h
    have e1 : (decide ((1 : Int) ≤ ((items d).length : Int)) && decide (((items d).length : Int) ≤ 200)) = (decide (1 ≤ (items d).length) && decide ((items d).length ≤ 200)) := by
      congr 1 <;> (apply decide_eq_decide.mpr; omega)
    rw [e1]
    cases hb : (decide (1 ≤ (items d).length) && decide ((items d).length ≤ 200)) with
    | false =>
      rw [hb, Bool.false_and, Bool.false_and] at h
      exact iteT (fin_same h)
    | true =>
      rw [hb, Bool.true_and] at h
      refine iteF ?_
      refine ⟨b, rfl, look_iter hl hs fun P hP z Dl hD => ?_⟩
      refine fin_all (T := T) (b := b) (f := isSize) hD hP (fun x hx O' K hO hK => ?_) z ?_
      · exact iteT ⟨_, rfl, x, rfl, hi x hx, _, rfl, hK⟩
      · refine ⟨_, rfl, _, rfl, ?_⟩
        rw [all_bl]
        cases ha : (items d).all isSize with
        | false =>
          rw [ha, Bool.false_and] at h
          exact iteF (fin_same h)
        | true =>
          rw [ha, Bool.true_and] at h
          exact iteT ⟨b, rfl, b, d, nums (items d), rfl, hl, hs, size_num ha, fin_same h⟩
theorem sp_told_slopes {A : Ad} : ∀ T bs O R RX, F_told_slopes A T bs O R RX → b_told_slopes A T (ends0 R RX) (startR N_told_slopes bs) O := by
  rintro T bs O R RX ⟨b, d, rfl, hl, hs, h⟩
  refine ⟨b, rfl, look_iter hl hs fun P hP z Dl hD => ?_⟩
  refine lc_pure (f := fun b => match b with | .d x => if notNone x = true then some x else none | _ => none) hD hP (fun x hx O' K hO hK => ?_) (by rw [List.length_map]; simpa using z) ?_
  · obtain ⟨y, hy, rfl⟩ := List.mem_map.mp hx
    refine ⟨_, rfl, _, rfl, ?_⟩
    cases y <;> first | exact iteF hK | exact iteT ⟨_, rfl, _, rfl, hK⟩
  · rw [List.nil_append, List.filterMap_map]
    have e : ((fun b => match b with | .d x => if notNone x = true then some x else none | _ => none) ∘ B.d) = fun x => if notNone x = true then some x else none := rfl
    rw [e]
    have e2 : ∀ xs : List D, xs.filterMap (fun x => if notNone x = true then some x else none) = xs.filter notNone := by
      intro xs
      induction xs with
      | nil => rfl
      | cons x xs ih =>
        rw [List.filterMap_cons, List.filter_cons]
        by_cases c : notNone x = true
        · rw [if_pos c, if_pos c]; exact congrArg _ ih
        · rw [if_neg c, if_neg c]; exact ih
    rw [e2]
    exact fin_same h

theorem isNone_d (x : D) : isNone (.d x) = isNonD x := by cases x <;> rfl
theorem sl_mid {b : B} {O : Ow} {d : D} {R : DK} (h : look b O d) (hs : isSeq d = true) (h1 : R (.d (.tup (mid (items d)))) O) (h2 : R (.d (.lst (mid (items d)))) O) : fSl b (some 1) (some (-1)) O R := by
  rcases h with rfl | ⟨a, xs, rfl, m, rfl⟩
  · cases d <;> first | exact h1 | exact ⟨_, rfl, h2⟩ | (simp [isSeq] at hs)
  · exact ⟨xs, m, h2⟩
theorem sizes_nn {xs : List D} (h : xs.all (fun x => isNonD x || isSize x) = true) : (xs.filter notNone).all isSize = true := by
  rw [List.all_eq_true] at h ⊢
  intro x hx
  obtain ⟨h1, h2⟩ := List.mem_filter.mp hx
  have z := h x h1
  cases x <;> first | exact z | (simp [notNone] at h2)
theorem sp_slopes_right {A : Ad} : ∀ T bs O R RX, F_slopes_right A T bs O R RX → b_slopes_right A T (ends0 R RX) (startR N_slopes_right bs) O := by
  rintro T bs O R RX ⟨many, b, d, rfl, hl, hp, hi, h⟩
  unfold slpR at h
  refine ⟨b, rfl, b, d, rfl, hl, hp, _, rfl, ?_⟩
  cases hs : isSeq d with
  | false =>
    rw [hs] at h
    exact iteT (iteT (fin_same h))
  | true =>
    rw [hs, Bool.true_and] at h
    refine iteF ⟨b, rfl, look_len hl hs fun z => ⟨_, rfl, .inl ⟨_, _, _, rfl, rfl, rfl, ?_⟩⟩⟩
    refine ⟨_, rfl, ?_⟩
    cases hc : decide (((items d).length : Int) = many + 1) with
    | false =>
      rw [hc, Bool.false_and] at h
      exact iteT (fin_same h)
    | true =>
      rw [hc, Bool.true_and] at h
      refine iteF ?_
      have hz : (mid (items d)).length ≤ sizeLine := Nat.le_trans (cutD_len _ _ _) z
      have hm : ∀ x ∈ mid (items d), plain x := fun x hx => hi x (List.mem_of_mem_drop (List.mem_of_mem_take hx))
      have first_ : ∀ (k : List D → D), (k = D.tup ∨ k = D.lst) → ∀ (R' : Bool → Ow → Prop), R' ((mid (items d)).all isSize) O → fIter T (.d (k (mid (items d)))) O (fun xs P O1 => ∀ Dl, (∀ q ∈ O1, q.1 ≠ Dl) → lcGo (lcStep (dName 3) dYes (dCall (F_is_size A) T (dCons (dVar 3) dNil)) (wipeR (startR N_slopes_right [B.d (.int many), b]) [3])) P Dl xs [] ((Dl, .lst []) :: O1)
          (fun x O2 => gAll [x] O2 fun y O3 => ∃ k, y = .d (.bl k) ∧ R' k O3)) := fun k hk R' hR => by
        have key : ∀ Dl, (∀ q ∈ O, q.1 ≠ Dl) → lcGo (lcStep (dName 3) dYes (dCall (F_is_size A) T (dCons (dVar 3) dNil)) (wipeR (startR N_slopes_right [B.d (.int many), b]) [3])) yesP Dl ((mid (items d)).map B.d) [] ((Dl, .lst []) :: O)
          (fun x O2 => gAll [x] O2 fun y O3 => ∃ k, y = .d (.bl k) ∧ R' k O3) := fun Dl hD => by
          refine fin_all (T := T) (b := b) (f := isSize) hD (fun _ _ => trivial) (fun x hx O' K hO hK => iteT ⟨_, rfl, x, rfl, hm x hx, _, rfl, hK⟩) hz ⟨_, rfl, _, rfl, ?_⟩
          rw [all_bl]; exact hR
        rcases hk with rfl | rfl
        · exact fun _ => key
        · exact fun _ => key
      have cond1 : ∀ (R' : Bool → Ow → Prop), R' ((mid (items d)).all isSize) O → (dB (dCB gAll (dCons (dLc (dIter T (dSl (dVar 1) (dPart (dC (.d (.int 1)))) (dPart (dUn fNeg (dC (.d (.int 1))))))) (dName 3) dYes (dCall (F_is_size A) T (dCons (dVar 3) dNil)) [3]) dNil))) (startR N_slopes_right [B.d (.int many), b]) O R' (xat (ends0 R RX) (startR N_slopes_right [B.d (.int many), b])) := fun R' hR => by
        refine ⟨b, rfl, 1, rfl, -1, rfl, ?_⟩
        exact sl_mid hl hs (first_ _ (.inl rfl) R' hR) (first_ _ (.inr rfl) R' hR)
      refine cond1 _ ?_
      cases h1 : (mid (items d)).all isSize with
      | false =>
        rw [h1, Bool.false_and] at h
        exact iteT (iteT (fin_same h))
      | true =>
        rw [h1, Bool.true_and] at h
        refine iteF ⟨b, rfl, look_iter hl hs fun P hP z Dl hD => ?_⟩
        refine fin_all (T := T) (b := b) (f := fun x => isNonD x || isSize x) hD hP (fun x hx O' K hO hK => ?_) z ?_
        · refine iteT ⟨_, rfl, ?_⟩
          refine ⟨_, rfl, ?_⟩
          rw [isNone_d]
          cases hx0 : isNonD x with
          | true =>
            rw [hx0, Bool.true_or] at hK
            exact iteT ⟨_, rfl, hK⟩
          | false =>
            rw [hx0, Bool.false_or] at hK
            exact iteF ⟨_, rfl, x, rfl, hi x hx, _, rfl, hK⟩
        · refine ⟨_, rfl, _, rfl, ?_⟩
          rw [all_bl]
          cases h2 : (items d).all (fun x => isNonD x || isSize x) with
          | false =>
            rw [h2, Bool.false_and] at h
            exact iteT (fin_same h)
          | true =>
            rw [h2, Bool.true_and] at h
            refine iteF ⟨b, rfl, b, d, rfl, hl, hs, ?_⟩
            show dChain fLe fLe (dC (.d (.int 1))) (dCB (gLen T) (dCons (dVar 2) dNil)) (dC (.d (.int 200))) _ _ _ _
            refine chain_le (lo := 1) (hi := 200) (fun K k => k) (fun K k => ⟨_, rfl, fun _ => k⟩) (fun K k => k) ⟨_, rfl, ?_⟩
            have e1 : (decide ((1 : Int) ≤ (((items d).filter notNone).length : Int)) && decide ((((items d).filter notNone).length : Int) ≤ 200)) = (decide (1 ≤ ((items d).filter notNone).length) && decide (((items d).filter notNone).length ≤ 200)) := by
              congr 1 <;> (apply decide_eq_decide.mpr; omega)
            rw [e1]
            cases hb : (decide (1 ≤ ((items d).filter notNone).length) && decide (((items d).filter notNone).length ≤ 200)) with
            | false =>
              rw [hb, Bool.false_and] at h
              exact iteF (fin_same h)
            | true =>
              rw [hb, Bool.true_and] at h
              exact iteT ⟨_, rfl, _, .lst ((items d).filter notNone), nums ((items d).filter notNone), rfl, .inl rfl, rfl, size_num (sizes_nn h2), fin_same h⟩
theorem oset_oset (O : Ow) (a : Addr) (o o' : OD) : oset (oset O a o) a o' = oset O a o' := by
  unfold oset
  rw [List.map_map]
  refine List.map_congr_left fun p _ => ?_
  show (if (if p.1 = a then (a, o) else p).1 = a then (a, o') else if p.1 = a then (a, o) else p) = _
  by_cases h : p.1 = a
  · rw [if_pos h, if_pos rfl, if_pos h]
  · rw [if_neg h, if_neg h]
theorem look_oset {b : B} {O : Ow} {d : D} {a : Addr} {o' : OD} (h : look b O d) (hn : ∀ c, b = .v (.ref c) → c ≠ a) : look b (oset O a o') d := by
  rcases h with h | ⟨c, xs, h1, h2, h3⟩
  · exact .inl h
  · exact .inr ⟨c, xs, h1, oset_other h2 (hn c h1), h3⟩
theorem tup_look {b : B} {O : Ow} {d : D} {R : DK} (h : look b O d) (hs : isSeq d = true) (k : R (.d (.tup (items d))) O) : gTuple [b] O R := ⟨_, look_seq h hs, k⟩
theorem sp_Bent___init__ {A : Ad} : ∀ T bs O R RX, F_Bent___init__ A T bs O R RX → b_Bent___init__ A T (ends0 R RX) (startR N_Bent___init__ bs) O := by
  rintro T bs O R RX ⟨q, b, c, p, s, v, rfl, m, hl, hs, hl2, hs2, hb, hc, h⟩
  refine ⟨b, rfl, tup_look hl hs ⟨_, rfl, q, A.Line, [], [], rfl, m, List.mem_cons_self .., by simp, by decide, ?_⟩⟩
  refine ⟨c, rfl, tup_look (look_oset hl2 hc) hs2 ⟨_, rfl, q, A.Line, ["own_points"], [.d (.tup (items p))], rfl, oset_self m, List.mem_cons_self .., by decide, by decide, ?_⟩⟩
  refine ⟨_, rfl, _, rfl, q, A.Line, ["own_points", "own_slopes"], [.d (.tup (items p)), .d (.tup (items s))], rfl, oset_self (oset_self m), List.mem_cons_self .., by decide, by decide, ?_⟩
  refine ⟨_, List.Sublist.refl _, ?_⟩
  rw [oset_oset, oset_oset]
  exact h
theorem sp_Bent_points {A : Ad} : ∀ T bs O R RX, F_Bent_points A T bs O R RX → b_Bent_points A T (ends0 R RX) (startR N_Bent_points bs) O := by
  rintro T bs O R RX ⟨ps, ss, v, rfl, h⟩
  exact ⟨_, rfl, .inl ⟨_, _, _, _, rfl, List.mem_cons_self .., rfl, fin_same h⟩⟩
theorem sp_Bent_slopes {A : Ad} : ∀ T bs O R RX, F_Bent_slopes A T bs O R RX → b_Bent_slopes A T (ends0 R RX) (startR N_Bent_slopes bs) O := by
  rintro T bs O R RX ⟨ps, ss, v, rfl, h⟩
  exact ⟨_, rfl, .inl ⟨_, _, _, _, rfl, List.mem_cons_self .., rfl, fin_same h⟩⟩
theorem sp_Bent_value {A : Ad} : ∀ T bs O R RX, F_Bent_value A T bs O R RX → b_Bent_value A T (ends0 R RX) (startR N_Bent_value bs) O := by
  rintro T bs O R RX ⟨ps, ss, v, rfl, h⟩
  exact ⟨_, rfl, .inl ⟨_, _, _, _, rfl, List.mem_cons_self .., rfl, fin_same h⟩⟩
theorem frz_one {x : D} {O : Ow} {k : List D → Ow → Prop} (h : k [x] O) : frzK [.d x] O k := h
theorem sp_Line___init__ {A : Ad} : ∀ T bs O R RX, F_Line___init__ A T bs O R RX → b_Line___init__ A T (ends0 R RX) (startR N_Line___init__ bs) O := by
  rintro T bs O R RX ⟨q, b, c, p, s, v, rfl, m, hl, hp, hi, hl2, hp2, hi2, hv, hb, hc, h1, h2⟩
  refine ⟨b, rfl, b, p, rfl, hl, hp, hi, _, rfl, ?_⟩
  cases e1 : ptsR p with
  | false =>
    refine iteT (frz_one ⟨_, rfl, ?_⟩)
    exact h2 "points" (by unfold wrongL; rw [if_pos e1])
  | true =>
    have hs : isSeq p = true := by
      unfold ptsR at e1
      simp only [Bool.and_eq_true] at e1
      exact e1.1.1.1.1
    refine iteF ⟨b, rfl, look_len hl hs fun _ => ⟨c, rfl, _, c, s, rfl, hl2, hp2, hi2, _, rfl, ?_⟩⟩
    have e1' : ¬ (ptsR p = false) := by rw [e1]; decide
    cases e2 : slpR ((items p).length : Int) s with
    | false =>
      refine iteT (frz_one ⟨_, rfl, ?_⟩)
      exact h2 "slopes" (by unfold wrongL; rw [if_neg e1', if_pos e2])
    | true =>
      have e2' : ¬ (slpR ((items p).length : Int) s = false) := by rw [e2]; decide
      have hs2 : isSeq s = true := by
        unfold slpR at e2
        simp only [Bool.and_eq_true] at e2
        exact e2.1.1.1.1.1.1
      refine iteF ⟨_, rfl, v, _, _, rfl, hv, _, rfl, ?_⟩
      cases e3 : isBet v (-VL) VL with
      | false =>
        refine iteT (frz_one ⟨_, rfl, ?_⟩)
        exact h2 "value" (by unfold wrongL; rw [if_neg e1', if_neg e2', if_pos e3])
      | true =>
        have e3' : ¬ (isBet v (-VL) VL = false) := by rw [e3]; decide
        refine iteF ⟨_, rfl, b, rfl, c, rfl, _, rfl, q, b, c, p, s, v, rfl, m, hl, hs, hl2, hs2, hb, hc, ?_⟩
        refine ⟨_, List.Sublist.refl _, ?_⟩
        exact h1 (by unfold wrongL; rw [if_neg e1', if_neg e2', if_neg e3'])
theorem dpys_int : ∀ ns : List Int, dpys (ns.map D.int) = some (ns.map PyData.int)
  | [] => rfl
  | n :: ns => by simp only [List.map_cons, dpys, dpy, dpys_int ns]; rfl
def oP : Option Int → PyData
  | some i => .int i
  | none => .none
theorem dpys_oI : ∀ ns : List (Option Int), dpys (ns.map oI) = some (ns.map oP)
  | [] => rfl
  | n :: ns => by cases n <;> (simp only [List.map_cons, dpys, oI, dpy, dpys_oI ns]; rfl)

theorem eqv_ints : ∀ a b : List Int, PyData.eqvAll (a.map PyData.int) (b.map PyData.int) = decide (a = b)
  | [], [] => rfl
  | [], _ :: _ => rfl
  | _ :: _, [] => rfl
  | x :: a, y :: b => by
    simp only [List.map_cons, PyData.eqvAll, PyData.eqv, eqv_ints a b, List.cons.injEq]
    by_cases h : x = y <;> simp [h]
theorem eqv_oP : ∀ a b : List (Option Int), PyData.eqvAll (a.map oP) (b.map oP) = decide (a = b)
  | [], [] => rfl
  | [], _ :: _ => rfl
  | _ :: _, [] => rfl
  | x :: a, y :: b => by
    have e := eqv_oP a b
    cases x <;> cases y <;> simp [List.map_cons, PyData.eqvAll, PyData.eqv, oP, e]
    rename_i u v
    by_cases h : u = v <;> simp [h]
theorem shaped_int (ns : List Int) : SeqAt.shaped (.tuple (ns.map PyData.int)) = true := by
  have h : ∀ l : List Int, PyData.canLayAll0 (l.map PyData.int) = true ∧ PyData.depthAll (l.map PyData.int) = 0 := by
    intro l
    induction l with
    | nil => exact ⟨rfl, rfl⟩
    | cons n l ih => exact ⟨by simp [PyData.canLayAll0, PyData.canLay0, ih.1], by simp [PyData.depthAll, PyData.depth, ih.2]⟩
  unfold SeqAt.shaped
  simp [PyData.canLay0, PyData.depth, h ns]
theorem shaped_oP (ns : List (Option Int)) : SeqAt.shaped (.tuple (ns.map oP)) = true := by
  have h : ∀ l : List (Option Int), PyData.canLayAll0 (l.map oP) = true ∧ PyData.depthAll (l.map oP) = 0 := by
    intro l
    induction l with
    | nil => exact ⟨rfl, rfl⟩
    | cons n l ih => cases n <;> exact ⟨by simp [PyData.canLayAll0, PyData.canLay0, oP, ih.1], by simp [PyData.depthAll, PyData.depth, oP, ih.2]⟩
  unfold SeqAt.shaped
  simp [PyData.canLay0, PyData.depth, h ns]
theorem sp_Line___eq__ {A : Ad} : ∀ T bs O R RX, F_Line___eq__ A T bs O R RX → b_Line___eq__ A T (ends0 R RX) (startR N_Line___eq__ bs) O := by
  rintro T bs O R RX ⟨ps, ss, v, o, rfl, ⟨ps', ss', v', rfl, h⟩ | ⟨hp, h⟩⟩
  · refine ⟨_, rfl, .ins A.Line, true, .inl ⟨_, rfl, rfl⟩, if_pos rfl, _, rfl, iteF ?_⟩
    refine ⟨_, rfl, .inl ⟨_, _, _, _, rfl, List.mem_cons_self .., rfl, _, rfl, .inl ⟨_, _, _, _, rfl, List.mem_cons_self .., rfl, ?_⟩⟩⟩
    refine .inr ⟨_, _, by simp only [pyB, dpy, dpys_int]; rfl, by simp only [pyB, dpy, dpys_int]; rfl, shaped_int _, shaped_int _, ?_⟩
    simp only [PyData.eqv, eqv_ints]
    refine ⟨_, rfl, ?_⟩
    by_cases e1 : ps = ps'
    · subst e1
      simp only [decide_true, Bool.not_true, if_true]
      refine iteF ?_
      refine ⟨_, rfl, .inl ⟨_, _, _, _, rfl, List.mem_cons_self .., rfl, _, rfl, .inl ⟨_, _, _, _, rfl, List.mem_cons_self .., rfl, ?_⟩⟩⟩
      refine .inr ⟨_, _, by simp only [pyB, dpy, dpys_oI]; rfl, by simp only [pyB, dpy, dpys_oI]; rfl, shaped_oP _, shaped_oP _, ?_⟩
      simp only [PyData.eqv, eqv_oP]
      refine ⟨_, rfl, ?_⟩
      by_cases e2 : ss = ss'
      · subst e2
        simp only [decide_true, Bool.false_eq_true, if_false]
        refine iteT ?_
        refine ⟨_, rfl, .inl ⟨_, _, _, _, rfl, List.mem_cons_self .., rfl, _, rfl, .inl ⟨_, _, _, _, rfl, List.mem_cons_self .., rfl, ?_⟩⟩⟩
        refine .inl ⟨_, _, _, rfl, rfl, rfl, fin_same ?_⟩
        simpa using h
      · simp only [e2, decide_false, Bool.false_eq_true, if_false]
        refine iteF (fin_same ?_)
        simpa [e2] using h
    · simp only [e1, decide_false, Bool.not_false, if_true]
      refine iteT (fin_same ?_)
      simpa [e1] using h
  · refine ⟨_, rfl, kd o, false, .inl ⟨_, rfl, rfl⟩, ?_, _, rfl, iteT (iteT (fin_same h))⟩
    cases o <;> first | exact hp.elim | rfl

/-! ### draws -/
theorem lc_own {step : B → Ow → (Option D → Ow → Prop) → Prop} {f : B → Option D} {P : Ow → Prop} {Dl : Addr} {O : Ow} {R : DK} (hD : ∀ q ∈ O, q.1 ≠ Dl) (hP : ∀ O', (∀ q ∈ O, q ∈ O') → P O') : ∀ {xs : List B} {acc : List D},
    (∀ x ∈ xs, ∀ (O' : Ow) (K : Option D → Ow → Prop), (∀ q ∈ O, q ∈ O') → K (f x) O' → step x O' K) → acc.length + xs.length ≤ sizeLine → R (.v (.ref Dl)) ((Dl, .lst (acc ++ xs.filterMap f)) :: O) → lcGo step P Dl xs acc ((Dl, .lst acc) :: O) R
  | [], acc, _, _, h => ⟨hP _ fun q hq => List.mem_cons_of_mem _ hq, List.mem_cons_self .., .inr (by simpa using h)⟩
  | x :: xs, acc, hs, hl, h => by
    refine ⟨hP _ fun q hq => List.mem_cons_of_mem _ hq, ?_⟩
    refine hs x (List.mem_cons_self ..) _ _ (fun q hq => List.mem_cons_of_mem _ hq) ?_
    cases e : f x with
    | none =>
      rw [List.filterMap_cons, e] at h
      rw [List.length_cons] at hl
      exact lc_own hD hP (fun y hy => hs y (List.mem_cons_of_mem _ hy)) (by omega) h
    | some d =>
      rw [List.filterMap_cons, e] at h
      rw [List.length_cons] at hl
      refine ⟨List.mem_cons_self .., by omega, ?_⟩
      rw [oset_cons_self hD]
      refine lc_own hD hP (fun y hy => hs y (List.mem_cons_of_mem _ hy)) ?_ ?_
      · rw [List.length_append, List.length_singleton]; omega
      · rw [List.append_assoc]; exact h
def ab (i : Int) : Int := if i < 0 then -i else i
def big : Int := (10 : Int) ^ (18 : Int).toNat
theorem begun1 (ns : List Int) : (ns.map fun n => B.d (.int n)).filterMap (fun b => match b with | .d (.int i) => if big ≤ ab i then some (D.int (ab i - big)) else none | _ => none) = (ns.filterMap fun i => if big ≤ ab i then some (ab i - big) else none).map D.int := by
  rw [List.filterMap_map, List.map_filterMap]
  congr 1
  funext i
  show (if big ≤ ab i then _ else _) = Option.map D.int (if big ≤ ab i then _ else _)
  by_cases h : big ≤ ab i
  · rw [if_pos h, if_pos h]; rfl
  · rw [if_neg h, if_neg h]; rfl
theorem begun2 (ns : List Int) : (ns.map fun n => B.d (.int n)).filterMap (fun b => match b with | .d (.int i) => some (D.int (ab i)) | _ => none) = (ns.map ab).map D.int := by
  rw [List.filterMap_map, List.map_map, ← filterMap_some]
  rfl
theorem odel_notin {O : Ow} {a : Addr} (h : ∀ p ∈ O, p.1 ≠ a) : odel O a = O := List.filter_eq_self.mpr fun p hp => decide_eq_true (h p hp)
theorem sp__law_begun {A : Ad} : ∀ T bs O R RX, F__law_begun A T bs O R RX → b__law_begun A T (ends0 R RX) (startR N__law_begun bs) O := by
  rintro T bs O R RX ⟨a, ns, rfl, m, h⟩
  refine ⟨_, rfl, .inr (.inl ⟨ns, m, fun z Dl hD => ?_⟩)⟩
  have z' : ns.length ≤ sizeLine := by rw [sizeLine_eq]; omega
  refine lc_own (f := fun b => match b with | .d (.int i) => if big ≤ ab i then some (D.int (ab i - big)) else none | _ => none) hD (fun _ _ => trivial) (fun x hx O' K hO hK => ?_) (by rw [List.length_map]; simpa using z') ?_
  · obtain ⟨i, hi, rfl⟩ := List.mem_map.mp hx
    refine ⟨_, rfl, ⟨by decide, by decide, by decide⟩, _, rfl, ?_⟩
    by_cases c : big ≤ ab i
    · have c' : decide ((10 : Int) ^ (18 : Int).toNat ≤ if i < 0 then -i else i) = true := decide_eq_true c
      rw [c']
      refine iteT ⟨_, rfl, ⟨by decide, by decide, by decide⟩, _, rfl, ?_⟩
      simp only [if_pos c] at hK
      exact hK
    · have c' : decide ((10 : Int) ^ (18 : Int).toNat ≤ if i < 0 then -i else i) = false := decide_eq_false c
      rw [c']
      refine iteF ?_
      simp only [if_neg c] at hK
      exact hK
  rw [List.nil_append, begun1]
  intro p hp
  have pD : p ≠ Dl := fun e => hp _ (List.mem_cons_self ..) e.symm
  have pO : ∀ q ∈ O, q.1 ≠ p := fun q hq => hp q (List.mem_cons_of_mem _ hq)
  refine ⟨_, rfl, _, rfl, .inr (.inl ⟨ns, m, fun _ c hc => ?_⟩)⟩
  refine lc_own (f := fun b => match b with | .d (.int i) => some (D.int (ab i)) | _ => none) hc (fun _ _ => trivial) (fun x hx O' K hO hK => ?_) (by rw [List.length_map]; simpa using z') ?_
  · obtain ⟨i, hi, rfl⟩ := List.mem_map.mp hx
    exact iteT ⟨_, rfl, _, rfl, hK⟩
  rw [List.nil_append, begun2]
  have cp : c ≠ p := fun e => hc _ (List.mem_cons_self ..) e.symm
  have cD : c ≠ Dl := fun e => hc _ (List.mem_cons_of_mem _ (List.mem_cons_self ..)) e.symm
  have cO : ∀ q ∈ O, q.1 ≠ c := fun q hq => hc q (List.mem_cons_of_mem _ (List.mem_cons_of_mem _ hq))
  refine ⟨Dl, c, _, _, 0, rfl, rfl, pD, Ne.symm cp, Ne.symm cD, List.mem_cons_of_mem _ (List.mem_cons_self ..), List.mem_cons_of_mem _ (List.mem_cons_of_mem _ (List.mem_cons_self ..)), List.mem_cons_self .., ?_⟩
  have e1 : odel (odel (odel ((c, OD.lst ((ns.map ab).map D.int)) :: (p, .dct0) :: (Dl, .lst ((ns.filterMap fun i => if big ≤ ab i then some (ab i - big) else none).map D.int)) :: O) p) Dl) c = O := by
    rw [odel_cons_ne cp, odel_cons_self (fun q hq => by
      rcases List.mem_cons.mp hq with e | hq
      · rw [e]; exact Ne.symm pD
      · exact pO q hq), odel_cons_ne cD, odel_cons_self hD, odel_cons_self cO]
  rw [e1]
  exact fin_same (h p c _ pO)
theorem mulL {a b : Int} (h1 : -(2 ^ 64) < a) (h2 : a < 2 ^ 64) : MulOk a b := .inl (.inl ⟨h1, h2⟩)
theorem mulR {a b : Int} (h1 : -(2 ^ 64) < b) (h2 : b < 2 ^ 64) : MulOk a b := .inl (.inr ⟨h1, h2⟩)
theorem sp__law_blended {A : Ad} : ∀ T bs O R RX, F__law_blended A T bs O R RX → b__law_blended A T (ends0 R RX) (startR N__law_blended bs) O := by
  rintro T bs O R RX ⟨p, c, cs, n, rfl, m, hn, h⟩
  refine ⟨_, rfl, p, c, cs, n, rfl, m, fun i h0 h1 => ⟨_, _, rfl, ?_⟩⟩
  have hi : i ≤ 2 ^ 40 := by
    have : (n : Int) < 2 ^ 40 := by exact_mod_cast hn
    omega
  refine ⟨_, rfl, _, rfl, p, c, cs, n, i + 1, n + 1, rfl, rfl, m, by omega, by omega, ?_⟩
  have m1 : (p, OD.draws drk c cs (n + 1)) ∈ oset O p (.draws drk c cs (n + 1)) := oset_self m
  refine ⟨by decide, fun _ => ?_⟩
  refine ⟨fun k ρ O' => O' = oset O p (.draws drk c cs (n + 1)) ∧ ∃ f x y z, ρ = [some (.v (.ref p)), some (.d (.int (i + 1))), some (.d (.int f)), x, y, z], ⟨rfl, 0, none, none, none, rfl⟩, fun _ _ _ _ => trivial, ?_, ?_⟩
  · rintro k b ρ O' hb ⟨rfl, f, x, y, z, rfl⟩
    have hpr : ∃ pr : Int, b = .d (.int pr) ∧ 2147480000 < pr ∧ pr < 2147483648 := by
      match k, hb with
      | 0, hb => cases hb; exact ⟨_, rfl, by decide, by decide⟩
      | 1, hb => cases hb; exact ⟨_, rfl, by decide, by decide⟩
      | 2, hb => cases hb; exact ⟨_, rfl, by decide, by decide⟩
      | k + 3, hb => simp at hb
    obtain ⟨pr, rfl, p1, p2⟩ := hpr
    refine ⟨_, rfl, mulL (by decide) (by decide), _, rfl, ⟨by decide, by decide⟩, ?_⟩
    have hd : 0 ≤ pr / 53 ∧ pr / 53 < 2147483648 := ⟨by omega, by omega⟩
    refine ⟨_, rfl, p, c, cs, n + 1, rfl, m1, ?_⟩
    refine ⟨fun j ρ O' => O' = oset O p (.draws drk c cs (n + 1)) ∧ ∃ v y, 0 ≤ v ∧ v < 2 ^ 60 ∧ ρ = [some (.v (.ref p)), some (.d (.int (i + 1))), some (.d (.int f)), some (.d (.int pr)), some (.d (.int v)), y], ⟨rfl, 48271 * (i + 1) + pr / 53, z, by omega, by omega, rfl⟩, fun _ _ _ hI => by rw [hI.1]; exact m1, ?_, ?_⟩
    · rintro j b ρ O' hb ⟨rfl, v, y, v0, v1, rfl⟩
      rw [List.getElem?_map] at hb
      obtain ⟨cl, hcl, rfl⟩ := Option.map_eq_some_iff.mp hb
      refine ⟨_, rfl, mulR (by decide) (by decide), _, rfl, _, rfl, _, rfl, ⟨by omega, ?_⟩⟩
      refine ⟨rfl, _, _, Int.emod_nonneg _ (by omega), ?_, rfl⟩
      exact Int.lt_trans (Int.emod_lt_of_pos _ (by omega)) (by omega)
    · rintro ρ O' ⟨rfl, v, y, v0, v1, rfl⟩
      refine ⟨_, rfl, mulR (by decide) (by decide), _, rfl, ⟨by decide, by decide, by omega⟩, _, rfl, ⟨by omega, ?_⟩⟩
      exact ⟨rfl, _, _, _, _, rfl⟩
  · rintro ρ O' ⟨rfl, f, x, y, z, rfl⟩
    exact ⟨_, rfl, fin_same (h f)⟩
theorem sp__law_draw {A : Ad} : ∀ T bs O R RX, F__law_draw A T bs O R RX → b__law_draw A T (ends0 R RX) (startR N__law_draw bs) O := by
  rintro T bs O R RX ⟨p, c, cs, n, room, rfl, m, hn, r0, r1, h⟩
  have fin : ∀ (O' : Ow) (n' : Nat), (p, OD.draws drk c cs n') ∈ O' → n' ≤ n + 1 → oset O' p (.draws drk c cs (n + 1)) = oset O p (.draws drk c cs (n + 1)) →
      dSeq (dSet 2 (dOp fMod (dCB gInt (dCons (dDgR drk (dVar 0)) dNil)) (dVar 1))) (dSeq (dDpR drk (dVar 0) (dOp fDiv (dDgR drk (dVar 0)) (dVar 1))) (dRet (dVar 2))) (ends0 R RX) (startR N__law_draw [.v (.ref p), .d (.int room)]) O' := by
    intro O' n' m' hn' e
    refine ⟨_, rfl, p, c, cs, n', rfl, m', fun i => ⟨_, rfl, r0, ?_⟩⟩
    refine ⟨_, rfl, p, c, cs, n', rfl, m', fun j => ⟨_, rfl, ⟨r0, r1⟩, _, rfl, p, c, cs, n', _, rfl, rfl, m', ?_⟩⟩
    refine ⟨_, rfl, _, _, .wk m' hn' (.same (List.Sublist.refl _)), ?_⟩
    rw [e]
    exact h _ (Int.emod_nonneg _ (by omega)) (Int.emod_lt_of_pos _ r0)
  refine ⟨_, rfl, p, c, cs, n, rfl, m, fun i => .inl ⟨_, _, _, rfl, rfl, rfl, _, rfl, ?_⟩⟩
  refine iteP_intro (fun _ => ?_) (fun _ => fin O n m (by omega) rfl)
  refine ⟨p, c, cs, n, rfl, m, fun z => ⟨_, rfl, p, c, cs, n, _, rfl, rfl, m, fin O n m (by omega) rfl⟩, ?_⟩
  refine ⟨_, rfl, p, c, cs, n, rfl, m, hn, fun z => ⟨_, rfl, p, c, cs, n + 1, _, rfl, rfl, oset_self m, fin _ (n + 1) (oset_self m) (Nat.le_refl _) (oset_oset ..)⟩⟩
theorem sp__law_pick {A : Ad} : ∀ T bs O R RX, F__law_pick A T bs O R RX → b__law_pick A T (ends0 R RX) (startR N__law_pick bs) O := by
  rintro T bs O R RX ⟨p, c, cs, n, xs, rfl, m, hn, hx, hz, h⟩
  have hpos : 0 < xs.length := List.length_pos_iff.mpr hx
  refine ⟨_, rfl, _, rfl, _, rfl, fun _ => ⟨p, c, cs, n, _, rfl, m, hn, by omega, ?_, fun i h0 h1 => ?_⟩⟩
  · have e : ((xs.length : Nat) : Int).natAbs = xs.length := by omega
    rw [e]
    exact Nat.lt_of_le_of_lt (Nat.log2_le_self _) (by omega)
  · obtain ⟨j, rfl⟩ := Int.eq_ofNat_of_zero_le h0
    have hj : j < xs.length := by omega
    exact ⟨xs, xs[j], rfl, atI_nat (List.getElem?_eq_getElem hj), fin_same (h _ (List.getElem_mem hj))⟩

end K00
end
section
set_option maxRecDepth 100000
set_option maxHeartbeats 4000000
namespace K00
open PySem PySem.Spec PyProof.Rows L2 DL
theorem sp__law_is_truth {A : Ad} : ∀ T bs O R RX, F__law_is_truth A T bs O R RX → b__law_is_truth A T (ends0 R RX) (startR N__law_is_truth bs) O := by
  rintro T bs O R RX ⟨a, k, rfl, h⟩
  refine ⟨_, rfl, _, rfl, ?_⟩
  cases k with
  | true => exact iteT ⟨_, rfl, fin_same h⟩
  | false => exact iteF ⟨_, rfl, fin_same h⟩
theorem sp__law_is_number {A : Ad} : ∀ T bs O R RX, F__law_is_number A T bs O R RX → b__law_is_number A T (ends0 R RX) (startR N__law_is_number bs) O := by
  rintro T bs O R RX ⟨d, rfl, hp, h⟩
  cases d <;> first | exact hp.elim | (simp [b__law_is_number, s0__law_is_number, dSeq, dRet, dIfS, dAndV, dOrV, dNotV, dAnd, dOr, dNot, dB, dVar, dC, dCons, dNil, dOp, dUn, dCall, dCB, dSet, dNext, startR, ends0, iteP_true, iteP_false, List.map_cons, List.map_nil, List.length_cons, List.length_nil, dIsi, kB, kd, qInt, qBool, isNum] at h ⊢; exact fin_same h)
theorem far_eq : (10 : Int) ^ (15 : Int).toNat * (10 : Int) ^ (15 : Int).toNat = SZ := by decide
theorem sp__law_bl_far {A : Ad} : ∀ T bs O R RX, F__law_bl_far A T bs O R RX → b__law_bl_far A T (ends0 R RX) (startR N__law_bl_far bs) O := by
  rintro T bs O R RX ⟨rfl, h⟩
  refine ⟨⟨by decide, by decide, by decide⟩, ⟨by decide, by decide, by decide⟩, .inl (.inl ⟨by decide, by decide⟩), ?_⟩
  rw [far_eq]
  exact fin_same h
def pwT : Nat → Int
  | 0 => 1
  | n + 1 => pwT n * SZ
theorem top_eq : pwT 10 = VL := by decide
theorem pwT_log : ∀ n : Nat, n ≤ 10 → (pwT n).natAbs.log2 < 100 * (n + 1) := by decide
theorem sp__law_bl_top {A : Ad} : ∀ T bs O R RX, F__law_bl_top A T bs O R RX → b__law_bl_top A T (ends0 R RX) (startR N__law_bl_top bs) O := by
  rintro T bs O R RX ⟨rfl, h⟩
  refine ⟨10, rfl, by decide, by decide, ?_⟩
  refine ⟨fun k ρ O' => k ≤ 10 ∧ O' = O ∧ ∃ y, ρ = [some (.d (.int (pwT k))), y], ⟨by decide, rfl, none, rfl⟩, fun _ _ _ _ => trivial, ?_, ?_⟩
  · rintro k b ρ O' hb ⟨hk, rfl, y, rfl⟩
    obtain ⟨hk2, rfl⟩ := rangeB_get hb
    refine ⟨_, rfl, rfl, .inr ?_, ?_⟩
    · have h1 := pwT_log k hk
      have h2 : SZ.natAbs.log2 < 100 := by decide
      show (pwT k).natAbs.log2 + SZ.natAbs.log2 < 1000000
      omega
    · exact ⟨by omega, rfl, _, rfl⟩
  · rintro ρ O' ⟨hk, rfl, y, rfl⟩
    refine ⟨_, rfl, fin_same ?_⟩
    rw [← top_eq] at h
    exact h
/-! same -/
def pr (d : D) : D := .tup [d, d]
theorem okD_py : ∀ (n : Nat) (d : D), okD n d → ∃ p, dpy d = some p ∧ p.canLay0 = true ∧ p.depth ≤ n
  | 0, d, h => by
    rcases h with rfl | ⟨i, rfl⟩
    · exact ⟨.none, rfl, rfl, Nat.le_refl _⟩
    · exact ⟨.int i, rfl, rfl, Nat.le_refl _⟩
  | n + 1, d, h => by
    rcases h with (rfl | ⟨i, rfl⟩) | ⟨xs, hd, hx⟩
    · exact ⟨.none, rfl, rfl, Nat.zero_le _⟩
    · exact ⟨.int i, rfl, rfl, Nat.zero_le _⟩
    · have key : ∀ ys : List D, (∀ y ∈ ys, okD n y) → ∃ ps, dpys ys = some ps ∧ PyData.canLayAll0 ps = true ∧ PyData.depthAll ps ≤ n := by
        intro ys
        induction ys with
        | nil => intro _; exact ⟨[], rfl, rfl, Nat.zero_le _⟩
        | cons y ys ih =>
          intro hy
          obtain ⟨p, e1, e2, e3⟩ := okD_py n y (hy y (List.mem_cons_self ..))
          obtain ⟨ps, f1, f2, f3⟩ := ih fun z hz => hy z (List.mem_cons_of_mem _ hz)
          refine ⟨p :: ps, by simp only [dpys, e1, f1]; rfl, by simp [PyData.canLayAll0, e2, f2], by simp only [PyData.depthAll]; omega⟩
      obtain ⟨ps, f1, f2, f3⟩ := key xs hx
      rcases hd with rfl | rfl
      · exact ⟨.tuple ps, by simp only [dpy, f1]; rfl, by simp [PyData.canLay0, f2], by simp only [PyData.depth]; omega⟩
      · exact ⟨.list ps, by simp only [dpy, f1]; rfl, by simp [PyData.canLay0, f2], by simp only [PyData.depth]; omega⟩
theorem prs_py : ∀ ws : List D, (∀ w ∈ ws, okD 4 w) → ∃ ps, dpys (ws.map pr) = some ps ∧ PyData.canLayAll0 ps = true ∧ PyData.depthAll ps ≤ 5 ∧ ps.length = ws.length
  | [], _ => ⟨[], rfl, rfl, Nat.zero_le _, rfl⟩
  | w :: ws, h => by
    obtain ⟨p, e1, e2, e3⟩ := okD_py 4 w (h w (List.mem_cons_self ..))
    obtain ⟨ps, f1, f2, f3, f4⟩ := prs_py ws fun z hz => h z (List.mem_cons_of_mem _ hz)
    refine ⟨.tuple [p, p] :: ps, by simp only [List.map_cons, pr, dpys, dpy, e1, f1]; rfl, by simp [PyData.canLayAll0, PyData.canLay0, e2, f2], ?_, by simp [f4]⟩
    simp only [PyData.depthAll, PyData.depth]
    omega
theorem okD_up : ∀ (n : Nat) (d : D), okD n d → okD (n + 1) d
  | 0, d, h => .inl h
  | n + 1, d, h => by
    rcases h with h | ⟨xs, hd, hx⟩
    · exact .inl h
    · exact .inr ⟨xs, hd, fun x hx' => okD_up n x (hx x hx')⟩
theorem dsizes_app : ∀ a b : List D, dsizes (a ++ b) = dsizes a + dsizes b
  | [], b => by simp [dsizes]
  | x :: a, b => by simp only [List.cons_append, dsizes, dsizes_app a b]; omega
theorem dsize_pos (d : D) : 1 ≤ dsize d := by cases d <;> simp [dsize]
theorem len_dsizes : ∀ xs : List D, xs.length ≤ dsizes xs
  | [] => Nat.le_refl _
  | x :: xs => by
    have := dsize_pos x
    have := len_dsizes xs
    simp only [List.length_cons, dsizes]; omega
theorem okD_plain {n : Nat} {d : D} (h : okD n d) : plain d := by
  cases n with
  | zero => rcases h with rfl | ⟨i, rfl⟩ <;> trivial
  | succ n => rcases h with (rfl | ⟨i, rfl⟩) | ⟨xs, rfl | rfl, _⟩ <;> trivial
theorem nil_or_last (ws : List D) : ws = [] ∨ ∃ us w, ws = us ++ [w] := by
  rcases List.eq_nil_or_concat ws with h | ⟨us, w, h⟩
  · exact .inl h
  · exact .inr ⟨us, w, by rw [h]; simp⟩
theorem zipD_self : ∀ xs : List D, zipD xs xs = xs.map fun x => B.d (pr x)
  | [] => rfl
  | x :: xs => by
    have := zipD_self xs
    unfold zipD at this ⊢
    rw [List.zip_cons_cons, List.map_cons, List.map_cons, this]
    rfl
theorem two_sz : 2 ≤ sizeLine := by rw [sizeLine_eq]; decide
theorem one_sz : 1 ≤ sizeLine := by rw [sizeLine_eq]; decide
theorem neS {b : Bool} : (if true = true then !b else b) = !b := rfl
theorem sp__law_same {A : Ad} : ∀ T bs O R RX, F__law_same A T bs O R RX → b__law_same A T (ends0 R RX) (startR N__law_same bs) O := by
  rintro T bs O R RX ⟨x, rfl, hx, hz, h⟩
  refine ⟨_, rfl, _, rfl, two_sz, one_sz, fun p hp => ?_⟩
  refine ⟨fun m ρ O' => ∃ ws : List D, (∀ w ∈ ws, okD 4 w) ∧ dsizes ws ≤ 1000000 ∧ m = dsizes ws ∧ O' = (p, .lst (ws.map pr)) :: O ∧ ∃ y0 y1 y2 y3 y4 y5, ρ = [some (.d x), some (.d x), some (.v (.ref p)), y0, y1, y2, y3, y4, y5],
    ⟨dsizes [x], [x], fun w hw => by rw [List.mem_singleton.mp hw]; exact hx, by simpa [dsizes] using hz, rfl, rfl, _, _, _, _, _, _, rfl⟩, ?_⟩
  rintro m ρ O' ⟨ws, hw, hz, rfl, rfl, y0, y1, y2, y3, y4, y5, rfl⟩
  obtain ⟨ps, f1, f2, f3, f4⟩ := prs_py ws hw
  have shp : SeqAt.shaped (.list ps) = true := by
    show (PyData.canLayAll0 ps && decide (PyData.depthAll ps + 1 ≤ 64)) = true
    rw [f2, Bool.true_and]
    exact decide_eq_true (by omega)
  refine ⟨_, rfl, Nat.zero_le _, .inr ⟨.list ps, .list [], ⟨ws.map pr, List.mem_cons_self .., by simp only [dpy, f1]; rfl⟩, rfl, shp, rfl, _, rfl, ?_⟩⟩
  rcases nil_or_last ws with rfl | ⟨us, d, rfl⟩
  · have e : ps = [] := List.length_eq_zero_iff.mp f4
    subst e
    refine iteF ?_
    exact ⟨_, _, .same (List.sublist_cons_self ..), h⟩
  have hne : PyData.eqv (.list ps) (.list []) = false := by
    cases ps with
    | nil => simp at f4
    | cons a as => rfl
  rw [hne]
  refine iteT ?_
  have hd := hw d (List.mem_append_right _ (List.mem_singleton_self _))
  have hus : ∀ w ∈ us, okD 4 w := fun w h => hw w (List.mem_append_left _ h)
  rw [dsizes_app] at hz ⊢
  have hzd : dsizes [d] = dsize d := by simp [dsizes]
  rw [hzd] at hz ⊢
  refine ⟨_, rfl, ⟨p, _, rfl, List.mem_cons_self ..⟩, us.map pr, pr d, by rw [List.map_append]; exact List.mem_cons_self .., ?_⟩
  rw [oset_cons_self hp]
  refine ⟨[d, d], rfl, rfl, _, _, rfl, _, _, rfl, rfl, ?_⟩
  have back : ∀ z0 z1 z2 z3 z4 z5, ∃ m', m' < dsizes us + dsize d ∧ ∃ ws : List D, (∀ w ∈ ws, okD 4 w) ∧ dsizes ws ≤ 1000000 ∧ m' = dsizes ws ∧ (p, OD.lst (us.map pr)) :: O = (p, .lst (ws.map pr)) :: O ∧ ∃ y0 y1 y2 y3 y4 y5, [some (B.d x), some (.d x), some (.v (.ref p)), z0, z1, z2, z3, z4, z5] = [some (B.d x), some (.d x), some (.v (.ref p)), y0, y1, y2, y3, y4, y5] := fun z0 z1 z2 z3 z4 z5 =>
    ⟨dsizes us, by have := dsize_pos d; omega, us, hus, by omega, rfl, rfl, _, _, _, _, _, _, rfl⟩
  rcases hd with (rfl | ⟨i, rfl⟩) | ⟨xs, hxs, hok⟩
  · refine ⟨_, rfl, _, rfl, iteT (iteT ?_)⟩
    exact ⟨_, rfl, _, rfl, iteT ⟨_, rfl, _, rfl, iteF (back _ _ _ _ _ _)⟩⟩
  · refine ⟨_, rfl, _, rfl, iteF ⟨_, rfl, .int, false, .inl ⟨_, rfl, rfl⟩, rfl, _, rfl, iteF ?_⟩⟩
    refine ⟨_, rfl, .int, true, .inl ⟨_, rfl, rfl⟩, rfl, _, rfl, iteT ?_⟩
    refine ⟨_, rfl, .int, false, .inl ⟨_, rfl, rfl⟩, rfl, _, rfl, iteF ?_⟩
    refine ⟨_, rfl, .int, true, .inl ⟨_, rfl, rfl⟩, rfl, _, rfl, .int, true, .inl ⟨_, rfl, rfl⟩, rfl, .inl ⟨_, _, _, rfl, rfl, rfl, _, rfl, iteF ?_⟩⟩
    refine ⟨_, rfl, _, rfl, .inl ⟨_, _, _, rfl, rfl, rfl, _, rfl, ?_⟩⟩
    rw [neS, decide_eq_true (rfl : i = i)]
    exact iteF (back _ _ _ _ _ _)
  · have hdz : dsize d = dsizes xs + 1 := by rcases hxs with rfl | rfl <;> simp [dsize]
    have hlen := len_dsizes xs
    have hlus := len_dsizes us
    have ksz : sizeLine = 16777216 := sizeLine_eq
    have hok4 : ∀ w ∈ xs, okD 4 w := fun w hw => okD_up 3 w (hok w hw)
    have ext : ∀ (z2 z3 z4 z5 : Option B) (bk ct : Ro → Ow → Prop), dDrop (dBM gExtend (dVar 2) (dCons (dLc (dZip (dCons (dVar 3) (dCons (dVar 4) dNil))) (dgTup 2 (dgCons (dName 7) (dgCons (dName 8) dgNil))) dYes (dTup (dCons (dVar 7) (dCons (dVar 8) dNil))) [7, 8]) dNil))
        { nx := fun ρ' O' => ∃ m', m' < dsizes us + dsize d ∧ ∃ ws : List D, (∀ w ∈ ws, okD 4 w) ∧ dsizes ws ≤ 1000000 ∧ m' = dsizes ws ∧ O' = (p, .lst (ws.map pr)) :: O ∧ ∃ y0 y1 y2 y3 y4 y5, ρ' = [some (B.d x), some (.d x), some (.v (.ref p)), y0, y1, y2, y3, y4, y5], rt := (ends0 R RX).rt, bk := bk,
          ct := ct, xr := (ends0 R RX).xr } [some (B.d x), some (.d x), some (.v (.ref p)), some (B.d d), some (B.d d), z2, z3, z4, z5] ((p, .lst (us.map pr)) :: O) := by
      intro z2 z3 z4 z5 bk ct
      refine ⟨_, rfl, ⟨p, _, rfl, List.mem_cons_self ..⟩, _, rfl, _, rfl, _, _, rfl, ?_⟩
      have key : ∀ Dl, (∀ q ∈ ((p, OD.lst (us.map pr)) :: O), q.1 ≠ Dl) → lcGo (lcStep (dgTup 2 (dgCons (dName 7) (dgCons (dName 8) dgNil))) dYes (dTup (dCons (dVar 7) (dCons (dVar 8) dNil))) (wipeR [some (B.d x), some (.d x), some (.v (.ref p)), some (B.d d), some (B.d d), z2, z3, z4, z5] [7, 8])) yesP Dl (zipD xs xs) [] ((Dl, .lst []) :: (p, OD.lst (us.map pr)) :: O)
          (fun b O1 => gExtend (.v (.ref p)) [b] O1 fun _ O1 => ∃ m', m' < dsizes us + dsize d ∧ ∃ ws : List D, (∀ w ∈ ws, okD 4 w) ∧ dsizes ws ≤ 1000000 ∧ m' = dsizes ws ∧ O1 = (p, .lst (ws.map pr)) :: O ∧ ∃ y0 y1 y2 y3 y4 y5, [some (B.d x), some (.d x), some (.v (.ref p)), some (B.d d), some (B.d d), z2, z3, z4, z5] = [some (B.d x), some (.d x), some (.v (.ref p)), y0, y1, y2, y3, y4, y5]) := by
        intro Dl hD
        rw [zipD_self]
        refine lc_pure (f := fun b => match b with | .d e => some e | _ => none) hD (fun _ _ => trivial) (fun b hb O' K hO hK => ?_) (by rw [List.length_map]; simp only [List.length_nil]; omega) ?_
        · obtain ⟨w, hw, rfl⟩ := List.mem_map.mp hb
          refine ⟨[w, w], rfl, rfl, _, _, rfl, _, _, rfl, rfl, iteT ?_⟩
          exact ⟨_, rfl, _, rfl, two_sz, _, rfl, hK⟩
        · rw [List.nil_append, List.filterMap_map]
          have e : ((fun b => match b with | .d e => some e | _ => none) ∘ fun x => B.d (pr x)) = fun x => some (pr x) := rfl
          rw [e, filterMap_some]
          refine ⟨xs.map pr, us.map pr, rfl, List.mem_cons_self .., by rw [List.length_map, List.length_map]; omega, ?_⟩
          rw [oset_cons_self hp, ← List.map_append]
          exact ⟨dsizes (us ++ xs), by rw [dsizes_app]; omega, us ++ xs, fun w hw => by
            rcases List.mem_append.mp hw with h | h
            · exact hus w h
            · exact hok4 w h, by rw [dsizes_app]; omega, rfl, rfl, _, _, _, _, _, _, rfl⟩
      rcases hxs with rfl | rfl
      · exact fun _ _ => ⟨rfl, key⟩
      · exact fun _ _ => ⟨rfl, key⟩
    rcases hxs with rfl | rfl
    · refine ⟨_, rfl, _, rfl, iteF ⟨_, rfl, .tup, false, .inl ⟨_, rfl, rfl⟩, rfl, _, rfl, iteF ?_⟩⟩
      refine ⟨_, rfl, .tup, false, .inl ⟨_, rfl, rfl⟩, rfl, _, rfl, iteF ?_⟩
      refine ⟨_, rfl, .tup, false, .inl ⟨_, rfl, rfl⟩, rfl, _, rfl, iteF ?_⟩
      refine ⟨_, rfl, .tup, true, .inl ⟨_, rfl, rfl⟩, rfl, _, rfl, iteT ⟨_, rfl, .tup, true, .inl ⟨_, rfl, rfl⟩, rfl, ?_⟩⟩
      refine ⟨_, rfl, .tup, false, .inl ⟨_, rfl, rfl⟩, rfl, _, rfl, iteF ⟨two_sz, ?_⟩⟩
      refine ⟨_, rfl, _, rfl, rfl, rfl, _, rfl, iteF ?_⟩
      refine ⟨_, rfl, fun _ => ⟨_, rfl, fun _ => .inl ⟨_, _, _, rfl, rfl, rfl, _, rfl, ?_⟩⟩⟩
      rw [neS, decide_eq_true (rfl : (xs.length : Int) = xs.length)]
      exact iteF (ext _ _ _ _ _ _)
    · refine ⟨_, rfl, _, rfl, iteF ⟨_, rfl, .lst, false, .inl ⟨_, rfl, rfl⟩, rfl, _, rfl, iteF ?_⟩⟩
      refine ⟨_, rfl, .lst, false, .inl ⟨_, rfl, rfl⟩, rfl, _, rfl, iteF ?_⟩
      refine ⟨_, rfl, .lst, false, .inl ⟨_, rfl, rfl⟩, rfl, _, rfl, iteF ?_⟩
      refine ⟨_, rfl, .lst, false, .inl ⟨_, rfl, rfl⟩, rfl, _, rfl, iteF ?_⟩
      refine ⟨_, rfl, .lst, true, .inl ⟨_, rfl, rfl⟩, rfl, _, rfl, iteT ⟨_, rfl, .lst, true, .inl ⟨_, rfl, rfl⟩, rfl, ⟨two_sz, ?_⟩⟩⟩
      refine ⟨_, rfl, _, rfl, rfl, rfl, _, rfl, iteF ?_⟩
      refine ⟨_, rfl, fun _ => ⟨_, rfl, fun _ => .inl ⟨_, _, _, rfl, rfl, rfl, _, rfl, ?_⟩⟩⟩
      rw [neS, decide_eq_true (rfl : (xs.length : Int) = xs.length)]
      exact iteF (ext _ _ _ _ _ _)

end K00
end
section
set_option maxRecDepth 100000
set_option maxHeartbeats 4000000
namespace K00
open PySem PySem.Spec PyProof.Rows L2 DL
theorem asc_snoc : ∀ (xs : List Int) (a b : Int), asc (xs ++ [a, b]) = (asc (xs ++ [a]) && decide (a < b))
  | [], a, b => by simp [asc]
  | [x], a, b => by simp [asc]
  | x :: y :: r, a, b => by
    show (decide (x < y) && asc (y :: r ++ [a, b])) = (decide (x < y) && asc (y :: r ++ [a]) && decide (a < b))
    rw [asc_snoc (y :: r) a b, Bool.and_assoc]
theorem asc_left : ∀ (xs : List Int) (a : Int), asc (xs ++ [a]) = true → asc xs = true
  | [], a, _ => rfl
  | [x], a, _ => rfl
  | x :: y :: r, a, h => by
    have h' : (decide (x < y) && asc (y :: r ++ [a])) = true := h
    rw [Bool.and_eq_true] at h'
    show (decide (x < y) && asc (y :: r)) = true
    rw [h'.1, asc_left (y :: r) a h'.2]; rfl
theorem log_ok {x : Int} (h0 : 0 < x) (h : x ≤ 10 ^ 31) : x.natAbs.log2 < 9000 := by
  have h1 : x.natAbs < 2 ^ 200 := by
    have : (10 : Int) ^ 31 < 2 ^ 200 := by decide
    omega
  have h2 : x.natAbs ≠ 0 := by omega
  have := (Nat.log2_lt h2).mpr h1
  omega
theorem sp__law_bl_rising {A : Ad} : ∀ T bs O R RX, F__law_bl_rising A T bs O R RX → b__law_bl_rising A T (ends0 R RX) (startR N__law_bl_rising bs) O := by
  rintro T bs O R RX ⟨p, c, cs, n, many, reach, rfl, m, hn, hm, r1, r2, h⟩
  refine ⟨Nat.zero_le _, fun q hq => ?_⟩
  have qp : q ≠ p := fun e => hq _ m e.symm
  have tl : TL = 1099511627776 := by decide
  refine ⟨_, rfl, _, rfl, p, c, cs, n, _, rfl, List.mem_cons_of_mem _ m, by omega, by omega, log_ok (by omega) (by omega), fun i i0 i1 => ?_⟩
  rw [oset_cons_ne qp]
  refine ⟨_, _, rfl, ?_⟩
  refine ⟨_, rfl, (many : Int), rfl, by omega, by omega, ?_⟩
  have e0 : ((many : Nat) : Int).toNat = many := by omega
  rw [e0]
  refine ⟨fun k ρ O' => k ≤ many ∧ ∃ xs here y, xs.length = k ∧ asc (xs ++ [here]) = true ∧ (∀ x ∈ xs ++ [here], -reach ≤ x ∧ x ≤ k * (reach + 1)) ∧ O' = (q, .lst (xs.map D.int)) :: oset O p (.draws drk c cs (n + 1 + 2 * k)) ∧
    ρ = [some (.v (.ref p)), some (.d (.int many)), some (.d (.int reach)), some (.v (.ref q)), some (.d (.int here)), y], ⟨Nat.zero_le _, [], -i, none, rfl, rfl, fun x hx => ?_, rfl, rfl⟩, fun _ _ _ _ => trivial, ?_, ?_⟩
  · rw [List.nil_append, List.mem_singleton] at hx
    subst hx
    omega
  · rintro k b ρ O' hb ⟨hk, xs, here, y, rfl, ha, hz, rfl, rfl⟩
    obtain ⟨hk2, rfl⟩ := rangeB_get hb
    have ksz : sizeLine = 16777216 := sizeLine_eq
    have hq' : ∀ r ∈ oset O p (OD.draws drk c cs (n + 1 + 2 * xs.length)), r.1 ≠ q := fun r hr => by
      rcases mem_oset hr with ⟨e, _⟩ | ⟨_, hr⟩
      · rw [e]; exact Ne.symm qp
      · exact hq r hr
    refine ⟨_, rfl, ⟨q, _, rfl, List.mem_cons_self ..⟩, _, rfl, _, xs.map D.int, rfl, List.mem_cons_self .., by rw [List.length_map]; omega, ?_⟩
    rw [oset_cons_self hq']
    refine ⟨_, rfl, _, rfl, _, rfl, _, rfl, by show 3 ≤ sizeLine; rw [ksz]; decide, ?_⟩
    refine ⟨p, c, cs, n + 1 + 2 * xs.length, _, rfl, List.mem_cons_of_mem _ (oset_self m), by omega, by simp, by show 3 < 1000; decide, fun x hx => ?_⟩
    have hroom : ∃ room : Int, x = .int room ∧ 0 < room ∧ room ≤ reach + 1 := by
      simp only [List.mem_cons, List.not_mem_nil, or_false] at hx
      rcases hx with rfl | rfl | rfl
      · exact ⟨_, rfl, by decide, by omega⟩
      · exact ⟨_, rfl, by decide, by omega⟩
      · exact ⟨_, rfl, by omega, by omega⟩
    obtain ⟨room, rfl, g1, g2⟩ := hroom
    rw [oset_cons_ne qp, oset_oset]
    refine ⟨p, c, cs, n + 1 + 2 * xs.length + 1, room, rfl, List.mem_cons_of_mem _ (oset_self m), by omega, g1, log_ok g1 (by omega), fun d d0 d1 => ?_⟩
    rw [oset_cons_ne qp, oset_oset]
    have hh := hz here (List.mem_append_right _ (List.mem_singleton_self _))
    have ek : (((xs.length + 1 : Nat) : Int)) * (reach + 1) = (xs.length : Int) * (reach + 1) + (reach + 1) := by
      rw [Int.natCast_add, Int.add_mul]; simp
    refine ⟨by omega, xs ++ [here], here + 1 + d, _, by simp, ?_, fun x hx => ?_, by rw [List.map_append]; rfl, rfl⟩
    · rw [List.append_assoc]
      show asc (xs ++ [here, here + 1 + d]) = true
      rw [asc_snoc, ha, Bool.true_and]
      exact decide_eq_true (by omega)
    · rw [ek]
      rcases List.mem_append.mp hx with hx | hx
      · have := hz x hx
        omega
      · rw [List.mem_singleton] at hx
        subst hx
        omega
  · rintro ρ O' ⟨hk, xs, here, y, hl, ha, hz, rfl, rfl⟩
    rw [rangeB_len] at hl hz ⊢
    refine ⟨_, rfl, fin_same ?_⟩
    have e : n + 1 + 2 * many = n + 2 * many + 1 := by omega
    rw [e]
    exact h xs q hl (asc_left _ _ ha) (fun x hx => hz x (List.mem_append_left _ hx)) hq

/-- the ends are taken away -/
def sst (f l : Bool) (x0 : Int) (ms : List Int) (xl : Int) : List (Option Int) := (if f then none else some x0) :: (ms.map some ++ [if l then none else some xl])
theorem sst_len (f l : Bool) (x0 : Int) (ms : List Int) (xl : Int) : (sst f l x0 ms xl).length = ms.length + 2 := by simp [sst]
theorem sst_told (f l : Bool) (x0 : Int) (ms : List Int) (xl : Int) : (sst f l x0 ms xl).filterMap id = (if f then [] else [x0]) ++ (ms ++ (if l then [] else [xl])) := by
  have e : ∀ ms : List Int, (ms.map some).filterMap id = ms := by
    intro ms
    induction ms with
    | nil => rfl
    | cons x ms ih => simp [ih]
  cases f <;> cases l <;> simp [sst, e]
theorem asc_tail : ∀ (x : Int) (xs : List Int), asc (x :: xs) = true → asc xs = true
  | x, [], _ => rfl
  | x, y :: r, h => by
    have h' : (decide (x < y) && asc (y :: r)) = true := h
    rw [Bool.and_eq_true] at h'
    exact h'.2
theorem split2 (xs : List Int) (h : 2 ≤ xs.length) : ∃ x0 ms xl, xs = x0 :: (ms ++ [xl]) := by
  match xs, h with
  | x0 :: r, h =>
    rcases List.eq_nil_or_concat r with e | ⟨ms, xl, e⟩
    · rw [e] at h; simp at h
    · exact ⟨x0, ms, xl, by rw [e]; simp⟩
theorem sst_set0 (l : Bool) (x0 : Int) (ms : List Int) (xl : Int) : ((sst false l x0 ms xl).map oI).set 0 .non = (sst true l x0 ms xl).map oI := rfl
theorem set_last {α : Type} (l : List α) (a b : α) : (l ++ [a]).set l.length b = l ++ [b] := by simp
theorem sst_setL (f : Bool) (x0 : Int) (ms : List Int) (xl : Int) : ((sst f false x0 ms xl).map oI).set (ms.length + 1) .non = (sst f true x0 ms xl).map oI := by
  unfold sst
  simp only [List.map_cons, List.map_append, List.set_cons_succ, List.map_nil]
  congr 1
  have : ms.length = ((ms.map some).map oI).length := by simp
  rw [this, set_last]
  rfl
theorem sst_parts {f l : Bool} {x0 xl v reach : Int} {ms ps : List Int} (hp : ps.length = ms.length + 1) (h6 : ps.length ≤ 6) (hpa : asc ps = true) (hpz : ∀ x ∈ ps, -reach ≤ x ∧ x ≤ (ps.length : Int) * (reach + 1))
    (ha : asc (x0 :: (ms ++ [xl])) = true) (hz : ∀ x ∈ x0 :: (ms ++ [xl]), -reach ≤ x ∧ x ≤ ((ps.length : Int) + 1) * (reach + 1)) (r1 : 1 ≤ reach) (r2 : reach ≤ 10 ^ 29) (hfl : f = true → l = true → 1 ≤ ms.length) (hv : -reach ≤ v ∧ v ≤ reach) : Parts ps (sst f l x0 ms xl) v := by
  have bd : ∀ (k : Int) (x : Int), k ≤ 7 → 0 ≤ k → -reach ≤ x ∧ x ≤ k * (reach + 1) → -(8 * 10 ^ 29) ≤ x ∧ x ≤ 8 * 10 ^ 29 := fun k x hk hk0 hx => by
    have : k * (reach + 1) ≤ 7 * (reach + 1) := Int.mul_le_mul_of_nonneg_right hk (by omega)
    omega
  refine ⟨by omega, h6, hpa, fun x hx => bd _ x (by omega) (by omega) (hpz x hx), by rw [sst_len]; omega, fun i i0 i1 e => ?_, fun x hx => ?_, ?_, ?_, by omega⟩
  · match i, i0 with
    | i + 1, _ =>
      simp only [sst, List.getElem?_cons_succ] at e
      rw [List.getElem?_append_left (by rw [List.length_map]; omega), List.getElem?_map] at e
      cases q : ms[i]? <;> rw [q] at e <;> simp at e
  · have : x ∈ x0 :: (ms ++ [xl]) := by
      unfold sst at hx
      rcases List.mem_cons.mp hx with h | h
      · cases f with
        | true => simp at h
        | false =>
          have : x = x0 := by simpa using h
          rw [this]; exact List.mem_cons_self ..
      · rcases List.mem_append.mp h with h | h
        · obtain ⟨y, hy, e⟩ := List.mem_map.mp h
          cases e
          exact List.mem_cons_of_mem _ (List.mem_append_left _ hy)
        · cases l with
          | true => simp at h
          | false =>
            have : x = xl := by simpa using h
            rw [this]; exact List.mem_cons_of_mem _ (List.mem_append_right _ (List.mem_singleton_self _))
    exact bd _ x (by omega) (by omega) (hz x this)
  · rw [sst_told]
    have ht := asc_tail _ _ ha
    cases f <;> cases l
    · exact ha
    · simp only [if_true, if_false, Bool.false_eq_true, List.append_nil]
      have : x0 :: (ms ++ [xl]) = (x0 :: ms) ++ [xl] := rfl
      rw [this] at ha
      exact asc_left _ _ ha
    · exact ht
    · simp only [if_true, List.append_nil, List.nil_append]
      exact asc_left _ _ ht
  · rw [sst_told]
    cases f <;> cases l <;> simp
    exact Nat.lt_of_lt_of_le (Nat.lt_of_lt_of_le (by decide) (hfl rfl rfl)) (Nat.le_refl _)
theorem sp__law_bl_parts {A : Ad} : ∀ T bs O R RX, F__law_bl_parts A T bs O R RX → b__law_bl_parts A T (ends0 R RX) (startR N__law_bl_parts bs) O := by
  rintro T bs O R RX ⟨p, c, cs, n, reach, rfl, m, hn, r1, r2, h⟩
  have tl : TL = 1099511627776 := by decide
  refine ⟨_, rfl, _, rfl, p, c, cs, n, _, rfl, m, by omega, by decide, by decide, fun i i0 i1 => ?_⟩
  obtain ⟨j, rfl⟩ := Int.eq_ofNat_of_zero_le i0
  have j6 : j < 6 := by omega
  refine ⟨_, rfl, _, rfl, _, rfl, p, c, cs, n + 1, j + 2, reach, ?_, oset_self m, by omega, by omega, r1, r2, fun xs q hl ha hz hq => ?_⟩
  · have : (1 + (j : Int) + 1) = ((j + 2 : Nat) : Int) := by omega
    rw [this]
  rw [oset_oset]
  have hq0 : ∀ r ∈ O, r.1 ≠ q := fun r hr e => by
    by_cases hp : r.1 = p
    · exact hq _ (oset_self m) (hp.symm.trans e)
    · exact hq _ (oset_other hr hp) e
  have qp : q ≠ p := fun e => hq0 _ m e.symm
  obtain ⟨x0, ms, xl, rfl⟩ := split2 xs (by omega)
  have hms : ms.length = j := by simp at hl; omega
  have e1 : (x0 :: (ms ++ [xl])).map D.int = (sst false false x0 ms xl).map oI := by
    unfold sst
    simp [oI, Function.comp_def]
  rw [e1]
  -- two draws
  refine ⟨_, rfl, p, c, cs, _, 3, rfl, List.mem_cons_of_mem _ (oset_self m), by omega, by decide, by decide, fun a a0 a1 => .inl ⟨_, _, _, rfl, rfl, rfl, ?_⟩⟩
  rw [oset_cons_ne qp, oset_oset]
  refine ⟨_, rfl, p, c, cs, _, 3, rfl, List.mem_cons_of_mem _ (oset_self m), by omega, by decide, by decide, fun b b0 b1 => .inl ⟨_, _, _, rfl, rfl, rfl, ?_⟩⟩
  rw [oset_cons_ne qp, oset_oset]
  refine ⟨_, _, rfl, ?_⟩
  -- what comes behind
  have rest : ∀ (f l : Bool) (y5 y6 : Option B), (f = true → l = true → 1 ≤ ms.length) → ∀ n', n' + 20 ≤ n + 40 →
      dRet (dTup (dCons (dCB gTuple (dCons (dCall (F__law_bl_rising A) T (dCons (dVar 0) (dCons (dVar 3) (dCons (dVar 2) dNil)))) dNil)) (dCons (dCB gTuple (dCons (dVar 4) dNil)) (dCons (dOp fSub (dCall (F__law_draw A) T (dCons (dVar 0) (dCons (dOp fAdd (dOp fMul (dC (.d (.int 2))) (dVar 2)) (dC (.d (.int 1)))) dNil))) (dVar 2)) dNil))))
        (ends0 R RX) [some (.v (.ref p)), some (.d (.int 6)), some (.d (.int reach)), some (.d (.int (1 + (j : Int)))), some (.v (.ref q)), y5, y6] ((q, .lst ((sst f l x0 ms xl).map oI)) :: oset O p (.draws drk c cs n')) := by
    intro f l y5 y6 hfl n' hn'
    refine ⟨_, rfl, _, rfl, _, rfl, p, c, cs, n', j + 1, reach, ?_, List.mem_cons_of_mem _ (oset_self m), by omega, by omega, r1, r2, fun ps q2 hl2 ha2 hz2 hq2 => ?_⟩
    · have : (1 + (j : Int)) = ((j + 1 : Nat) : Int) := by omega
      rw [this]
    rw [oset_cons_ne qp, oset_oset]
    have q2p : q2 ≠ p := fun e => hq2 _ (List.mem_cons_of_mem _ (oset_self m)) e.symm
    refine ⟨_, List.mem_cons_self .., ?_⟩
    refine ⟨_, rfl, _, List.mem_cons_of_mem _ (List.mem_cons_self ..), ?_⟩
    refine ⟨_, rfl, _, rfl, mulL (by decide) (by decide), ?_⟩
    refine ⟨p, c, cs, _, _, rfl, List.mem_cons_of_mem _ (List.mem_cons_of_mem _ (oset_self m)), by omega, by omega, log_ok (by omega) (by omega), fun d d0 d1 => ?_⟩
    rw [oset_cons_ne q2p, oset_cons_ne qp, oset_oset]
    refine ⟨_, rfl, by show 3 ≤ sizeLine; rw [sizeLine_eq]; decide, ?_⟩
    have mm : (p, OD.draws drk c cs (n' + 2 * (j + 1) + 1 + 1)) ∈ (q2, OD.lst (ps.map D.int)) :: (q, OD.lst ((sst f l x0 ms xl).map oI)) :: oset O p (.draws drk c cs (n' + 2 * (j + 1) + 1 + 1)) := List.mem_cons_of_mem _ (List.mem_cons_of_mem _ (oset_self m))
    refine ⟨_, oset O p (.draws drk c cs (n + 40)), .wk (m := n + 40) mm (by omega) (.same ?_), ?_⟩
    · rw [oset_cons_ne q2p, oset_cons_ne qp, oset_oset]
      exact (List.Sublist.refl _).cons _ |>.cons _
    · refine h ps (sst f l x0 ms xl) (d - reach) (sst_parts (reach := reach) (by omega) (by omega) ha2 (fun x hx => ?_) ha (fun x hx => ?_) r1 r2 hfl (by omega))
      · have := hz2 x hx
        rw [hl2]; exact this
      · have := hz x hx
        have e : ((ps.length : Int) + 1) = ((j + 2 : Nat) : Int) := by omega
        rw [e]; exact this
  have ksz : sizeLine = 16777216 := sizeLine_eq
  have hq' : ∀ n', ∀ r ∈ oset O p (OD.draws drk c cs n'), r.1 ≠ q := fun n' r hr => by
    rcases mem_oset hr with ⟨e, _⟩ | ⟨_, hr⟩
    · rw [e]; exact Ne.symm qp
    · exact hq0 r hr
  -- the last end
  have step2 : ∀ (f : Bool) (y5 : Option B) (l : Bool), (f = true → l = true → 1 ≤ ms.length) → ∀ n', n' + 20 ≤ n + 40 →
      dSeq (dIfS (dB (dVar 6)) (dStore (dVar 4) (dUn fNeg (dC (.d (.int 1)))) (dC (.d .non))) dNext) (dRet (dTup (dCons (dCB gTuple (dCons (dCall (F__law_bl_rising A) T (dCons (dVar 0) (dCons (dVar 3) (dCons (dVar 2) dNil)))) dNil)) (dCons (dCB gTuple (dCons (dVar 4) dNil)) (dCons (dOp fSub (dCall (F__law_draw A) T (dCons (dVar 0) (dCons (dOp fAdd (dOp fMul (dC (.d (.int 2))) (dVar 2)) (dC (.d (.int 1)))) dNil))) (dVar 2)) dNil)))))
        (ends0 R RX) [some (.v (.ref p)), some (.d (.int 6)), some (.d (.int reach)), some (.d (.int (1 + (j : Int)))), some (.v (.ref q)), y5, some (.d (.bl l))] ((q, .lst ((sst f false x0 ms xl).map oI)) :: oset O p (.draws drk c cs n')) := by
    intro f y5 l hfl n' hn'
    refine ⟨_, rfl, _, rfl, ?_⟩
    cases l with
    | false => exact iteF (rest f false _ _ (fun _ e => nomatch e) n' hn')
    | true =>
      refine iteT ⟨_, rfl, ?_⟩
      refine ⟨q, _, _, -1, ms.length + 1, rfl, rfl, rfl, List.mem_cons_self .., ?_, ?_⟩
      · rw [List.length_map, sst_len]
        unfold ixN
        rw [if_neg (by decide), if_pos (by omega)]
        congr 1
        omega
      · rw [oset_cons_self (hq' n'), sst_setL]
        exact rest f true _ _ hfl n' hn'
  refine ⟨_, rfl, _, rfl, ?_⟩
  cases hfst : decide (a = 0) with
  | false => exact iteF (iteF (step2 false _ _ (fun e => nomatch e) _ (by omega)))
  | true =>
    refine iteT ⟨_, rfl, _, rfl, ?_⟩
    have store0 : ∀ l, (l = true → 1 ≤ ms.length) → ∀ n', n' + 20 ≤ n + 40 → dStore (dVar 4) (dC (.d (.int 0))) (dC (.d .non)) { nx := dSeq (dIfS (dB (dVar 6)) (dStore (dVar 4) (dUn fNeg (dC (.d (.int 1)))) (dC (.d .non))) dNext) (dRet (dTup (dCons (dCB gTuple (dCons (dCall (F__law_bl_rising A) T (dCons (dVar 0) (dCons (dVar 3) (dCons (dVar 2) dNil)))) dNil)) (dCons (dCB gTuple (dCons (dVar 4) dNil)) (dCons (dOp fSub (dCall (F__law_draw A) T (dCons (dVar 0) (dCons (dOp fAdd (dOp fMul (dC (.d (.int 2))) (dVar 2)) (dC (.d (.int 1)))) dNil))) (dVar 2)) dNil))))) (ends0 R RX), rt := (ends0 R RX).rt, bk := (ends0 R RX).bk, ct := (ends0 R RX).ct, xr := (ends0 R RX).xr } [some (.v (.ref p)), some (.d (.int 6)), some (.d (.int reach)), some (.d (.int (1 + (j : Int)))), some (.v (.ref q)), some (.d (.bl true)), some (.d (.bl l))] ((q, .lst ((sst false false x0 ms xl).map oI)) :: oset O p (.draws drk c cs n')) := by
      intro l hl n' hn'
      refine ⟨_, rfl, ?_⟩
      refine ⟨q, _, _, 0, 0, rfl, rfl, rfl, List.mem_cons_self .., ?_, ?_⟩
      · rw [List.length_map, sst_len]
        unfold ixN
        rw [if_pos (by decide), if_pos (by omega)]
        rfl
      · rw [oset_cons_self (hq' n'), sst_set0]
        exact step2 true _ l (fun _ => hl) n' hn'
    by_cases cj : (1 : Int) < 1 + (j : Int)
    · rw [decide_eq_true cj]
      exact iteT (iteT (store0 _ (fun _ => by omega) _ (by omega)))
    · rw [decide_eq_false cj]
      refine iteF ⟨_, rfl, _, rfl, ?_⟩
      cases hlst : decide (b = 0) with
      | true => exact iteF (step2 false _ _ (fun e => nomatch e) _ (by omega))
      | false => exact iteT (store0 false (fun e => nomatch e) _ (by omega))

end K00
end
section
set_option maxRecDepth 100000
set_option maxHeartbeats 4000000
namespace K00
open PySem PySem.Spec PyProof.Rows L2 DL
theorem sp__law_bl_is_size {A : Ad} : ∀ T bs O R RX, F__law_bl_is_size A T bs O R RX → b__law_bl_is_size A T (ends0 R RX) (startR N__law_bl_is_size bs) O := by
  rintro T bs O R RX ⟨d, rfl, hp, h⟩
  refine ⟨_, rfl, d, rfl, hp, _, rfl, fun c => ?_, fun c => ?_⟩
  · cases d <;> first | exact Bool.noConfusion c | skip
    exact chain_le (fun K k => ⟨rfl, k⟩) (fun K k => ⟨_, rfl, k⟩) (fun K k => ⟨rfl, k⟩) (fin_same h)
  · cases d <;> first | exact hp.elim | exact Bool.noConfusion c | exact fin_same h
theorem cut_tail (xs : List D) : DL.cutD xs (some 1) none = xs.drop 1 := by
  unfold DL.cutD
  show (xs.drop (min 1 xs.length)).take (xs.length - min 1 xs.length) = _
  cases xs with
  | nil => rfl
  | cons x xs =>
    have e : min 1 (x :: xs).length = 1 := by simp
    rw [e]
    simp
def falls (b : B) : Option D := match b with
  | .d (.tup [.int a, .int c]) => if a ≥ c then some (.int 1) else none
  | _ => none
theorem falls_asc : ∀ ns : List Int, ((zipD (ns.map D.int) ((ns.map D.int).drop 1)).filterMap falls).isEmpty = asc ns
  | [] => rfl
  | [a] => rfl
  | a :: b :: r => by
    have ih := falls_asc (b :: r)
    rw [asc_cons, ← ih]
    show (((B.d (.tup [.int a, .int b])) :: zipD ((b :: r).map D.int) (((b :: r).map D.int).drop 1)).filterMap falls).isEmpty = _
    rw [List.filterMap_cons]
    by_cases c : a < b
    · have : falls (.d (.tup [.int a, .int b])) = none := if_neg (by omega)
      rw [this, decide_eq_true c, Bool.true_and]
    · have : falls (.d (.tup [.int a, .int b])) = some (.int 1) := if_pos (by omega)
      rw [this, decide_eq_false c]
      rfl
theorem falls_ones (bs : List B) : ∃ k : Nat, bs.filterMap falls = (List.replicate k 1).map D.int := by
  induction bs with
  | nil => exact ⟨0, rfl⟩
  | cons b bs ih =>
    obtain ⟨k, e⟩ := ih
    rw [List.filterMap_cons]
    cases h : falls b with
    | none => exact ⟨k, e⟩
    | some d =>
      refine ⟨k + 1, ?_⟩
      have : d = .int 1 := by
        unfold falls at h
        split at h
        · split at h
          · exact (Option.some.inj h).symm
          · cases h
        · cases h
      subst this
      rw [List.replicate_succ, List.map_cons, ← e]
theorem shaped_il (ns : List Int) : SeqAt.shaped (.list (ns.map PyData.int)) = true := shaped_ints ns
/-- a list of ones == [] -/
theorem ones_eq {T : Tb} {O : Ow} {R : DK} {acc : List D} (k : ∃ k : Nat, acc = (List.replicate k 1).map D.int) (h : R (.d (.bl acc.isEmpty)) O) : fEq (.d (.lst acc)) (.d (.lst [])) O R := by
  obtain ⟨k, rfl⟩ := k
  refine .inr ⟨.list ((List.replicate k 1).map PyData.int), .list [], by simp only [pyB, dpy, dpys_int]; rfl, rfl, shaped_il _, rfl, ?_⟩
  rw [eqv_nil]
  cases k <;> exact h
theorem ones_ne {T : Tb} {O : Ow} {R : DK} {acc : List D} (k : ∃ k : Nat, acc = (List.replicate k 1).map D.int) (h : R (.d (.bl (!acc.isEmpty))) O) : fNe (.d (.lst acc)) (.d (.lst [])) O R := by
  obtain ⟨k, rfl⟩ := k
  refine .inr ⟨.list ((List.replicate k 1).map PyData.int), .list [], by simp only [pyB, dpy, dpys_int]; rfl, rfl, shaped_il _, rfl, ?_⟩
  rw [eqv_nil]
  cases k <;> exact h
theorem sp__law_bl_rises {A : Ad} : ∀ T bs O R RX, F__law_bl_rises A T bs O R RX → b__law_bl_rises A T (ends0 R RX) (startR N__law_bl_rises bs) O := by
  rintro T bs O R RX ⟨d, ns, rfl, hs, hi, h⟩
  have key : ns.length ≤ sizeLine → ∀ Dl, (∀ q ∈ O, q.1 ≠ Dl) → lcGo (lcStep (dgTup 2 (dgCons (dName 1) (dgCons (dName 2) dgNil))) (dB (dOp fGe (dVar 1) (dVar 2))) (dC (.d (.int 1))) (wipeR (startR N__law_bl_rises [.d d]) [1, 2])) yesP Dl (zipD (ns.map D.int) ((ns.map D.int).drop 1)) [] ((Dl, .lst []) :: O)
      (fun x O1 => (0 : Nat) ≤ sizeLine ∧ fEq x (.d (.lst [])) O1 fun b O1 => ∃ b' O', DL.Fin b O1 b' O' ∧ (ends0 R RX).rt b' O') := fun z Dl hD => by
    refine lc_pure (f := falls) hD (fun _ _ => trivial) (fun b hb O' K hO hK => ?_) (by rw [zipD_len]; simp only [List.length_nil, List.length_map, List.length_drop]; omega) ?_
    · obtain ⟨i, hi⟩ := List.mem_iff_getElem?.mp hb
      obtain ⟨x, y, hx, hy, rfl⟩ := zipD_get hi
      rw [List.getElem?_drop, List.getElem?_map] at hy
      rw [List.getElem?_map] at hx
      obtain ⟨a, _, rfl⟩ := Option.map_eq_some_iff.mp hx
      obtain ⟨c, _, rfl⟩ := Option.map_eq_some_iff.mp hy
      refine ⟨_, rfl, rfl, _, _, rfl, _, _, rfl, rfl, _, rfl, _, rfl, _, rfl, ?_⟩
      by_cases g : c ≤ a
      · rw [decide_eq_true g]
        have e : falls (.d (.tup [.int a, .int c])) = some (.int 1) := if_pos g
        rw [e] at hK
        exact iteT ⟨_, rfl, hK⟩
      · rw [decide_eq_false g]
        have e : falls (.d (.tup [.int a, .int c])) = none := if_neg g
        rw [e] at hK
        exact iteF hK
    · rw [List.nil_append]
      refine ⟨Nat.zero_le _, ones_eq (T := T) (falls_ones _) ?_⟩
      rw [falls_asc]
      exact fin_same h
  cases d <;> first | (simp [isSeq] at hs) | skip
  · rename_i xs
    have e : xs = ns.map D.int := hi
    subst e
    refine ⟨_, rfl, _, rfl, 1, rfl, _, _, rfl, fun z => fun _ => ⟨rfl, ?_⟩⟩
    rw [cut_tail]
    exact key (by simpa using z)
  · rename_i xs
    have e : xs = ns.map D.int := hi
    subst e
    refine ⟨_, rfl, _, rfl, 1, rfl, _, rfl, _, _, rfl, fun z => fun _ => ⟨rfl, ?_⟩⟩
    rw [cut_tail]
    exact key (by simpa using z)
def badIt (b : B) : Option D := match b with
  | .d x => if isSize x = true then none else some (.int 1)
  | _ => none
theorem bad_all : ∀ xs : List D, ((xs.map B.d).filterMap badIt).isEmpty = xs.all isSize
  | [] => rfl
  | x :: xs => by
    rw [List.map_cons, List.filterMap_cons, List.all_cons, ← bad_all xs]
    cases h : isSize x with
    | true =>
      have : badIt (.d x) = none := if_pos h
      rw [this, Bool.true_and]
    | false =>
      have : badIt (.d x) = some (.int 1) := if_neg (by rw [h]; decide)
      rw [this]
      rfl
theorem bad_ones (xs : List D) : ∃ k : Nat, (xs.map B.d).filterMap badIt = (List.replicate k 1).map D.int := by
  induction xs with
  | nil => exact ⟨0, rfl⟩
  | cons x xs ih =>
    obtain ⟨k, e⟩ := ih
    rw [List.map_cons, List.filterMap_cons]
    cases h : isSize x with
    | true =>
      have : badIt (.d x) = none := if_pos h
      rw [this]
      exact ⟨k, e⟩
    | false =>
      have : badIt (.d x) = some (.int 1) := if_neg (by rw [h]; decide)
      rw [this]
      exact ⟨k + 1, by rw [List.replicate_succ, List.map_cons, ← e]⟩
theorem mid_get {xs : List D} {i : Nat} {x : D} (h0 : 0 < i) (h1 : i + 1 < xs.length) (h : xs[i]? = some x) : x ∈ mid xs := by
  unfold mid DL.cutD
  have e1 : HT.sIx xs.length 0 (some 1) = 1 := by
    show min 1 xs.length = 1
    omega
  have e2 : HT.sIx xs.length xs.length (some (-1)) = xs.length - 1 := by
    show (-1 + (xs.length : Int)).toNat = _
    omega
  rw [e1, e2]
  refine List.mem_iff_getElem?.mpr ⟨i - 1, ?_⟩
  rw [List.getElem?_take, if_pos (by omega), List.getElem?_drop]
  rw [show 1 + (i - 1) = i from by omega]
  exact h
theorem mid_of {xs : List D} {x : D} (h : x ∈ mid xs) : ∃ i, 0 < i ∧ i + 1 < xs.length ∧ xs[i]? = some x := by
  unfold mid DL.cutD at h
  obtain ⟨j, hj⟩ := List.mem_iff_getElem?.mp h
  rw [List.getElem?_take] at hj
  split at hj
  · rename_i hlt
    rw [List.getElem?_drop] at hj
    have hl := (List.getElem?_eq_some_iff.mp hj).1
    have e1 : HT.sIx xs.length 0 (some 1) = 1 := by
      show min 1 xs.length = 1
      omega
    have e2 : HT.sIx xs.length xs.length (some (-1)) = xs.length - 1 := by
      show (-1 + (xs.length : Int)).toNat = _
      omega
    rw [e1, e2] at hlt
    rw [e1] at hj
    exact ⟨1 + j, by omega, by omega, hj⟩
  · cases hj
/-- what the law asks of one slope -/
def okAt (np i : Nat) (x : D) : Bool := isSize x || (isNonD x && !(decide (0 < i) && decide (i < np)))
theorem ok_all {xs : List D} {np : Nat} (hl : xs.length = np + 1) (h : ∀ i x, xs[i]? = some x → okAt np i x = true) : (mid xs).all isSize = true ∧ xs.all (fun x => isNonD x || isSize x) = true := by
  constructor
  · rw [List.all_eq_true]
    intro x hx
    obtain ⟨i, h0, h1, e⟩ := mid_of hx
    have z := h i x e
    unfold okAt at z
    rw [decide_eq_true h0, decide_eq_true (by omega : i < np)] at z
    simpa using z
  · rw [List.all_eq_true]
    intro x hx
    obtain ⟨i, e⟩ := List.mem_iff_getElem?.mp hx
    have z := h i x e
    unfold okAt at z
    cases hs : isSize x with
    | true => rw [Bool.or_true]
    | false =>
      rw [hs, Bool.false_or, Bool.and_eq_true] at z
      rw [z.1]; rfl
theorem bad_at {xs : List D} {np i : Nat} {x : D} (hl : xs.length = np + 1) (e : xs[i]? = some x) (hb : okAt np i x = false) : ((mid xs).all isSize && xs.all (fun x => isNonD x || isSize x)) = false := by
  unfold okAt at hb
  rw [Bool.or_eq_false_iff] at hb
  obtain ⟨h1, h2⟩ := hb
  cases hn : isNonD x with
  | false =>
    have : xs.all (fun x => isNonD x || isSize x) = false := by
      rw [List.all_eq_false]
      exact ⟨x, List.mem_iff_getElem?.mpr ⟨i, e⟩, by rw [hn, h1]; decide⟩
    rw [this, Bool.and_false]
  | true =>
    rw [hn, Bool.true_and, Bool.not_eq_false', Bool.and_eq_true, decide_eq_true_iff, decide_eq_true_iff] at h2
    have : (mid xs).all isSize = false := by
      rw [List.all_eq_false]
      exact ⟨x, mid_get h2.1 (by omega) e, by rw [h1]; decide⟩
    rw [this, Bool.false_and]
theorem chain_lt {lo hi i : Int} {O : Ow} {R : DK} {α β γ : DTE} {ρ : Ro} {RX : DX} (ha : ∀ K, K (.d (.int lo)) O → α ρ O K RX) (hb : ∀ K, K (.d (.int i)) O → β ρ O K RX) (hc : ∀ K, K (.d (.int hi)) O → γ ρ O K RX)
    (h : R (.d (.bl (decide (lo < i) && decide (i < hi)))) O) : dChain fLt fLt α β γ ρ O R RX := by
  refine ha _ (hb _ ⟨_, rfl, fun c => hc _ ?_, fun c => ?_⟩)
  · rw [c, Bool.true_and] at h; exact h
  · rw [c, Bool.false_and] at h; exact h
theorem len_data {T : Tb} {O : Ow} {d : D} {R : DK} (hs : isSeq d = true) (k : R (.d (.int (items d).length)) O) : gLen T [.d d] O R := look_len (.inl rfl) hs fun _ => k
theorem iter_data {T : Tb} {O : Ow} {d : D} {k : List B → (Ow → Prop) → Ow → Prop} (hs : isSeq d = true) (h : (items d).length ≤ sizeLine → k ((items d).map B.d) yesP O) : fIter T (.d d) O k := by
  cases d <;> first | exact h | (simp [isSeq] at hs)
theorem seqOf {d : D} (hp : plain d) : qListTuple (kd d) = some (isSeq d) := by cases d <;> first | exact hp.elim | rfl
theorem sp__law_bl_wrong {A : Ad} : ∀ T bs O R RX, F__law_bl_wrong A T bs O R RX → b__law_bl_wrong A T (ends0 R RX) (startR N__law_bl_wrong bs) O := by
  rintro T bs O R RX ⟨p, s, v, rfl, hp, hpi, hs, hsi, hv, h⟩
  have ksz : sizeLine = 16777216 := sizeLine_eq
  have wP : ptsR p = false → R (.d (.str "points")) O := fun e => by
    unfold wrongL at h
    rw [if_pos e] at h
    exact h
  refine ⟨_, rfl, kd p, isSeq p, .inl ⟨p, rfl, rfl⟩, seqOf hp, _, rfl, ?_⟩
  cases ep : isSeq p with
  | false =>
    refine iteT (iteT (fin_same (wP ?_)))
    unfold ptsR
    rw [ep]; rfl
  | true =>
  refine iteF ?_
  refine chain_le (lo := 1) (hi := 200) (fun K k => k) (fun K k => ⟨_, rfl, len_data ep k⟩) (fun K k => k) ⟨_, rfl, ?_⟩
  have e1 : (decide ((1 : Int) ≤ ((items p).length : Int)) && decide (((items p).length : Int) ≤ 200)) = (decide (1 ≤ (items p).length) && decide ((items p).length ≤ 200)) := by
    congr 1 <;> (apply decide_eq_decide.mpr; omega)
  rw [e1]
  cases eb : (decide (1 ≤ (items p).length) && decide ((items p).length ≤ 200)) with
  | false =>
    refine iteT (iteT (fin_same (wP ?_)))
    unfold ptsR
    rw [ep, Bool.true_and, eb]; rfl
  | true =>
  refine iteF ⟨_, rfl, iter_data ep fun z Dl hD => ?_⟩
  refine lc_pure (f := badIt) hD (fun _ _ => trivial) (fun x hx O' K hO hK => ?_) (by rw [List.length_map]; simpa using z) ?_
  · obtain ⟨y, hy, rfl⟩ := List.mem_map.mp hx
    refine ⟨_, rfl, y, rfl, hpi y hy, _, rfl, ?_⟩
    cases hy2 : isSize y with
    | true =>
      have : badIt (.d y) = none := if_pos hy2
      rw [this] at hK
      exact iteF hK
    | false =>
      have : badIt (.d y) = some (.int 1) := if_neg (by rw [hy2]; decide)
      rw [this] at hK
      exact iteT ⟨_, rfl, hK⟩
  rw [List.nil_append]
  refine ⟨Nat.zero_le _, ones_ne (T := T) (bad_ones _) ⟨_, rfl, ?_⟩⟩
  rw [bad_all]
  cases ea : (items p).all isSize with
  | false =>
    refine iteT (iteT (fin_same (wP ?_)))
    unfold ptsR
    rw [ep, Bool.true_and, eb, Bool.true_and, ea]; rfl
  | true =>
  refine iteF ⟨_, rfl, p, nums (items p), rfl, ep, size_num ea, _, rfl, ?_⟩
  cases ec : asc (nums (items p)) with
  | false =>
    refine iteT (fin_same (wP ?_))
    unfold ptsR
    rw [ep, Bool.true_and, eb, Bool.true_and, ea, Bool.true_and, ec]
  | true =>
  have ePt : ptsR p = true := by
    unfold ptsR
    rw [ep, Bool.true_and, eb, Bool.true_and, ea, Bool.true_and, ec]
  have nPt : ¬ (ptsR p = false) := by rw [ePt]; decide
  have wS : slpR ((items p).length : Int) s = false → R (.d (.str "slopes")) O := fun e => by
    unfold wrongL at h
    rw [if_neg nPt, if_pos e] at h
    exact h
  refine iteF ?_
  refine ⟨_, rfl, kd s, isSeq s, .inl ⟨s, rfl, rfl⟩, seqOf hs, _, rfl, ?_⟩
  cases es : isSeq s with
  | false =>
    refine iteT (iteT (fin_same (wS ?_)))
    unfold slpR
    rw [es]; rfl
  | true =>
  refine iteF ⟨_, rfl, len_data es ⟨_, rfl, len_data ep ?_⟩⟩
  refine .inl ⟨_, _, _, rfl, rfl, rfl, _, rfl, ?_⟩
  rw [neS]
  cases el : decide (((items s).length : Int) = ((items p).length : Int) + 1) with
  | false =>
    refine iteT (fin_same (wS ?_))
    unfold slpR
    rw [es, Bool.true_and, el]; rfl
  | true =>
  have hl : (items s).length = (items p).length + 1 := by
    have := of_decide_eq_true el
    omega
  refine iteF ?_
  -- the slopes one by one
  have enum : ∀ k : Bool → List D → Ow → Prop, (∀ c, k c (items s) O) → fSeq (.d s) O k := fun k hk => by
    cases s <;> first | exact fun _ => hk _ | (simp [isSeq] at es)
  refine ⟨_, rfl, enum _ fun _ => ?_⟩
  refine ⟨fun i ρ O' => O' = O ∧ i ≤ (items s).length ∧ (∀ j x, j < i → (items s)[j]? = some x → okAt (items p).length j x = true) ∧ ∃ y3 y4 y5, ρ = [some (.d p), some (.d s), some (.d v), y3, y4, y5], ⟨rfl, Nat.zero_le _, fun j x hj => absurd hj (Nat.not_lt_zero _), none, none, none, rfl⟩, fun _ _ _ _ => trivial, ?_, ?_⟩
  · rintro i b ρ O' hb ⟨rfl, hi, hok, y3, y4, y5, rfl⟩
    obtain ⟨x, hx, rfl⟩ := enumD_get hb
    have hilt := (List.getElem?_eq_some_iff.mp hx).1
    have hxm : x ∈ items s := List.mem_iff_getElem?.mpr ⟨i, hx⟩
    refine ⟨_, rfl, rfl, _, _, rfl, _, _, rfl, rfl, ?_⟩
    refine ⟨_, rfl, x, rfl, hsi x hxm, _, rfl, ?_⟩
    have next : okAt (items p).length i x = true → ∀ y3 y4, (O' = O' ∧ i + 1 ≤ (items s).length ∧ (∀ j x, j < i + 1 → (items s)[j]? = some x → okAt (items p).length j x = true) ∧ ∃ z3 z4 z5, [some (B.d p), some (.d s), some (.d v), y3, y4, y5] = [some (B.d p), some (.d s), some (.d v), z3, z4, z5]) := fun ho y3 y4 => by
      refine ⟨rfl, hilt, fun j w hj hw => ?_, _, _, _, rfl⟩
      by_cases e : j = i
      · subst e
        rw [hx] at hw; cases hw
        exact ho
      · exact hok j w (by omega) hw
    have stop : okAt (items p).length i x = false → ∃ b' O'', DL.Fin (B.d (.str "slopes")) O' b' O'' ∧ (ends0 R RX).rt b' O'' := fun ho => by
      refine fin_same (wS ?_)
      unfold slpR
      rw [es, Bool.true_and, el, Bool.true_and, bad_at hl hx ho]; rfl
    cases hz : isSize x with
    | true =>
      refine iteF (iteF (next ?_ _ _))
      unfold okAt
      rw [hz]; rfl
    | false =>
      refine iteT ⟨_, rfl, _, rfl, ?_⟩
      rw [isNone_d]
      cases hn : isNonD x with
      | false =>
        refine iteT (iteT (stop ?_))
        unfold okAt
        rw [hz, hn]; rfl
      | true =>
        refine iteF ?_
        refine chain_lt (lo := 0) (i := i) (hi := (items p).length) (fun K k => k) (fun K k => ⟨_, rfl, k⟩) (fun K k => ⟨_, rfl, len_data ep k⟩) ⟨_, rfl, ?_⟩
        have e2 : (decide ((0 : Int) < (i : Int)) && decide ((i : Int) < ((items p).length : Int))) = (decide (0 < i) && decide (i < (items p).length)) := by
          congr 1 <;> (apply decide_eq_decide.mpr; omega)
        rw [e2]
        cases hr : (decide (0 < i) && decide (i < (items p).length)) with
        | true =>
          refine iteT (stop ?_)
          unfold okAt
          rw [hz, hn, hr]; rfl
        | false =>
          refine iteF (next ?_ _ _)
          unfold okAt
          rw [hz, hn, hr]; rfl
  · rintro ρ O' ⟨rfl, hi, hok, y3, y4, y5, rfl⟩
    rw [enumD_len] at hok
    obtain ⟨a1, a2⟩ := ok_all hl fun i x e => hok i x (List.getElem?_eq_some_iff.mp e).1 e
    refine ⟨_, rfl, iter_data es fun z Dl hD => ?_⟩
    refine lc_pure (f := fun b => match b with | .d x => if notNone x = true then some x else none | _ => none) hD (fun _ _ => trivial) (fun x hx O' K hO hK => ?_) (by rw [List.length_map]; simpa using z) ?_
    · obtain ⟨y, hy, rfl⟩ := List.mem_map.mp hx
      refine ⟨_, rfl, _, rfl, ?_⟩
      cases y <;> first | exact iteF hK | exact iteT ⟨_, rfl, _, rfl, hK⟩
    have e3 : ((items s).map B.d).filterMap (fun b => match b with | .d x => if notNone x = true then some x else none | _ => none) = (items s).filter notNone := by
      rw [List.filterMap_map]
      have e : ((fun b => match b with | .d x => if notNone x = true then some x else none | _ => none) ∘ B.d) = fun x => if notNone x = true then some x else none := rfl
      rw [e]
      generalize items s = xs
      induction xs with
      | nil => rfl
      | cons x xs ih =>
        rw [List.filterMap_cons, List.filter_cons]
        by_cases c : notNone x = true
        · rw [if_pos c, if_pos c]; exact congrArg _ ih
        · rw [if_neg c, if_neg c]; exact ih
    rw [List.nil_append, e3]
    have eSl : slpR ((items p).length : Int) s = (decide (1 ≤ ((items s).filter notNone).length) && decide (((items s).filter notNone).length ≤ 200) && asc (nums ((items s).filter notNone))) := by
      unfold slpR
      rw [es, Bool.true_and, el, Bool.true_and, a1, Bool.true_and, a2, Bool.true_and]
    show dSeq (dIfS (dOr (dNot (dB (dChain fLe fLe (dC (.d (.int 1))) (dCB (gLen T) (dCons (dVar 5) dNil)) (dC (.d (.int 200)))))) (dNot (dB (dCall (F__law_bl_rises A) T (dCons (dVar 5) dNil))))) (dRet (dC (.d (.str "slopes")))) dNext) _ _ _ _
    refine chain_le (lo := 1) (hi := 200) (fun K k => k) (fun K k => ⟨_, rfl, fun _ => k⟩) (fun K k => k) ⟨_, rfl, ?_⟩
    have e1 : (decide ((1 : Int) ≤ (((items s).filter notNone).length : Int)) && decide ((((items s).filter notNone).length : Int) ≤ 200)) = (decide (1 ≤ ((items s).filter notNone).length) && decide (((items s).filter notNone).length ≤ 200)) := by
      congr 1 <;> (apply decide_eq_decide.mpr; omega)
    rw [e1]
    cases eb2 : (decide (1 ≤ ((items s).filter notNone).length) && decide (((items s).filter notNone).length ≤ 200)) with
    | false =>
      refine iteT (iteT (fin_same (wS ?_)))
      rw [eSl, eb2, Bool.false_and]
    | true =>
    refine iteF ⟨_, rfl, .lst ((items s).filter notNone), nums ((items s).filter notNone), rfl, rfl, size_num (sizes_nn a2), _, rfl, ?_⟩
    cases ec2 : asc (nums ((items s).filter notNone)) with
    | false =>
      refine iteT (fin_same (wS ?_))
      rw [eSl, eb2, ec2]; rfl
    | true =>
    have nSl : ¬ (slpR ((items p).length : Int) s = false) := by rw [eSl, eb2, ec2]; decide
    unfold wrongL at h
    rw [if_neg nPt, if_neg nSl] at h
    refine iteF ⟨_, rfl, v, rfl, hv, _, rfl, fun c => ?_, fun c => ?_⟩
    · cases v <;> first | exact Bool.noConfusion c | skip
      rename_i i
      refine chain_le (lo := -VL) (hi := VL) (fun K k => ⟨rfl, k⟩) (fun K k => ⟨_, rfl, k⟩) (fun K k => ⟨rfl, k⟩) ⟨_, rfl, ?_⟩
      have eB : isBet (.int i) (-VL) VL = (decide (-VL ≤ i) && decide (i ≤ VL)) := rfl
      rw [eB] at h
      cases g : (decide (-VL ≤ i) && decide (i ≤ VL)) with
      | true =>
        rw [g, if_neg (by decide)] at h
        exact iteT (fin_same h)
      | false =>
        rw [g, if_pos rfl] at h
        exact iteF (fin_same h)
    · have eB : isBet v (-VL) VL = false := by cases v <;> first | rfl | exact Bool.noConfusion c
      rw [if_pos eB] at h
      exact iteF (fin_same h)
theorem dsizes_int : ∀ ns : List Int, dsizes (ns.map D.int) = ns.length
  | [] => rfl
  | n :: ns => by simp only [List.map_cons, dsizes, dsize, dsizes_int ns, List.length_cons]; omega
theorem dsizes_oI : ∀ ns : List (Option Int), dsizes (ns.map oI) = ns.length
  | [] => rfl
  | n :: ns => by
    have e : dsize (oI n) = 1 := by cases n <;> rfl
    simp only [List.map_cons, dsizes, e, dsizes_oI ns, List.length_cons]; omega
theorem sp__law_bl_is {A : Ad} : ∀ T bs O R RX, F__law_bl_is A T bs O R RX → b__law_bl_is A T (ends0 R RX) (startR N__law_bl_is bs) O := by
  rintro T bs O R RX ⟨ps, ss, v, rfl, hp, hs, h⟩
  refine ⟨_, rfl, A.Line, _, _, rfl, List.mem_cons_self .., _, _, _, rfl, ?_⟩
  refine ⟨_, rfl, A.Line, _, _, rfl, List.mem_cons_self .., _, _, _, rfl, ?_⟩
  refine ⟨_, rfl, A.Line, _, _, rfl, List.mem_cons_self .., _, _, _, rfl, ?_⟩
  refine ⟨by show 3 ≤ sizeLine; rw [sizeLine_eq]; decide, _, rfl, _, rfl, ?_, ?_, fin_same h⟩
  · refine .inr ⟨_, .inl rfl, fun x hx => ?_⟩
    simp only [List.mem_cons, List.not_mem_nil, or_false] at hx
    rcases hx with rfl | rfl | rfl
    · exact .inr ⟨_, .inl rfl, fun x hx => by
        obtain ⟨i, _, rfl⟩ := List.mem_map.mp hx
        exact .inl (.inr ⟨i, rfl⟩)⟩
    · exact .inr ⟨_, .inl rfl, fun x hx => by
        obtain ⟨i, _, rfl⟩ := List.mem_map.mp hx
        cases i
        · exact .inl (.inl rfl)
        · exact .inl (.inr ⟨_, rfl⟩)⟩
    · exact .inl (.inr ⟨v, rfl⟩)
  · simp only [dsize, dsizes, dsizes_int, dsizes_oI]
    omega

end K00
end
section
set_option maxRecDepth 100000
set_option maxHeartbeats 4000000
namespace K00
open PySem PySem.Spec PyProof.Rows L2 DL
theorem nums_map : ∀ ps : List Int, nums (ps.map D.int) = ps
  | [] => rfl
  | x :: ps => by show x :: nums (ps.map D.int) = _; rw [nums_map ps]
theorem told_map : ∀ ss : List (Option Int), (ss.map oI).filter notNone = (ss.filterMap id).map D.int
  | [] => rfl
  | x :: ss => by
    cases x with
    | none =>
      show (D.non :: ss.map oI).filter notNone = _
      rw [List.filter_cons, if_neg (by decide), told_map ss]
      rfl
    | some i =>
      show (D.int i :: ss.map oI).filter notNone = _
      rw [List.filter_cons, if_pos (by rfl), told_map ss]
      rfl
theorem size_int (x : Int) (h : -SZ ≤ x ∧ x ≤ SZ) : isSize (.int x) = true := by
  show (decide (-SZ ≤ x) && decide (x ≤ SZ)) = true
  rw [decide_eq_true h.1, decide_eq_true h.2]; rfl
theorem v_ok {ps : List Int} {ss : List (Option Int)} {v : Int} (V : VLine ps ss v) {p s : D} (hp : isSeq p = true) (ip : items p = ps.map D.int) (hs : isSeq s = true) (is_ : items s = ss.map oI) : wrongL p s (.int v) = none := by
  have h1 : ptsR p = true := by
    unfold ptsR
    rw [hp, ip, nums_map, V.pa, List.length_map, decide_eq_true V.p1, decide_eq_true V.p6]
    simp only [Bool.true_and, Bool.and_true, List.all_eq_true]
    intro x hx
    obtain ⟨i, hi, rfl⟩ := List.mem_map.mp hx
    exact size_int i (V.pz i hi)
  have hall : ∀ x ∈ ss.map oI, isNonD x = true ∨ isSize x = true := fun x hx => by
    obtain ⟨i, hi, rfl⟩ := List.mem_map.mp hx
    cases i with
    | none => exact .inl rfl
    | some i => exact .inr (size_int i (V.sz i hi))
  have h2 : slpR ((items p).length : Int) s = true := by
    unfold slpR
    rw [hs, is_, told_map, nums_map, V.sa, List.length_map, List.length_map, decide_eq_true V.s1, decide_eq_true V.s2, ip, List.length_map]
    have e : decide (((ss.length : Nat) : Int) = (ps.length : Int) + 1) = true := decide_eq_true (by have := V.sl; omega)
    rw [e]
    simp only [Bool.true_and, Bool.and_true, Bool.and_eq_true, List.all_eq_true]
    refine ⟨fun x hx => ?_, fun x hx => by
      rcases hall x hx with h | h
      · rw [h]; rfl
      · rw [h, Bool.or_true]⟩
    obtain ⟨i, i0, i1, e⟩ := mid_of hx
    rw [List.length_map] at i1
    rw [List.getElem?_map] at e
    obtain ⟨y, hy, rfl⟩ := Option.map_eq_some_iff.mp e
    cases y with
    | none => exact absurd hy (V.sm i i0 (by have := V.sl; omega))
    | some y => exact size_int y (V.sz y (List.mem_iff_getElem?.mpr ⟨i, hy⟩))
  have h3 : isBet (.int v) (-VL) VL = true := by
    show (decide (-VL ≤ v) && decide (v ≤ VL)) = true
    rw [decide_eq_true V.vz.1, decide_eq_true V.vz.2]; rfl
  unfold wrongL
  rw [h1, h2, h3]
  rfl
theorem Parts.v {ps : List Int} {ss : List (Option Int)} {v : Int} (P : Parts ps ss v) : VLine ps ss v := by
  have h := P.p6
  have hl := P.sl
  have ht : (ss.filterMap id).length ≤ ss.length := List.length_filterMap_le _ _
  refine ⟨P.p1, by omega, P.pa, fun x hx => ?_, P.sl, P.sm, fun x hx => ?_, P.sa, P.s1, by omega, ?_⟩
  · have := P.pz x hx
    have : (8 * 10 ^ 29 : Int) ≤ SZ := by decide
    omega
  · have := P.sz x hx
    have : (8 * 10 ^ 29 : Int) ≤ SZ := by decide
    omega
  · have := P.vz
    have : (10 ^ 29 : Int) ≤ VL := by decide
    omega
theorem plain_seq {d : D} (h : isSeq d = true) : plain d := by cases d <;> first | trivial | (simp [isSeq] at h)
theorem plain_ints {d : D} {ps : List Int} (h : items d = ps.map D.int) : ∀ x ∈ items d, plain x := fun x hx => by
  rw [h] at hx
  obtain ⟨i, _, rfl⟩ := List.mem_map.mp hx
  trivial
theorem plain_oIs {d : D} {ss : List (Option Int)} (h : items d = ss.map oI) : ∀ x ∈ items d, plain x := fun x hx => by
  rw [h] at hx
  obtain ⟨i, _, rfl⟩ := List.mem_map.mp hx
  cases i <;> trivial
/-- a line is made -/
theorem mk_line {A : Ad} {T : Tb} {b c : B} {O : Ow} {R : DK} {RX : DX} {p s : D} {ps : List Int} {ss : List (Option Int)} {v : Int} (V : VLine ps ss v) (hb : look b O p) (hc : look c O s) (hp : isSeq p = true) (ip : items p = ps.map D.int) (hs : isSeq s = true) (is_ : items s = ss.map oI)
    (h : R (.d (lineD A (ps.map D.int) (ss.map oI) (.int v))) O) : mkG A.Line (F_Line___init__ A) T [b, c, .d (.int v)] O R RX := by
  intro q hq
  have ne : ∀ {e : B} {d : D}, look e O d → ∀ a, e = .v (.ref a) → a ≠ q := fun {e d} hl a ea => by
    rcases hl with rfl | ⟨a', xs, rfl, m, _⟩
    · cases ea
    · cases ea
      exact hq _ m
  have up : ∀ {e : B} {d : D}, look e O d → look e ((q, OD.ins A.Line [] []) :: O) d := fun {e d} hl => look_up hl fun r hr => List.mem_cons_of_mem _ hr
  refine ⟨q, b, c, p, s, .int v, rfl, List.mem_cons_self .., up hb, plain_seq hp, plain_ints ip, up hc, plain_seq hs, plain_oIs is_, trivial, ne hb, ne hc, fun _ => ⟨rfl, .inr ⟨A.Line, ptsN, [.tup (items p), .tup (items s), .int v], ?_, ?_⟩⟩, fun w hw => ?_⟩
  · rw [oset_cons_self hq]
    exact List.mem_cons_self ..
  · rw [oset_cons_self hq, odel_cons_self hq]
    refine ⟨_, rfl, ?_⟩
    rw [ip, is_]
    exact h
  · rw [v_ok V hp ip hs is_] at hw
    cases hw
/-- == of two lines -/
theorem eq_line {A : Ad} {T : Tb} {O : Ow} {R : DK} {ps ps' : List Int} {ss ss' : List (Option Int)} {v v' : Int} {k : Bool} (e : decide (ps = ps' ∧ ss = ss' ∧ v = v') = k) (h : R (.d (.bl k)) O) :
    (fun x y O R => fEq x y O R ∨ eqOwnG A.Line (qLine A) (F_Line___eq__ A) T x y O R) (.d (lineD A (ps.map D.int) (ss.map oI) (.int v))) (.d (lineD A (ps'.map D.int) (ss'.map oI) (.int v'))) O R := by
  subst e
  exact .inr ⟨_, _, .ins A.Line, true, rfl, .inl ⟨_, rfl, rfl⟩, if_pos rfl, fun _ => rfl, ps, ss, v, _, rfl, .inl ⟨ps', ss', v', rfl, _, rfl, h⟩⟩
theorem eq_other {A : Ad} {T : Tb} {O : Ow} {R : DK} {ps : List Int} {ss : List (Option Int)} {v : Int} {o : D} (hp : plain o) (h : R (.d (.bl false)) O) :
    (fun x y O R => fEq x y O R ∨ eqOwnG A.Line (qLine A) (F_Line___eq__ A) T x y O R) (.d (lineD A (ps.map D.int) (ss.map oI) (.int v))) (.d o) O R := by
  refine .inr ⟨_, _, kd o, false, rfl, .inl ⟨_, rfl, rfl⟩, ?_, (fun e => Bool.noConfusion e), ps, ss, v, _, rfl, .inr ⟨hp, _, rfl, h⟩⟩
  cases o <;> first | exact hp.elim | rfl
theorem last_int {ps : List Int} (h : 1 ≤ ps.length) : ∃ l, atI (ps.map D.int) (-1) = some (.int l) ∧ ps = ps.dropLast ++ [l] := by
  rcases List.eq_nil_or_concat ps with e | ⟨us, l, e⟩
  · rw [e] at h; simp at h
  · refine ⟨l, ?_, ?_⟩
    · rw [e]
      simp only [List.concat_eq_append, List.map_append, List.map_cons, List.map_nil]
      exact atI_last _ _
    · rw [e]; simp
theorem last_oI {ss : List (Option Int)} (h : 1 ≤ ss.length) : ∃ l, atI (ss.map oI) (-1) = some (oI l) ∧ ss = ss.dropLast ++ [l] := by
  rcases List.eq_nil_or_concat ss with e | ⟨us, l, e⟩
  · rw [e] at h; simp at h
  · refine ⟨l, ?_, ?_⟩
    · rw [e]
      simp only [List.concat_eq_append, List.map_append, List.map_cons, List.map_nil]
      exact atI_last _ _
    · rw [e]; simp
theorem cut_init (xs : List D) : DL.cutD xs none (some (-1)) = xs.dropLast := by
  unfold DL.cutD
  show (xs.drop 0).take ((-1 + (xs.length : Int)).toNat - 0) = _
  rw [List.drop_zero, List.dropLast_eq_take]
  congr 1
  omega
theorem asc_up : ∀ (xs : List Int) (a b : Int), asc (xs ++ [a]) = true → a < b → asc (xs ++ [b]) = true
  | [], a, b, _, _ => rfl
  | [x], a, b, h, hab => by
    have h' : (decide (x < a) && asc [a]) = true := h
    rw [Bool.and_eq_true] at h'
    have := of_decide_eq_true h'.1
    show (decide (x < b) && asc [b]) = true
    rw [decide_eq_true (by omega)]; rfl
  | x :: y :: r, a, b, h, hab => by
    have h' : (decide (x < y) && asc (y :: r ++ [a])) = true := h
    rw [Bool.and_eq_true] at h'
    show (decide (x < y) && asc (y :: r ++ [b])) = true
    rw [h'.1, asc_up (y :: r) a b h'.2 hab]; rfl
/-- another line -/
def Other (ps : List Int) (ss : List (Option Int)) (v : Int) (d : D) : Prop := ∃ ps' ss' v', d = partsD ps' ss' v' ∧ VLine ps' ss' v' ∧ ¬ (ps = ps' ∧ ss = ss' ∧ v = v')
theorem oth_v {ps : List Int} {ss : List (Option Int)} {v : Int} (P : Parts ps ss v) : Other ps ss v (partsD ps ss (if v < 0 then v + 1 else v - 1)) := by
  refine ⟨_, _, _, rfl, { P.v with vz := ?_ }, fun e => ?_⟩
  · have := P.vz
    have : (10 ^ 29 : Int) + 1 ≤ VL := by decide
    split <;> omega
  · have := e.2.2
    split at this <;> omega
theorem oth_p {us : List Int} {l : Int} {ss : List (Option Int)} {v : Int} (P : Parts (us ++ [l]) ss v) : Other (us ++ [l]) ss v (partsD (us ++ [l + 1]) ss v) := by
  have V := P.v
  refine ⟨_, _, _, rfl, { V with p1 := by simp, p6 := ?_, pa := asc_up _ _ _ V.pa (by omega), pz := fun x hx => ?_, sl := ?_, sm := fun i i0 i1 => V.sm i i0 (by simpa using i1) }, fun e => ?_⟩
  · have := V.p6; simp at this ⊢; exact this
  · rcases List.mem_append.mp hx with h | h
    · exact V.pz x (List.mem_append_left _ h)
    · rw [List.mem_singleton] at h
      subst h
      have := P.pz l (List.mem_append_right _ (List.mem_singleton_self _))
      have : (8 * 10 ^ 29 : Int) + 1 ≤ SZ := by decide
      omega
  · have := V.sl; simp at this ⊢; exact this
  · have := List.append_cancel_left e.1
    simp at this
    omega
theorem fm_some : ∀ ms : List Int, (ms.map some).filterMap id = ms
  | [] => rfl
  | x :: ms => by simp [fm_some ms]

theorem told_app (us : List (Option Int)) (o : Option Int) : (us ++ [o]).filterMap id = us.filterMap id ++ o.toList := by
  rw [List.filterMap_append]
  cases o <;> rfl
theorem oth_l {ps : List Int} {us r : List (Option Int)} {l x0 v : Int} (P : Parts ps (us ++ [some l]) v) (h0 : us = some x0 :: r) : Other ps (us ++ [some l]) v (partsD ps (us ++ [none]) v) := by
  have V := P.v
  have hl := V.sl
  simp at hl
  have ht := V.sa
  rw [told_app] at ht
  have hn := V.s2
  rw [told_app] at hn
  simp at hn
  refine ⟨_, _, _, rfl, { V with sl := by simp; exact hl, sm := fun i i0 i1 => ?_, sz := fun x hx => ?_, sa := ?_, s1 := ?_, s2 := ?_ }, fun e => ?_⟩
  · have := V.sm i i0 i1
    rw [List.getElem?_append_left (by omega)] at this ⊢
    exact this
  · rcases List.mem_append.mp hx with h | h
    · exact V.sz x (List.mem_append_left _ h)
    · simp at h
  · rw [told_app]
    simp only [Option.toList, List.append_nil]
    exact asc_left _ _ ht
  · rw [told_app, h0]
    simp
  · rw [told_app]
    simp
    omega
  · have := List.append_cancel_left e.2.1
    simp at this
theorem oth_f {ps : List Int} {us : List (Option Int)} {l x0 v : Int} (P : Parts ps (some x0 :: (us ++ [some l])) v) : Other ps (some x0 :: (us ++ [some l])) v (partsD ps (none :: (us ++ [some l])) v) := by
  have V := P.v
  have hn := V.s2
  have ht := V.sa
  have e1 : (some x0 :: (us ++ [some l])).filterMap id = x0 :: (us ++ [some l]).filterMap id := rfl
  have e2 : (none :: (us ++ [some l])).filterMap id = (us ++ [some l]).filterMap id := rfl
  rw [e1] at ht hn
  refine ⟨_, _, _, rfl, { V with sl := by have := V.sl; simp at this ⊢; exact this, sm := fun i i0 i1 => ?_, sz := fun x hx => ?_, sa := ?_, s1 := ?_, s2 := ?_ }, fun e => ?_⟩
  · match i, i0 with
    | i + 1, _ => exact V.sm (i + 1) (by omega) i1
  · rcases List.mem_cons.mp hx with h | h
    · cases h
    · exact V.sz x (List.mem_cons_of_mem _ h)
  · rw [e2]; exact asc_tail _ _ ht
  · rw [e2, told_app]; simp
  · rw [e2]
    simp only [List.length_cons] at hn
    omega
  · have := (List.cons.inj e.2.1).1
    cases this
theorem parts_get {ps : List Int} {ss : List (Option Int)} {v : Int} : ∀ (i : Nat) (d : D), [D.tup (ps.map D.int), D.tup (ss.map oI), D.int v][i]? = some d → atI [D.tup (ps.map D.int), D.tup (ss.map oI), D.int v] (i : Int) = some d := fun i d h => atI_nat h
theorem sp__law_taken {A : Ad} : ∀ T bs O R RX, F__law_taken A T bs O R RX → b__law_taken A T (ends0 R RX) (startR N__law_taken bs) O := by
  rintro T bs O R RX ⟨b0, ps, ss, v, rfl, P, h⟩
  have V := P.v
  have ksz : sizeLine = 16777216 := sizeLine_eq
  have hp6 := P.p6
  have hp1 := P.p1
  have hsl := P.sl
  refine ⟨_, rfl, _, rfl, rfl, _, _, rfl, _, _, rfl, _, _, rfl, rfl, ?_⟩
  refine ⟨_, rfl, ps.map D.int, rfl, fun q1 hq1 => ⟨_, rfl, ss.map oI, rfl, fun q2 hq2 => ⟨_, _, rfl, ?_⟩⟩⟩
  have q21 : q1 ≠ q2 := hq2 _ (List.mem_cons_self ..)
  have q2O : ∀ r ∈ O, r.1 ≠ q2 := fun r hr => hq2 r (List.mem_cons_of_mem _ hr)
  refine ⟨_, rfl, _, rfl, _, rfl, mk_line V (.inr ⟨q1, _, rfl, List.mem_cons_of_mem _ (List.mem_cons_self ..), rfl⟩) (.inr ⟨q2, _, rfl, List.mem_cons_self .., rfl⟩) rfl rfl rfl rfl ?_⟩
  -- given.append(5), more[0] = 77
  refine ⟨_, rfl, ⟨q1, _, rfl, List.mem_cons_of_mem _ (List.mem_cons_self ..)⟩, _, _, rfl, List.mem_cons_of_mem _ (List.mem_cons_self ..), by rw [List.length_map]; omega, ?_⟩
  rw [oset_cons_ne (Ne.symm q21), oset_cons_self hq1]
  refine ⟨_, rfl, q2, _, _, 0, 0, rfl, rfl, rfl, List.mem_cons_self .., ?_, ?_⟩
  · rw [List.length_map]
    unfold ixN
    rw [if_pos (by decide), if_pos (by omega)]
    rfl
  have hq2' : ∀ r ∈ (q1, OD.lst (ps.map D.int ++ [.int 5])) :: O, r.1 ≠ q2 := fun r hr => by
    rcases List.mem_cons.mp hr with e | hr
    · rw [e]; exact q21
    · exact q2O r hr
  rw [oset_cons_self hq2']
  -- the three equalities
  refine ⟨_, rfl, _, rfl, ps, ss, v, rfl, by omega, by omega, _, rfl, ?_⟩
  refine iteF ⟨_, rfl, _, rfl, _, rfl, _, rfl, rfl, mk_line V (.inl rfl) (.inl rfl) rfl rfl rfl rfl ?_⟩
  refine eq_line (k := true) (decide_eq_true ⟨rfl, rfl, rfl⟩) ⟨_, rfl, iteF ?_⟩
  refine ⟨_, rfl, _, rfl, eq_other trivial ⟨_, rfl, iteF ?_⟩⟩
  -- the end: others are all others
  have fin : ∀ (b : B) (O' : Ow) (os : List D) (y9 : Option B), (∀ d ∈ os, Other ps ss v d) → os.length ≤ 10 → (∀ k : List B → (Ow → Prop) → Ow → Prop, (∀ O1, O.Sublist O1 → k (os.map B.d) yesP O1) → fIter T b O' k) →
      s9__law_taken A T (ends0 R RX) [some b0, some (.d (partsD ps ss v)), some (.d (.tup (ps.map D.int))), some (.d (.tup (ss.map oI))), some (.d (.int v)), some (.v (.ref q1)), some (.v (.ref q2)), some (.d (lineD A (ps.map D.int) (ss.map oI) (.int v))), some b, y9] O' := by
    intro b O' os y9 hos hlen hit
    refine ⟨_, rfl, hit _ fun O1 hsub Dl hD => ?_⟩
    refine lc_pure (f := fun _ => none) hD (fun _ _ => trivial) (fun x hx O2 K hO hK => ?_) (by rw [List.length_map]; simp only [List.length_nil]; omega) ?_
    · obtain ⟨d, hd, rfl⟩ := List.mem_map.mp hx
      obtain ⟨ps', ss', v', rfl, V', hne⟩ := hos d hd
      refine ⟨_, rfl, _, rfl, _, _, rfl, parts_get 0 _ rfl, _, rfl, _, _, rfl, parts_get 1 _ rfl, _, rfl, _, _, rfl, parts_get 2 _ rfl, ?_⟩
      exact mk_line V' (.inl rfl) (.inl rfl) rfl rfl rfl rfl (eq_line (k := false) (decide_eq_false hne) ⟨_, rfl, iteF hK⟩)
    · have e : (os.map B.d).filterMap (fun _ => (none : Option D)) = [] := by
        generalize os.map B.d = l
        induction l with
        | nil => rfl
        | cons a l ih => exact ih
      rw [List.nil_append, e]
      refine ⟨Nat.zero_le _, ones_eq (T := T) ⟨0, rfl⟩ ?_⟩
      exact ⟨_, _, .same hsub, h⟩
  have cont : ∀ w, Other ps ss v (partsD ps ss w) → ∀ q3, (∀ r ∈ (q2, OD.lst ((ss.map oI).set 0 (.int 77))) :: (q1, OD.lst (ps.map D.int ++ [.int 5])) :: O, r.1 ≠ q3) →
      s7__law_taken A T (ends0 R RX) [some b0, some (.d (partsD ps ss v)), some (.d (.tup (ps.map D.int))), some (.d (.tup (ss.map oI))), some (.d (.int v)), some (.v (.ref q1)), some (.v (.ref q2)), some (.d (lineD A (ps.map D.int) (ss.map oI) (.int v))), some (.v (.ref q3)), none] ((q3, .lst [partsD ps ss w]) :: (q2, OD.lst ((ss.map oI).set 0 (.int 77))) :: (q1, OD.lst (ps.map D.int ++ [.int 5])) :: O) := by
    intro w hw q3 hq3
    have sub3 : ∀ os : List D, O.Sublist ((q3, OD.lst os) :: (q2, OD.lst ((ss.map oI).set 0 (.int 77))) :: (q1, OD.lst (ps.map D.int ++ [.int 5])) :: O) := fun os => ((List.Sublist.refl _).cons _ |>.cons _).cons _
    have sub2 : O.Sublist ((q2, OD.lst ((ss.map oI).set 0 (.int 77))) :: (q1, OD.lst (ps.map D.int ++ [.int 5])) :: O) := (List.Sublist.refl _).cons _ |>.cons _
    -- behind the first if
    have st8 : ∀ os : List D, (∀ d ∈ os, Other ps ss v d) → os.length ≤ 5 → s8__law_taken A T (ends0 R RX) [some b0, some (.d (partsD ps ss v)), some (.d (.tup (ps.map D.int))), some (.d (.tup (ss.map oI))), some (.d (.int v)), some (.v (.ref q1)), some (.v (.ref q2)), some (.d (lineD A (ps.map D.int) (ss.map oI) (.int v))), some (.v (.ref q3)), none] ((q3, .lst os) :: (q2, OD.lst ((ss.map oI).set 0 (.int 77))) :: (q1, OD.lst (ps.map D.int ++ [.int 5])) :: O) := by
      intro os hos hlen
      have plainEnd := fin (.v (.ref q3)) ((q3, .lst os) :: (q2, OD.lst ((ss.map oI).set 0 (.int 77))) :: (q1, OD.lst (ps.map D.int ++ [.int 5])) :: O) os none hos (by omega) (fun k hk => .inl ⟨os, List.mem_cons_self .., fun _ => by rw [odel_cons_self hq3]; exact hk _ sub2⟩)
      obtain ⟨l, al, el⟩ := last_oI (ss := ss) (by omega)
      refine ⟨_, rfl, _, _, rfl, al, _, rfl, ?_⟩
      rw [isNone_d]
      cases l with
      | none => exact iteF (iteF plainEnd)
      | some l =>
        refine iteT ?_
        obtain ⟨o0, r0, e0⟩ : ∃ o0 r0, ss = o0 :: r0 := by
          cases hss : ss with
          | nil => rw [hss] at hsl; simp at hsl
          | cons a r => exact ⟨a, r, rfl⟩
        refine ⟨_, rfl, ss.map oI, oI o0, rfl, by rw [e0]; exact atI_nat (j := 0) rfl, _, rfl, ?_⟩
        rw [isNone_d]
        cases o0 with
        | none => exact iteF plainEnd
        | some x0 =>
          have hdl : ∃ us, ss = some x0 :: (us ++ [some l]) := by
            rw [e0] at el hsl
            cases r0 with
            | nil => simp only [List.length_cons, List.length_nil] at hsl; omega
            | cons a r =>
              rw [List.dropLast_cons_of_ne_nil (by simp)] at el
              refine ⟨(a :: r).dropLast, ?_⟩
              rw [e0, List.cons_append] at *
              exact el
          obtain ⟨us, eus⟩ := hdl
          subst eus
          refine iteT ?_
          -- others = others + [..]
          have cI : DL.cutD ((some x0 :: (us ++ [some l])).map oI) none (some (-1)) ++ [D.non] = (some x0 :: (us ++ [none])).map oI := by
            rw [cut_init]
            have : ((some x0 :: (us ++ [some l])).map oI) = (some x0 :: us).map oI ++ [.int l] := by simp [oI]
            rw [this, List.dropLast_concat]
            simp [oI]
          have cT : [D.non] ++ DL.cutD ((some x0 :: (us ++ [some l])).map oI) (some 1) none = (none :: (us ++ [some l])).map oI := by
            rw [cut_tail]; rfl
          have lz : ∀ xs : List (Option Int), xs.length = (some x0 :: (us ++ [some l])).length → (xs.map oI).length ≤ sizeLine := fun xs e => by rw [List.length_map, e]; omega
          have l1 : (DL.cutD ((some x0 :: (us ++ [some l])).map oI) none (some (-1))).length + 1 ≤ sizeLine := by
            have := cutD_len ((some x0 :: (us ++ [some l])).map oI) none (some (-1))
            rw [List.length_map] at this
            omega
          have l2 : 1 + (DL.cutD ((some x0 :: (us ++ [some l])).map oI) (some 1) none).length ≤ sizeLine := by
            have := cutD_len ((some x0 :: (us ++ [some l])).map oI) (some 1) none
            rw [List.length_map] at this
            omega
          have o1 := oth_l (us := some x0 :: us) (r := us) (x0 := x0) P rfl
          have o2 := oth_f P
          refine ⟨_, rfl, _, rfl, _, rfl, -1, rfl, one_sz, l1, _, rfl, by show 3 ≤ sizeLine; omega, _, rfl, one_sz, _, rfl, 1, rfl, l2, _, rfl, by show 3 ≤ sizeLine; omega, by show 2 ≤ sizeLine; omega, ?_⟩
          refine ⟨os, _, List.mem_cons_self .., rfl, by show os.length + 2 ≤ sizeLine; omega, .inl ?_⟩
          rw [cI, cT]
          refine fin _ _ (os ++ [partsD ps (some x0 :: (us ++ [none])) v, partsD ps (none :: (us ++ [some l])) v]) none (fun d hd => ?_) (by simp; omega) (fun k hk => fun _ => hk _ (sub3 os))
          rcases List.mem_append.mp hd with h | h
          · exact hos d h
          · simp only [List.mem_cons, List.not_mem_nil, or_false] at h
            rcases h with rfl | rfl
            · exact o1
            · exact o2
    -- the last point
    obtain ⟨l, al, el⟩ := last_int hp1
    refine ⟨_, rfl, _, _, rfl, al, rfl, _, rfl, ?_⟩
    by_cases c : l < SZ
    · rw [decide_eq_true c]
      refine iteT ?_
      have cI : DL.cutD (ps.map D.int) none (some (-1)) ++ [D.int (l + 1)] = (ps.dropLast ++ [l + 1]).map D.int := by
        rw [cut_init]; simp
      have l1 : (DL.cutD (ps.map D.int) none (some (-1))).length + 1 ≤ sizeLine := by
        have := cutD_len (ps.map D.int) none (some (-1))
        rw [List.length_map] at this
        omega
      refine ⟨_, rfl, ⟨q3, _, rfl, List.mem_cons_self ..⟩, _, rfl, -1, rfl, _, rfl, _, _, rfl, al, one_sz, l1, _, rfl, _, rfl, by show 3 ≤ sizeLine; omega, ?_⟩
      rw [cI]
      refine ⟨_, _, rfl, List.mem_cons_self .., by show 1 < sizeLine; omega, ?_⟩
      rw [oset_cons_self hq3]
      refine st8 [partsD ps ss w, partsD (ps.dropLast ++ [l + 1]) ss v] (fun d hd => ?_) (by show 2 ≤ 5; decide)
      simp only [List.mem_cons, List.not_mem_nil, or_false] at hd
      rcases hd with rfl | rfl
      · exact hw
      · have P' := P
        rw [el] at P'
        have z := oth_p P'
        rw [← el] at z
        exact z
    · rw [decide_eq_false c]
      exact iteF (st8 [partsD ps ss w] (fun d hd => by rw [List.mem_singleton.mp hd]; exact hw) (by show 1 ≤ 5; decide))
  have ow := oth_v P
  refine ⟨_, rfl, _, rfl, _, rfl, _, rfl, iteP_intro (fun c => ?_) (fun c => ?_)⟩
  · have c' := of_decide_eq_true c
    rw [if_pos c'] at ow
    exact ⟨_, rfl, by show 3 ≤ sizeLine; omega, by show 1 ≤ sizeLine; omega, fun q3 hq3 => cont (v + 1) ow q3 hq3⟩
  · have c' := of_decide_eq_false c
    rw [if_neg c'] at ow
    exact ⟨_, rfl, by show 3 ≤ sizeLine; omega, by show 1 ≤ sizeLine; omega, fun q3 hq3 => cont (v - 1) ow q3 hq3⟩

end K00
end
section
set_option maxRecDepth 100000
set_option maxHeartbeats 4000000
namespace K00
open PySem PySem.Spec PyProof.Rows L2 DL
theorem tri_seq {p s v : D} (hp : isSeq p = true) (ip : ∀ x ∈ items p, plain x) (hs : isSeq s = true) (is_ : ∀ x ∈ items s, plain x) (hv : plain v) : Tri (.tup [p, s, v]) := ⟨p, s, v, rfl, plain_seq hp, ip, plain_seq hs, is_, hv⟩
theorem plain_is : ∀ (ps : List Int), ∀ x ∈ ps.map D.int, plain x := fun ps x hx => by
  obtain ⟨i, _, rfl⟩ := List.mem_map.mp hx
  trivial
theorem plain_os : ∀ (ss : List (Option Int)), ∀ x ∈ ss.map oI, plain x := fun ss x hx => by
  obtain ⟨i, _, rfl⟩ := List.mem_map.mp hx
  cases i <;> trivial
theorem plain_app {xs ys : List D} (h1 : ∀ x ∈ xs, plain x) (h2 : ∀ x ∈ ys, plain x) : ∀ x ∈ xs ++ ys, plain x := fun x hx => (List.mem_append.mp hx).elim (h1 x) (h2 x)
theorem plain_cut {xs : List D} (lo hi : Option Int) (h1 : ∀ x ∈ xs, plain x) : ∀ x ∈ DL.cutD xs lo hi, plain x := fun x hx => h1 x (List.mem_of_mem_drop (List.mem_of_mem_take hx))
theorem plain_one {d : D} (h : plain d) : ∀ x ∈ [d], plain x := fun x hx => by rw [List.mem_singleton.mp hx]; exact h
theorem all_app {P : D → Prop} {xs ys : List D} (h1 : ∀ x ∈ xs, P x) (h2 : ∀ x ∈ ys, P x) : ∀ x ∈ xs ++ ys, P x := fun x hx => (List.mem_append.mp hx).elim (h1 x) (h2 x)
theorem sp__law_near {A : Ad} : ∀ T bs O R RX, F__law_near A T bs O R RX → b__law_near A T (ends0 R RX) (startR N__law_near bs) O := by
  rintro T bs O R RX ⟨p, c, cs, n, ps, ss, v, rfl, m, hn, P, h⟩
  have ksz : sizeLine = 16777216 := sizeLine_eq
  have tl : TL = 1099511627776 := by decide
  have hp6 := P.p6
  have hp1 := P.p1
  have hsl := P.sl
  have lp : (ps.map D.int).length = ps.length := List.length_map ..
  have ls : (ss.map oI).length = ss.length := List.length_map ..
  have pl := plain_is ps
  have sl := plain_os ss
  refine ⟨_, rfl, _, rfl, rfl, _, _, rfl, _, _, rfl, _, _, rfl, rfl, ?_⟩
  refine ⟨_, rfl, _, rfl, fun _ => ⟨p, c, cs, n, _, rfl, m, by omega, by omega, log_ok (by omega) (by omega), fun i i0 i1 => ?_⟩⟩
  refine ⟨_, rfl, _, rfl, fun _ => ⟨p, c, cs, n + 1, _, rfl, oset_self m, by omega, by omega, log_ok (by omega) (by omega), fun j j0 j1 => ?_⟩⟩
  rw [oset_oset]
  rw [lp] at i1
  rw [ls] at j1
  refine ⟨_, _, rfl, ?_⟩
  have hO := List.Sublist.refl (oset O p (OD.draws drk c cs (n + 1 + 1)))
  generalize hOn : oset O p (OD.draws drk c cs (n + 1 + 1)) = On at *
  have tP : ∀ {x s v : D}, isSeq s = true → (∀ y ∈ items s, plain y) → plain v → plain x → (∀ y ∈ items x, plain y) → Tri (.tup [x, s, v]) := fun hs is_ hv hx ix => ⟨_, _, _, rfl, hx, ix, plain_seq hs, is_, hv⟩
  have mN : ∀ x ∈ items D.non, plain x := fun x hx => nomatch hx
  have st5 : ∀ Oz : Ow, On.Sublist Oz → ∀ (os : List D) (q : Addr) (y : Option B), (∀ o ∈ os, Tri o) → os.length ≤ 500 → (∀ r ∈ Oz, r.1 ≠ q) → s5__law_near A T (ends0 R RX) [some (.v (.ref p)), some (.d (partsD ps ss v)), some (.d (.tup (ps.map D.int))), some (.d (.tup (ss.map oI))), some (.d (.int v)), some (.d (.int i)), some (.d (.int j)), some (.d (.int SZ)), some (.d (.int VL)), some (.v (.ref q)), y] ((q, .lst os) :: Oz) := by
    intro Oz hz
    have st9 : ∀ (os : List D) (q : Addr) (qs : List D) (y : Option B), (∀ o ∈ os, Tri o) → os.length ≤ 900 → s9__law_near A T (ends0 R RX) [some (.v (.ref p)), some (.d (partsD ps ss v)), some (.d (.tup (ps.map D.int))), some (.d (.tup (ss.map oI))), some (.d (.int v)), some (.d (.int i)), some (.d (.int j)), some (.d (.int SZ)), some (.d (.int VL)), some (.d (.lst os)), y] ((q, .lst qs) :: Oz) := by
      intro os q qs y hos hl
      refine ⟨_, rfl, by show 3 ≤ sizeLine; omega, _, rfl, _, rfl, by show 3 ≤ sizeLine; omega, _, rfl, _, rfl, by show 3 ≤ sizeLine; omega, _, rfl, _, rfl, by show 3 ≤ sizeLine; omega, by show 4 ≤ sizeLine; omega, ?_⟩
      refine ⟨os, _, rfl, rfl, by show os.length + 4 ≤ sizeLine; omega, .inl ?_⟩
      refine ⟨_, _, .same (hz.cons _), h _ (by rw [List.length_append]; show os.length + 4 ≤ 1000; omega) (all_app hos fun o ho => ?_)⟩
      simp only [List.mem_cons, List.not_mem_nil, or_false] at ho
      rcases ho with rfl | rfl | rfl | rfl
      · exact ⟨_, _, _, rfl, trivial, (fun x hx => nomatch hx), trivial, (fun x hx => nomatch hx), trivial⟩
      · exact ⟨_, _, _, rfl, trivial, (fun x hx => nomatch hx), trivial, sl, trivial⟩
      · exact ⟨_, _, _, rfl, trivial, pl, trivial, (fun x hx => nomatch hx), trivial⟩
      · exact ⟨_, _, _, rfl, trivial, (fun x hx => nomatch hx), trivial, sl, trivial⟩
    have st8 : ∀ (os : List D) (q : Addr) (y : Option B), (∀ o ∈ os, Tri o) → os.length ≤ 800 → s8__law_near A T (ends0 R RX) [some (.v (.ref p)), some (.d (partsD ps ss v)), some (.d (.tup (ps.map D.int))), some (.d (.tup (ss.map oI))), some (.d (.int v)), some (.d (.int i)), some (.d (.int j)), some (.d (.int SZ)), some (.d (.int VL)), some (.v (.ref q)), y] ((q, .lst os) :: Oz) := by
      intro os q y hos hl
      refine ⟨_, rfl, _, rfl, _, rfl, _, rfl, _, rfl, by show 3 ≤ sizeLine; omega, _, rfl, _, rfl, _, rfl, _, rfl, by show 3 ≤ sizeLine; omega, _, rfl, ?_⟩
      refine ⟨one_sz, _, rfl, fun _ => ⟨by decide, by omega, by omega, by decide, _, rfl, by show 3 ≤ sizeLine; omega, by show 3 ≤ sizeLine; omega, ?_⟩⟩
      refine ⟨os, _, List.mem_cons_self .., rfl, by show os.length + 3 ≤ sizeLine; omega, .inl ?_⟩
      refine st9 _ q os y (all_app hos fun o ho => ?_) (by rw [List.length_append]; show os.length + 3 ≤ 900; omega)
      simp only [List.mem_cons, List.not_mem_nil, or_false] at ho
      rcases ho with rfl | rfl | rfl
      · exact ⟨_, _, _, rfl, trivial, (fun x hx => pl x (List.mem_reverse.mp hx)), trivial, sl, trivial⟩
      · exact ⟨_, _, _, rfl, trivial, pl, trivial, (fun x hx => sl x (List.mem_reverse.mp hx)), trivial⟩
      · refine ⟨_, _, _, rfl, trivial, pl, trivial, (fun x hx => ?_), trivial⟩
        obtain ⟨l, hl, hx⟩ := List.mem_flatten.mp hx
        rw [(List.mem_replicate.mp hl).2, List.mem_singleton] at hx
        rw [hx]; trivial
    have st7 : ∀ (os : List D) (q : Addr) (y : Option B), (∀ o ∈ os, Tri o) → os.length ≤ 700 → (∀ r ∈ Oz, r.1 ≠ q) → s7__law_near A T (ends0 R RX) [some (.v (.ref p)), some (.d (partsD ps ss v)), some (.d (.tup (ps.map D.int))), some (.d (.tup (ss.map oI))), some (.d (.int v)), some (.d (.int i)), some (.d (.int j)), some (.d (.int SZ)), some (.d (.int VL)), some (.v (.ref q)), y] ((q, .lst os) :: Oz) := by
      intro os q y hos hl hq
      refine ⟨_, rfl, _, rfl, _, rfl, _, rfl, by show 5 ≤ sizeLine; omega, fun _ => ?_⟩
      refine ⟨fun k ρ O' => k ≤ 5 ∧ ∃ os y, os.length ≤ 700 + k ∧ (∀ o ∈ os, Tri o) ∧ O' = (q, .lst os) :: Oz ∧ ρ = [some (.v (.ref p)), some (.d (partsD ps ss v)), some (.d (.tup (ps.map D.int))), some (.d (.tup (ss.map oI))), some (.d (.int v)), some (.d (.int i)), some (.d (.int j)), some (.d (.int SZ)), some (.d (.int VL)), some (.v (.ref q)), y], ⟨Nat.zero_le _, os, y, hl, hos, rfl, rfl⟩, fun _ _ _ _ => trivial, ?_, ?_⟩
      · rintro k b ρ O' hb ⟨hk, os, y, hl, hos, rfl, rfl⟩
        have hk5 : k < 5 := (List.getElem?_eq_some_iff.mp hb).1
        have hd : ∃ d, b = .d d ∧ plain d := by
          have := List.mem_iff_getElem?.mpr ⟨k, hb⟩
          simp only [List.map_cons, List.map_nil, List.mem_cons, List.not_mem_nil, or_false] at this
          rcases this with rfl | rfl | rfl | rfl | rfl <;> exact ⟨_, rfl, trivial⟩
        obtain ⟨d, rfl, pd⟩ := hd
        refine ⟨_, rfl, ⟨q, _, rfl, List.mem_cons_self ..⟩, _, rfl, _, rfl, _, rfl, by show 3 ≤ sizeLine; omega, ?_⟩
        refine ⟨_, _, rfl, List.mem_cons_self .., by omega, ?_⟩
        rw [oset_cons_self hq]
        exact ⟨hk5, _, _, by rw [List.length_append]; show os.length + 1 ≤ _; omega, all_app hos fun o ho => by
          rw [List.mem_singleton.mp ho]
          exact ⟨_, _, _, rfl, trivial, pl, trivial, sl, pd⟩, rfl, rfl⟩
      · rintro ρ O' ⟨hk, os, y, hl, hos, rfl, rfl⟩
        exact st8 os q _ hos (by omega)
    have st6 : ∀ (os : List D) (q : Addr) (y : Option B), (∀ o ∈ os, Tri o) → os.length ≤ 600 → (∀ r ∈ Oz, r.1 ≠ q) → s6__law_near A T (ends0 R RX) [some (.v (.ref p)), some (.d (partsD ps ss v)), some (.d (.tup (ps.map D.int))), some (.d (.tup (ss.map oI))), some (.d (.int v)), some (.d (.int i)), some (.d (.int j)), some (.d (.int SZ)), some (.d (.int VL)), some (.v (.ref q)), y] ((q, .lst os) :: Oz) := by
      intro os q y hos hl hq
      refine ⟨one_sz, _, rfl, _, rfl, _, rfl, _, rfl, by show 9 ≤ sizeLine; omega, fun _ => ?_⟩
      refine ⟨fun k ρ O' => k ≤ 9 ∧ ∃ os y, os.length ≤ 600 + k ∧ (∀ o ∈ os, Tri o) ∧ O' = (q, .lst os) :: Oz ∧ ρ = [some (.v (.ref p)), some (.d (partsD ps ss v)), some (.d (.tup (ps.map D.int))), some (.d (.tup (ss.map oI))), some (.d (.int v)), some (.d (.int i)), some (.d (.int j)), some (.d (.int SZ)), some (.d (.int VL)), some (.v (.ref q)), y], ⟨Nat.zero_le _, os, y, hl, hos, rfl, rfl⟩, fun _ _ _ _ => trivial, ?_, ?_⟩
      · rintro k b ρ O' hb ⟨hk, os, y, hl, hos, rfl, rfl⟩
        have hk5 : k < 9 := (List.getElem?_eq_some_iff.mp hb).1
        have hd : ∃ d, b = .d d ∧ plain d := by
          have := List.mem_iff_getElem?.mpr ⟨k, hb⟩
          simp only [List.map_cons, List.map_nil, List.mem_cons, List.not_mem_nil, or_false] at this
          rcases this with rfl | rfl | rfl | rfl | rfl | rfl | rfl | rfl | rfl <;> exact ⟨_, rfl, trivial⟩
        obtain ⟨d, rfl, pd⟩ := hd
        have c1 := cutD_len (ss.map oI) none (some j)
        have c2 := cutD_len (ss.map oI) (some (j + 1)) none
        refine ⟨_, rfl, ⟨q, _, rfl, List.mem_cons_self ..⟩, _, rfl, _, rfl, _, rfl, _, rfl, _, rfl, one_sz, by show (DL.cutD (ss.map oI) none (some j)).length + 1 ≤ sizeLine; omega, _, rfl, _, rfl, _, rfl, by rw [List.length_append]; show (DL.cutD (ss.map oI) none (some j)).length + 1 + (DL.cutD (ss.map oI) (some (j + 1)) none).length ≤ sizeLine; omega, _, rfl, by show 3 ≤ sizeLine; omega, ?_⟩
        refine ⟨_, _, rfl, List.mem_cons_self .., by omega, ?_⟩
        rw [oset_cons_self hq]
        exact ⟨hk5, _, _, by rw [List.length_append]; show os.length + 1 ≤ _; omega, all_app hos fun o ho => by
          rw [List.mem_singleton.mp ho]
          exact ⟨_, _, _, rfl, trivial, pl, trivial, plain_app (plain_app (plain_cut _ _ sl) (plain_one pd)) (plain_cut _ _ sl), trivial⟩, rfl, rfl⟩
      · rintro ρ O' ⟨hk, os, y, hl, hos, rfl, rfl⟩
        exact st7 os q _ hos (by omega) hq
    obtain ⟨p0, r0, e0⟩ : ∃ a r, ps = a :: r := by
      cases ps with
      | nil => simp at hp1
      | cons a r => exact ⟨a, r, rfl⟩
    obtain ⟨pL, aL, _⟩ := last_int hp1
    obtain ⟨pI, aI⟩ : ∃ a, atI (ps.map D.int) i = some (.int a) := by
      obtain ⟨k, rfl⟩ : ∃ k : Nat, i = k := ⟨i.toNat, by omega⟩
      have hi : k < ps.length := by omega
      refine ⟨ps[k], atI_nat ?_⟩
      rw [List.getElem?_map, List.getElem?_eq_getElem hi]
      rfl
    have a0 : atI (ps.map D.int) 0 = some (.int p0) := by rw [e0]; exact atI_nat (j := 0) rfl
    have st5 : ∀ (os : List D) (q : Addr) (y : Option B), (∀ o ∈ os, Tri o) → os.length ≤ 500 → (∀ r ∈ Oz, r.1 ≠ q) → s5__law_near A T (ends0 R RX) [some (.v (.ref p)), some (.d (partsD ps ss v)), some (.d (.tup (ps.map D.int))), some (.d (.tup (ss.map oI))), some (.d (.int v)), some (.d (.int i)), some (.d (.int j)), some (.d (.int SZ)), some (.d (.int VL)), some (.v (.ref q)), y] ((q, .lst os) :: Oz) := by
      intro os q y hos hl hq
      refine ⟨one_sz, _, rfl, _, rfl, _, rfl, _, rfl, _, rfl, _, _, rfl, a0, _, rfl, _, rfl, _, _, rfl, aI, _, rfl, _, _, rfl, aL, by show 11 ≤ sizeLine; omega, fun _ => ?_⟩
      refine ⟨fun k ρ O' => k ≤ 11 ∧ ∃ os y, os.length ≤ 500 + k ∧ (∀ o ∈ os, Tri o) ∧ O' = (q, .lst os) :: Oz ∧ ρ = [some (.v (.ref p)), some (.d (partsD ps ss v)), some (.d (.tup (ps.map D.int))), some (.d (.tup (ss.map oI))), some (.d (.int v)), some (.d (.int i)), some (.d (.int j)), some (.d (.int SZ)), some (.d (.int VL)), some (.v (.ref q)), y], ⟨Nat.zero_le _, os, y, hl, hos, rfl, rfl⟩, fun _ _ _ _ => trivial, ?_, ?_⟩
      · rintro k b ρ O' hb ⟨hk, os, y, hl, hos, rfl, rfl⟩
        have hk5 : k < 11 := (List.getElem?_eq_some_iff.mp hb).1
        have hd : ∃ d, b = .d d ∧ plain d := by
          have := List.mem_iff_getElem?.mpr ⟨k, hb⟩
          simp only [List.map_cons, List.map_nil, List.mem_cons, List.not_mem_nil, or_false] at this
          rcases this with rfl | rfl | rfl | rfl | rfl | rfl | rfl | rfl | rfl | rfl | rfl <;> exact ⟨_, rfl, trivial⟩
        obtain ⟨d, rfl, pd⟩ := hd
        have c1 := cutD_len (ps.map D.int) none (some i)
        have c2 := cutD_len (ps.map D.int) (some (i + 1)) none
        refine ⟨_, rfl, ⟨q, _, rfl, List.mem_cons_self ..⟩, _, rfl, _, rfl, _, rfl, _, rfl, one_sz, by show (DL.cutD (ps.map D.int) none (some i)).length + 1 ≤ sizeLine; omega, _, rfl, _, rfl, _, rfl, by rw [List.length_append]; show (DL.cutD (ps.map D.int) none (some i)).length + 1 + (DL.cutD (ps.map D.int) (some (i + 1)) none).length ≤ sizeLine; omega, _, rfl, _, rfl, by show 3 ≤ sizeLine; omega, ?_⟩
        refine ⟨_, _, rfl, List.mem_cons_self .., by omega, ?_⟩
        rw [oset_cons_self hq]
        exact ⟨hk5, _, _, by rw [List.length_append]; show os.length + 1 ≤ _; omega, all_app hos fun o ho => by
          rw [List.mem_singleton.mp ho]
          exact ⟨_, _, _, rfl, trivial, plain_app (plain_app (plain_cut _ _ pl) (plain_one pd)) (plain_cut _ _ pl), trivial, sl, trivial⟩, rfl, rfl⟩
      · rintro ρ O' ⟨hk, os, y, hl, hos, rfl, rfl⟩
        exact st6 os q _ hos (by omega) hq
    exact st5
  have st4 : ∀ (os : List D) (q : Addr) (y : Option B), (∀ o ∈ os, Tri o) → os.length ≤ 400 → (∀ r ∈ On, r.1 ≠ q) → s4__law_near A T (ends0 R RX) [some (.v (.ref p)), some (.d (partsD ps ss v)), some (.d (.tup (ps.map D.int))), some (.d (.tup (ss.map oI))), some (.d (.int v)), some (.d (.int i)), some (.d (.int j)), some (.d (.int SZ)), some (.d (.int VL)), some (.v (.ref q)), y] ((q, .lst os) :: On) := by
    intro os q y hos hl hq
    refine ⟨_, rfl, _, rfl, _, rfl, by show 3 ≤ sizeLine; omega, _, rfl, _, rfl, by show 3 ≤ sizeLine; omega, _, rfl, _, rfl, by show 3 ≤ sizeLine; omega, by show 3 ≤ sizeLine; omega, ?_⟩
    refine ⟨os, _, List.mem_cons_self .., rfl, by show os.length + 3 ≤ sizeLine; omega, .inr fun q2 hq2 => ?_⟩
    refine st5 _ ((List.Sublist.refl _).cons _) _ q2 y (all_app hos fun o ho => ?_) (by rw [List.length_append]; show os.length + 3 ≤ 500; omega) hq2
    simp only [List.mem_cons, List.not_mem_nil, or_false] at ho
    rcases ho with rfl | rfl | rfl
    · exact ⟨_, _, _, rfl, trivial, pl, trivial, sl, trivial⟩
    · exact ⟨_, _, _, rfl, trivial, pl, trivial, sl, trivial⟩
    · exact ⟨_, _, _, rfl, trivial, pl, trivial, sl, trivial⟩
  obtain ⟨sL, aS, _⟩ := last_oI (ss := ss) (by omega)
  have c1 := cutD_len (ss.map oI) none (some 1)
  have c2 := cutD_len (ss.map oI) (some 1) none
  have psL : plain (oI sL) := by cases sL <;> trivial
  refine ⟨rfl, rfl, _, _, rfl, ?_⟩
  refine ⟨_, rfl, _, rfl, by show 3 ≤ sizeLine; omega, by show 0 ≤ sizeLine; omega, _, rfl, 1, rfl, _, rfl, by show 3 ≤ sizeLine; omega, _, rfl, _, rfl, by show 3 ≤ sizeLine; omega, _, rfl, _, rfl, 1, rfl, _, rfl, by show 3 ≤ sizeLine; omega, ?_⟩
  refine ⟨_, rfl, _, rfl, _, rfl, _, _, rfl, aS, one_sz, by show (ss.map oI).length + 1 ≤ sizeLine; omega, _, rfl, by show 3 ≤ sizeLine; omega, by show 5 ≤ sizeLine; omega, fun q hq => ?_⟩
  refine st4 _ q none (fun o ho => ?_) (by show 5 ≤ 400; omega) hq
  simp only [List.mem_cons, List.not_mem_nil, or_false] at ho
  rcases ho with rfl | rfl | rfl | rfl | rfl
  · exact ⟨_, _, _, rfl, trivial, (fun x hx => nomatch hx), trivial, sl, trivial⟩
  · exact ⟨_, _, _, rfl, trivial, (fun x hx => nomatch hx), trivial, plain_cut _ _ sl, trivial⟩
  · exact ⟨_, _, _, rfl, trivial, pl, trivial, (fun x hx => nomatch hx), trivial⟩
  · exact ⟨_, _, _, rfl, trivial, pl, trivial, plain_cut _ _ sl, trivial⟩
  · exact ⟨_, _, _, rfl, trivial, pl, trivial, plain_app sl (plain_one psL), trivial⟩

end K00
end
section
set_option maxRecDepth 100000
set_option maxHeartbeats 4000000
namespace K00
open PySem PySem.Spec PyProof.Rows L2 DL
theorem sub_oset {O O' : Ow} {p : Addr} {x : OD} (hp : ∀ q ∈ O, q.1 ≠ p) (h : O.Sublist O') : O.Sublist (oset O' p x) := by
  have e : O.map (fun q => if q.1 = p then (p, x) else q) = O := by
    conv => rhs; rw [← List.map_id O]
    exact List.map_congr_left fun q hq => if_neg (hp q hq)
  have := List.Sublist.map (fun q : Addr × OD => if q.1 = p then (p, x) else q) h
  rw [e] at this
  exact this
/-- a try at a line: what comes of it -/
theorem try_line {A : Ad} {T : Tb} {O : Ow} {R : DK} {p s v : D} (hp : plain p) (ip : ∀ x ∈ items p, plain x) (hs : plain s) (is_ : ∀ x ∈ items s, plain x) (hv : plain v)
    (h1 : wrongL p s v = none → R (.d .non) O) (h2 : ∀ w, wrongL p s v = some w → ∀ O', O.Sublist O' → (∀ q ∈ O, q ∈ O') → R (.d (.exc A.BadLine ["part"] [.str w])) O') :
    mkG A.Line (F_Line___init__ A) T [.d p, .d s, .d v] O (fun _ O1 => R (.d .non) O1) (fun y O1 => y.1 ∈ A.errs ∧ R (.d (.exc y.1 y.2.1 y.2.2)) O1) := by
  intro q hq
  refine ⟨q, .d p, .d s, p, s, v, rfl, List.mem_cons_self .., .inl rfl, hp, ip, .inl rfl, hs, is_, hv, (fun a e => nomatch e), (fun a e => nomatch e), fun w => ⟨rfl, .inr ⟨A.Line, ptsN, [.tup (items p), .tup (items s), v], ?_, ?_⟩⟩, fun w hw => ?_⟩
  · rw [oset_cons_self hq]
    exact List.mem_cons_self ..
  · rw [oset_cons_self hq, odel_cons_self hq]
    exact ⟨_, rfl, h1 w⟩
  · exact ⟨List.mem_singleton_self _, h2 w hw _ ((List.Sublist.refl _).cons _) (fun r hr => List.mem_cons_of_mem _ hr)⟩
theorem rg_ok {n : Int} (h0 : 0 ≤ n) (h : n ≤ 1000) : RgOk 0 n := ⟨by omega, by omega, by omega, by omega, by omega⟩
abbrev bdIf (A : Ad) (T : Tb) : DTS :=
  (dIfS (dOr (dB (dOp fNe (dOp fIs (dVar 6) (dC (.d .non))) (dVar 4))) (dAnd (dB (dOp fIsNot (dVar 6) (dC (.d .non)))) (dOr (dNot (dB (dIsi (qBadLine A) (dVar 6)))) (dB (dOp fNe (dUn (xfG A.errs "part") (dVar 6)) (dIf (dB (dOp fGt (dVar 1) (dC (.d (.int 200))))) (dC (.d (.str "points"))) (dC (.d (.str "slopes"))))))))) (dRet (dC (.d (.bl false)))) dNext)
abbrev bdTail (A : Ad) (T : Tb) : DTS := dSeq (dSet 6 (dCaught A.errs (dMake A.Line (F_Line___init__ A) T (dCons (dListRg1 false (dVar 1)) (dCons (dVar 5) (dCons (dC (.d (.int 0))) dNil)))))) (bdIf A T)
theorem rg_plain {n : Int} : ∀ x ∈ rgD 0 n, plain x := fun x hx => by
  unfold rgD at hx
  obtain ⟨i, _, rfl⟩ := List.mem_map.mp hx
  trivial
theorem bd_tail {A : Ad} {T : Tb} {Δ : DEnds} {O : Ow} {many : Int} {b0 f l y : Option B} {due : Bool} {sl : List D} (m0 : 0 ≤ many) (m1 : many ≤ 1000) (hsl : ∀ x ∈ sl, plain x)
    (hw : wrongL (.lst (rgD 0 many)) (.lst sl) (.int 0) = if due then none else some (if many > 200 then ("points" : Str) else "slopes"))
    (h : ∀ (c : B) (O' : Ow), O.Sublist O' → Δ.nx [b0, some (.d (.int many)), f, l, some (.d (.bl due)), some (.d (.lst sl)), some c] O') :
    bdTail A T Δ [b0, some (.d (.int many)), f, l, some (.d (.bl due)), some (.d (.lst sl)), y] O := by
  refine ⟨_, rfl, _, rfl, rg_ok m0 m1, ?_⟩
  rw [if_neg Bool.false_ne_true]
  refine ⟨_, rfl, ?_⟩
  refine try_line (R := fun c O1 => bdIf A T Δ [b0, some (.d (.int many)), f, l, some (.d (.bl due)), some (.d (.lst sl)), some c] O1) (p := .lst (rgD 0 many)) (s := .lst sl) (v := .int 0) trivial rg_plain trivial hsl trivial (fun e => ?_) (fun w e O' hO hm => ?_)
  · rw [hw] at e
    cases due with
    | false => cases e
    | true =>
      exact ⟨_, rfl, _, rfl, .inl ⟨_, _, true, rfl, rfl, rfl, _, rfl, iteF ⟨_, rfl, _, rfl, iteF (iteF (h _ _ (List.Sublist.refl _)))⟩⟩⟩
  · rw [hw] at e
    cases due with
    | true => cases e
    | false =>
      have ew : (if many > 200 then ("points" : Str) else "slopes") = w := Option.some.inj e
      refine ⟨_, rfl, _, rfl, .inl ⟨_, _, true, rfl, rfl, rfl, _, rfl, iteF ⟨_, rfl, _, rfl, iteT ⟨_, rfl, .exc A.BadLine, true, .inl ⟨_, rfl, rfl⟩, if_pos rfl, _, rfl, ?_⟩⟩⟩⟩
      refine iteF ⟨_, rfl, A.BadLine, _, _, _, rfl, List.mem_singleton_self _, rfl, _, rfl, _, rfl, iteP_intro (fun c => ?_) (fun c => ?_)⟩
      · rw [if_pos (of_decide_eq_true c)] at ew
        subst ew
        exact .inl ⟨_, _, true, rfl, rfl, rfl, _, rfl, iteF (h _ _ hO)⟩
      · rw [if_neg (of_decide_eq_false c)] at ew
        subst ew
        exact .inl ⟨_, _, true, rfl, rfl, rfl, _, rfl, iteF (h _ _ hO)⟩
theorem sp__law_bounds_right {A : Ad} : ∀ T bs O R RX, F__law_bounds_right A T bs O R RX → b__law_bounds_right A T (ends0 R RX) (startR N__law_bounds_right bs) O := by
  rintro T bs O R RX ⟨rfl, h⟩
  have ksz : sizeLine = 16777216 := sizeLine_eq
  refine ⟨200, rfl, rg_ok (by decide) (by decide), ?_⟩
  rw [if_neg Bool.false_ne_true]
  refine ⟨by show 4 ≤ sizeLine; omega, by show 4 ≤ sizeLine; omega, by show 4 ≤ sizeLine; omega, by show 4 ≤ sizeLine; omega, by show 4 ≤ sizeLine; omega, by show 5 ≤ sizeLine; omega, fun _ => ?_⟩
  refine ⟨fun k ρ O' => O.Sublist O' ∧ ∃ y1 y2 y3 y4 y5 y6, ρ = [some (.d (.lst (rgD 0 200))), y1, y2, y3, y4, y5, y6], ⟨List.Sublist.refl _, _, _, _, _, _, _, rfl⟩, fun _ _ _ _ => trivial, ?_, ?_⟩
  · rintro k b ρ O' hb ⟨hO, y1, y2, y3, y4, y5, y6, rfl⟩
    match k, hb with
    | 0, hb =>
      cases hb
      refine ⟨_, rfl, rfl, _, _, rfl, _, _, rfl, _, _, rfl, _, _, rfl, rfl, ?_⟩
      refine ⟨_, rfl, _, rfl, iteT ⟨one_sz, _, rfl, _, rfl, rg_ok (by decide) (by decide), ?_⟩⟩
      rw [if_neg Bool.false_ne_true]
      refine ⟨_, _, rfl, rfl, by decide +kernel, .inl ⟨_, rfl, _, rfl, iteT ⟨one_sz, _, _, rfl, rfl, by decide +kernel, .inl ?_⟩⟩⟩
      exact bd_tail (due := true) (by decide) (by decide) (plain_app (plain_app (plain_one (by trivial)) rg_plain) (plain_one (by trivial))) (by decide +kernel) fun c O1 h1 => ⟨hO.trans h1, _, _, _, _, _, _, rfl⟩
    | 1, hb =>
      cases hb
      refine ⟨_, rfl, rfl, _, _, rfl, _, _, rfl, _, _, rfl, _, _, rfl, rfl, ?_⟩
      refine ⟨_, rfl, _, rfl, iteT ⟨one_sz, _, rfl, _, rfl, rg_ok (by decide) (by decide), ?_⟩⟩
      rw [if_neg Bool.false_ne_true]
      refine ⟨_, _, rfl, rfl, by decide +kernel, .inl ⟨_, rfl, _, rfl, iteF ⟨_, rfl, one_sz, _, _, rfl, rfl, by decide +kernel, .inl ?_⟩⟩⟩
      exact bd_tail (due := true) (by decide) (by decide) (plain_app (plain_app (plain_one (by trivial)) rg_plain) (plain_one (by trivial))) (by decide +kernel) fun c O1 h1 => ⟨hO.trans h1, _, _, _, _, _, _, rfl⟩
    | 2, hb =>
      cases hb
      refine ⟨_, rfl, rfl, _, _, rfl, _, _, rfl, _, _, rfl, _, _, rfl, rfl, ?_⟩
      refine ⟨_, rfl, _, rfl, iteF ⟨one_sz, _, rfl, _, rfl, rg_ok (by decide) (by decide), ?_⟩⟩
      rw [if_neg Bool.false_ne_true]
      refine ⟨_, _, rfl, rfl, by decide +kernel, .inl ⟨_, rfl, _, rfl, iteF ⟨_, rfl, one_sz, _, _, rfl, rfl, by decide +kernel, .inl ?_⟩⟩⟩
      exact bd_tail (due := false) (by decide) (by decide) (plain_app (plain_app (plain_one (by trivial)) rg_plain) (plain_one (by trivial))) (by decide +kernel) fun c O1 h1 => ⟨hO.trans h1, _, _, _, _, _, _, rfl⟩
    | 3, hb =>
      cases hb
      refine ⟨_, rfl, rfl, _, _, rfl, _, _, rfl, _, _, rfl, _, _, rfl, rfl, ?_⟩
      refine ⟨_, rfl, _, rfl, iteT ⟨one_sz, _, rfl, _, rfl, rg_ok (by decide) (by decide), ?_⟩⟩
      rw [if_neg Bool.false_ne_true]
      refine ⟨_, _, rfl, rfl, by decide +kernel, .inl ⟨_, rfl, _, rfl, iteT ⟨one_sz, _, _, rfl, rfl, by decide +kernel, .inl ?_⟩⟩⟩
      exact bd_tail (due := false) (by decide) (by decide) (plain_app (plain_app (plain_one (by trivial)) rg_plain) (plain_one (by trivial))) (by decide +kernel) fun c O1 h1 => ⟨hO.trans h1, _, _, _, _, _, _, rfl⟩
    | 4, hb =>
      cases hb
      refine ⟨_, rfl, rfl, _, _, rfl, _, _, rfl, _, _, rfl, _, _, rfl, rfl, ?_⟩
      refine ⟨_, rfl, _, rfl, iteF ⟨one_sz, _, rfl, _, rfl, rg_ok (by decide) (by decide), ?_⟩⟩
      rw [if_neg Bool.false_ne_true]
      refine ⟨_, _, rfl, rfl, by decide +kernel, .inl ⟨_, rfl, _, rfl, iteF ⟨_, rfl, one_sz, _, _, rfl, rfl, by decide +kernel, .inl ?_⟩⟩⟩
      exact bd_tail (due := true) (by decide) (by decide) (plain_app (plain_app (plain_one (by trivial)) rg_plain) (plain_one (by trivial))) (by decide +kernel) fun c O1 h1 => ⟨hO.trans h1, _, _, _, _, _, _, rfl⟩
    | k + 5, hb => simp at hb
  · rintro ρ O' ⟨hO, y1, y2, y3, y4, y5, y6, rfl⟩
    refine ⟨_, rfl, fun _ => .inl ⟨_, _, _, rfl, rfl, rfl, _, _, .same hO, ?_⟩⟩
    exact h

end K00
end
section
set_option maxRecDepth 100000
set_option maxHeartbeats 4000000
namespace K00
open PySem PySem.Spec PyProof.Rows L2 DL
theorem law_len {T : Tb} {a : Addr} {ns : List Int} {O : Ow} {R : DK} (m : (a, ns) ∈ T.scr) (h : ns.length ≤ 63 → R (.d (.int ns.length)) O) : gLen T [.v (.ref a)] O R := .inr ⟨ns, m, h⟩
theorem kd_plain {d : D} {A : Ad} (h : plain d) : qBadLine A (kd d) = some false := by
  cases d <;> first | exact h.elim | rfl
theorem v_a : VLine [0] [none, some 1] 0 := ⟨by decide, by decide, rfl, fun x hx => by rw [List.mem_singleton.mp hx]; decide, rfl, fun i h0 h1 => by have : i < 1 := h1; omega, fun x hx => by
  have : x = 1 := by simpa using hx
  rw [this]; decide, rfl, by decide, by decide, by decide⟩
theorem v_b : VLine [0] [some 1, none] 0 := ⟨by decide, by decide, rfl, fun x hx => by rw [List.mem_singleton.mp hx]; decide, rfl, fun i h0 h1 => by have : i < 1 := h1; omega, fun x hx => by
  have : x = 1 := by simpa using hx
  rw [this]; decide, rfl, by decide, by decide, by decide⟩
abbrev lwIf (A : Ad) (T : Tb) : DTS :=
  (dIfS (dOr (dAnd (dB (dOp fIs (dVar 7) (dC (.d .non)))) (dB (dOp fIsNot (dVar 8) (dC (.d .non))))) (dAnd (dB (dOp fIsNot (dVar 7) (dC (.d .non)))) (dOr (dNot (dB (dIsi (qBadLine A) (dVar 8)))) (dB (dOp fNe (dUn (xfG A.errs "part") (dVar 8)) (dVar 7)))))) (dRet (dC (.d (.bl false)))) dNext)
abbrev lwTail (A : Ad) (T : Tb) : DTS :=
  dSeq (dSet 8 (dCaught A.errs (dMake A.Line (F_Line___init__ A) T (dCons (dVar 4) (dCons (dVar 5) (dCons (dVar 6) dNil)))))) (lwIf A T)
theorem lw_tail {A : Ad} {T : Tb} {Δ : DEnds} {O : Ow} {b0 b1 b2 b3 y : Option B} {p s v : D} (hp : plain p) (ip : ∀ x ∈ items p, plain x) (hs : plain s) (is_ : ∀ x ∈ items s, plain x) (hv : plain v)
    (h : ∀ (c : B) (O' : Ow), O.Sublist O' → (∀ q ∈ O, q ∈ O') → Δ.nx [b0, b1, b2, b3, some (.d p), some (.d s), some (.d v), some (.d (wD (wrongL p s v))), some c] O') :
    lwTail A T Δ [b0, b1, b2, b3, some (.d p), some (.d s), some (.d v), some (.d (wD (wrongL p s v))), y] O := by
  refine ⟨_, rfl, _, rfl, _, rfl, ?_⟩
  refine try_line (R := fun c O1 => lwIf A T Δ [b0, b1, b2, b3, some (.d p), some (.d s), some (.d v), some (.d (wD (wrongL p s v))), some c] O1) hp ip hs is_ hv (fun e => ?_) (fun w e O' hO hm => ?_)
  · rw [e] at h ⊢
    exact ⟨_, rfl, _, rfl, iteT ⟨_, rfl, _, rfl, iteF ⟨_, rfl, _, rfl, iteF (iteF (h _ _ (List.Sublist.refl _) (fun _ m => m)))⟩⟩⟩
  · rw [e] at h ⊢
    refine ⟨_, rfl, _, rfl, iteF (iteF ⟨_, rfl, _, rfl, iteT ⟨_, rfl, .exc A.BadLine, true, .inl ⟨_, rfl, rfl⟩, if_pos rfl, _, rfl, ?_⟩⟩)⟩
    exact iteF ⟨_, rfl, A.BadLine, _, _, _, rfl, List.mem_singleton_self _, rfl, _, rfl, .inl ⟨_, _, true, rfl, rfl, congrArg some (decide_eq_true rfl), _, rfl, iteF (h _ _ hO hm)⟩⟩
theorem sp_law {A : Ad} : ∀ T bs O R RX, F_law A T bs O R RX → b_law A T (ends0 R RX) (startR N_law bs) O := by
  rintro T bs O R RX ⟨a, ns, rfl, ms, h⟩
  have ksz : sizeLine = 16777216 := sizeLine_eq
  have tl : TL = 1099511627776 := by decide
  refine ⟨_, rfl, a, ns, rfl, ms, fun p c cs hp => ?_⟩
  refine ⟨_, rfl, law_len ms fun hn => ?_⟩
  refine ⟨4 + (if (8 : Int) < (ns.length : Int) then (8 : Int) else ns.length), rfl, by split <;> omega, by split <;> omega, ?_⟩
  have hN : (4 + (if (8 : Int) < (ns.length : Int) then (8 : Int) else ns.length)).toNat ≤ 12 := by split <;> omega
  generalize (4 + (if (8 : Int) < (ns.length : Int) then (8 : Int) else ns.length)) = mn at *
  have hmem : ∀ {O' : Ow} {n x}, (p, OD.draws drk c cs n) ∈ O' → (p, x) ∈ oset O' p x := fun m => oset_self m
  refine ⟨fun k ρ O' => k ≤ mn.toNat ∧ (p, OD.draws drk c cs (43 * k)) ∈ O' ∧ O.Sublist O' ∧ ∃ y2 y3 y4 y5 y6 y7 y8, ρ = [some (.v (.ref a)), some (.v (.ref p)), y2, y3, y4, y5, y6, y7, y8], ⟨Nat.zero_le _, List.mem_cons_self .., (List.Sublist.refl _).cons _, _, _, _, _, _, _, _, rfl⟩, fun _ _ _ _ => trivial, ?_, ?_⟩
  · rintro k b ρ O' hb ⟨hk, m, hO, y2, y3, y4, y5, y6, y7, y8, rfl⟩
    obtain ⟨hk2, rfl⟩ := rangeB_get hb
    refine ⟨_, rfl, _, rfl, ⟨by decide, by decide, by decide⟩, ⟨by decide, by decide, by decide⟩, by show 5 ≤ sizeLine; omega, p, c, cs, 43 * k, _, rfl, m, by omega, (fun e => nomatch e), by show 5 < 1000; decide, fun x hx => ?_⟩
    have hreach : ∃ r : Int, x = .int r ∧ 1 ≤ r ∧ r ≤ 10 ^ 29 := by
      simp only [List.mem_cons, List.not_mem_nil, or_false] at hx
      rcases hx with rfl | rfl | rfl | rfl | rfl <;> exact ⟨_, rfl, by decide, by decide⟩
    obtain ⟨reach, rfl, r1, r2⟩ := hreach
    refine ⟨p, c, cs, 43 * k + 1, reach, rfl, oset_self m, by omega, r1, r2, fun ps ss v P => ?_⟩
    rw [oset_oset]
    refine ⟨_, rfl, _, rfl, _, ps, ss, v, rfl, P, _, rfl, iteF ?_⟩
    refine ⟨_, rfl, _, rfl, p, c, cs, 43 * k + 1 + 40, ps, ss, v, rfl, oset_self m, by omega, P, fun os hl ho => fun _ => ?_⟩
    rw [oset_oset]
    refine ⟨fun i ρ O' => (p, OD.draws drk c cs (43 * (k + 1))) ∈ O' ∧ O.Sublist O' ∧ ∃ y2 y3 y4 y5 y6 y7 y8, ρ = [some (.v (.ref a)), some (.v (.ref p)), y2, y3, y4, y5, y6, y7, y8], ⟨oset_self m, sub_oset hp hO, _, _, _, _, _, _, _, rfl⟩, fun _ _ _ _ => trivial, ?_, ?_⟩
    · rintro i b ρ O1 hb ⟨m1, hO1, y2, y3, y4, y5, y6, y7, y8, rfl⟩
      have hbm := List.mem_iff_getElem?.mpr ⟨i, hb⟩
      obtain ⟨o, hom, rfl⟩ := List.mem_map.mp hbm
      obtain ⟨p1, s1, v1, rfl, hp1, ip1, hs1, is1, hv1⟩ := ho _ hom
      refine ⟨_, rfl, rfl, _, _, rfl, _, _, rfl, _, _, rfl, rfl, ?_⟩
      refine ⟨_, rfl, _, rfl, _, rfl, p1, s1, v1, rfl, hp1, ip1, hs1, is1, hv1, ?_⟩
      exact lw_tail hp1 ip1 hs1 is1 hv1 fun c O2 hs2 hm2 => ⟨hm2 _ m1, hO1.trans hs2, _, _, _, _, _, _, _, rfl⟩
    · rintro ρ O1 ⟨m1, hO1, y2, y3, y4, y5, y6, y7, y8, rfl⟩
      exact ⟨hk2, m1, hO1, _, _, _, _, _, _, _, rfl⟩
  · rintro ρ O' ⟨hk, m, hO, y2, y3, y4, y5, y6, y7, y8, rfl⟩
    refine ⟨rfl, _, rfl, iteT ?_⟩
    refine ⟨one_sz, by show 2 ≤ sizeLine; omega, mk_line v_a (.inl rfl) (.inl rfl) rfl rfl rfl rfl ?_⟩
    refine ⟨one_sz, by show 2 ≤ sizeLine; omega, mk_line v_a (.inl rfl) (.inl rfl) rfl rfl rfl rfl ?_⟩
    refine eq_line (k := true) (decide_eq_true ⟨rfl, rfl, rfl⟩) ⟨_, rfl, iteT ?_⟩
    refine ⟨one_sz, by show 2 ≤ sizeLine; omega, mk_line v_a (.inl rfl) (.inl rfl) rfl rfl rfl rfl ?_⟩
    refine ⟨one_sz, by show 2 ≤ sizeLine; omega, mk_line v_b (.inl rfl) (.inl rfl) rfl rfl rfl rfl ?_⟩
    refine eq_line (k := false) (by decide) ⟨_, _, .same hO, h⟩

end K00
end
section
set_option maxRecDepth 100000
set_option maxHeartbeats 4000000
namespace K00
open PySem PySem.Spec PyProof.Rows L2 DL

def top (i : Nat) : Stmt := PySem.Challenge.pw_bentcosts_k00_lines_and_what_is_none.main.body.getD i (.Pass ⟨0, 0, 0, 0⟩)
def meth (i j : Nat) : Stmt := match top i with
  | .ClassDef _ _ _ b _ _ _ _ _ _ _ => b.getD j (.Pass ⟨0, 0, 0, 0⟩)
  | _ => .Pass ⟨0, 0, 0, 0⟩
def kwg : List Value → List Value → List Value
  | us, [v, s, p] => us ++ [p, s, v]
  | us, _ => us
def kwgV : List L2.V → List L2.V → List L2.V
  | us, [v, s, p] => us ++ [p, s, v]
  | us, _ => us
abbrev kws_Line : List Str := ["value", "slopes", "points"]
theorem kwB_ok (G : Hp) (y : L2.V) (vs : List L2.V) (bs : List B) (h : vs.length = 3) (r : RBs G vs bs) : ∃ ws, kwgV [y] vs = y :: ws ∧ RBs G ws (kwB_Line bs) := by
  match vs, bs, h, r with
  | [v, s, p], [a, b, c], _, r => exact ⟨[p, s, v], rfl, r.2.2.1, r.2.1, r.1, trivial⟩
/-- what the text and the written part say -/
structure Txt (P : Program) (w : World) (K : PySem.W.Frag) (mg : Str → Option Value) (base : Heap) (tabs : List (Addr × Str)) (A : Ad) : Prop where
  bi_isinstance : mg "isinstance" = none
  bi_len : mg "len" = none
  bi_list : mg "list" = none
  bi_tuple : mg "tuple" = none
  bi_int : mg "int" = none
  bi_range : mg "range" = none
  bi_bool : mg "bool" = none
  bi_all : mg "all" = none
  bi_super : mg "super" = none
  bi_abs : mg "abs" = none
  bi_zip : mg "zip" = none
  bi_str : mg "str" = none
  bi_min : mg "min" = none
  bi_enumerate : mg "enumerate" = none
  bi_dict : mg "dict" = none
  mg_Line : mg "Line" = some (.ref A.Line)
  mg_Bent : mg "Bent" = some (.ref A.Bent)
  mg_BadLine : mg "BadLine" = some (.ref A.BadLine)
  gl_MOST_POINTS : ∃ u, mg "MOST_POINTS" = some (.int 200 u)
  gl_MOST_SIZE : ∃ u, mg "MOST_SIZE" = some (.int SZ u)
  gl_MOST_VALUE : ∃ u, mg "MOST_VALUE" = some (.int VL u)
  mk_Line : Mk K A.Line A.a_Line___init__
  cf_Bent___init__ : ClsF K A.Bent (.type "type") "__init__" A.a_Bent___init__
  q_int : IsQ K [.type "int"] qInt
  q_bool : IsQ K [.type "bool"] qBool
  q_listtuple : IsQ K [.type "list", .type "tuple"] qListTuple
  q_intstr : IsQ K [.type "int", .type "str"] qIntStr
  q_dict : IsQ K [.type "dict"] qDict
  q_tuple : IsQ K [.type "tuple"] qTuple
  q_list : IsQ K [.type "list"] qList
  q_line : IsQ K [.ref A.Line] (qLine A)
  q_badline : IsQ K [.ref A.BadLine] (qBadLine A)
  fld_own_points : ∀ C ∈ A.inst, FldC K C "own_points"
  fld_own_slopes : ∀ C ∈ A.inst, FldC K C "own_slopes"
  fld_own_value : ∀ C ∈ A.inst, FldC K C "own_value"
  eqf_s : PySem.W.findIn K (.ref A.Line) "__eq__" = some (some (.ref A.a_Line___eq__))
  eqf_f : PySem.W.isFn K (.ref A.a_Line___eq__) = true
  xs_BadLine : XsE K P A.BadLine "part"
  xf_part : ∀ C ∈ A.errs, XfD K C "part"
  cgt : CgtD K mg "_law_caught" "action" A.BentError
  cgt_in : ∀ C ∈ A.errs, PySem.W.exmOne K (.ref C) (.ref A.BentError) = some true
section
variable {P : Program} {w : World} {K : PySem.W.Frag} {mg : Str → Option Value} {base : Heap} {tabs : List (Addr × Str)} {A : Ad}
theorem sc_is_number : FnScope N_is_number ["thing"] (defScope (top 5)) := ⟨rfl, rfl, rfl, by decide +kernel, rfl, by decide +kernel, by decide +kernel⟩
theorem wk_is_number {f : Addr} {fd : FuncData} (t : Txt P w K mg base tabs A)  (Fn : Fun K "is_number" "is_number" (top 5) f fd)
    (hl : ∀ T bs O R RX, F_is_number A T bs O R RX → bs.length = 1) (sp : ∀ T bs O R RX, T.K = K → T.tabs = tabs → F_is_number A T bs O R RX → b_is_number A T (ends0 R RX) (startR N_is_number bs) O) :
    FnOk P w K mg base (L2.CX P w) 1 f fd ["thing"] (lift tabs K (F_is_number A)) :=
  fn_dl (δ := b_is_number A) Fn sc_is_number hl (fun cdv Ar outer s H E T hK hT hr hcd tk ps hN => by
    have hu64 := units64 hr
    have hu1 := units1 hr
    unfold b_is_number
    exact (dss_one (ds_ret (de_and (de_isi (de_var 0) (ce_ty t.bi_int (by rfl)) t.q_int t.bi_isinstance) (de_one (de_not (de_isi (de_var 0) (ce_ty t.bi_bool (by rfl)) t.q_bool t.bi_isinstance))))))) sp
theorem sc_is_between : FnScope N_is_between ["thing", "low", "high"] (defScope (top 6)) := ⟨rfl, rfl, rfl, by decide +kernel, rfl, by decide +kernel, by decide +kernel⟩
theorem wk_is_between {f : Addr} {fd : FuncData} (t : Txt P w K mg base tabs A) (c_is_number : CalD P w K mg base tabs 1 "is_number" (F_is_number A)) (Fn : Fun K "is_between" "is_between" (top 6) f fd)
    (hl : ∀ T bs O R RX, F_is_between A T bs O R RX → bs.length = 3) (sp : ∀ T bs O R RX, T.K = K → T.tabs = tabs → F_is_between A T bs O R RX → b_is_between A T (ends0 R RX) (startR N_is_between bs) O) :
    FnOk P w K mg base (L2.CX P w) 2 f fd ["thing", "low", "high"] (lift tabs K (F_is_between A)) :=
  fn_dl (δ := b_is_between A) Fn sc_is_between hl (fun cdv Ar outer s H E T hK hT hr hcd tk ps hN => by
    have hu64 := units64 hr
    have hu1 := units1 hr
    unfold b_is_between
    exact (dss_one (ds_ret (de_and (de_call hT hK c_is_number hr (by decide) tk (da_cons (de_var 0) da_nil)) (de_one (de_chain op_le op2_le op_le op2_le (de_var 1) (de_var 0) (de_var 2))))))) sp
theorem sc_is_list : FnScope N_is_list ["thing"] (defScope (top 7)) := ⟨rfl, rfl, rfl, by decide +kernel, rfl, by decide +kernel, by decide +kernel⟩
theorem wk_is_list {f : Addr} {fd : FuncData} (t : Txt P w K mg base tabs A)  (Fn : Fun K "is_list" "is_list" (top 7) f fd)
    (hl : ∀ T bs O R RX, F_is_list A T bs O R RX → bs.length = 1) (sp : ∀ T bs O R RX, T.K = K → T.tabs = tabs → F_is_list A T bs O R RX → b_is_list A T (ends0 R RX) (startR N_is_list bs) O) :
    FnOk P w K mg base (L2.CX P w) 1 f fd ["thing"] (lift tabs K (F_is_list A)) :=
  fn_dl (δ := b_is_list A) Fn sc_is_list hl (fun cdv Ar outer s H E T hK hT hr hcd tk ps hN => by
    have hu64 := units64 hr
    have hu1 := units1 hr
    unfold b_is_list
    exact (dss_one (ds_ret (de_isiT (de_var 0) (ces_cons (ce_ty t.bi_list (by rfl)) (ces_cons (ce_ty t.bi_tuple (by rfl)) ces_nil)) t.q_listtuple t.bi_isinstance)))) sp
theorem sc_ascends : FnScope N_ascends ["numbers"] (defScope (top 12)) := ⟨rfl, rfl, rfl, by decide +kernel, rfl, by decide +kernel, by decide +kernel⟩
theorem wk_ascends {f : Addr} {fd : FuncData} (t : Txt P w K mg base tabs A)  (Fn : Fun K "ascends" "ascends" (top 12) f fd)
    (hl : ∀ T bs O R RX, F_ascends A T bs O R RX → bs.length = 1) (sp : ∀ T bs O R RX, T.K = K → T.tabs = tabs → F_ascends A T bs O R RX → b_ascends A T (ends0 R RX) (startR N_ascends bs) O) :
    FnOk P w K mg base (L2.CX P w) 1 f fd ["numbers"] (lift tabs K (F_ascends A)) :=
  fn_dl (δ := b_ascends A) Fn sc_ascends hl (fun cdv Ar outer s H E T hK hT hr hcd tk ps hN => by
    have hu64 := units64 hr
    have hu1 := units1 hr
    unfold b_ascends
    exact (dss_one (ds_ret (de_callB (cr_all rfl) opc_all t.bi_all (by rfl) (da_cons (de_lc rfl (own := [("spot", 1)]) (di_range1 t.bi_range (da_cons (de_op op_sub op2_sub (de_callB opr_len (opc_len hK) t.bi_len (by rfl) (da_cons (de_var 0) da_nil)) de_int) da_nil)) (blkOk_by (by rfl)) (fun _ _ _ _ _ => (dg_name (vs := [1]) 1)) (fun _ _ _ _ _ => dts_nil) (fun _ _ _ _ _ => (de_cmp op_lt op2_lt (de_ix (de_var 0) (de_var 1)) (de_ix (de_var 0) (de_op opr_add op2_add (de_var 1) de_int)) rfl))) da_nil))))) sp
theorem sc_is_size : FnScope N_is_size ["thing"] (defScope (top 13)) := ⟨rfl, rfl, rfl, by decide +kernel, rfl, by decide +kernel, by decide +kernel⟩
theorem wk_is_size {f : Addr} {fd : FuncData} (t : Txt P w K mg base tabs A) (c_is_between : CalD P w K mg base tabs 2 "is_between" (F_is_between A)) (Fn : Fun K "is_size" "is_size" (top 13) f fd)
    (hl : ∀ T bs O R RX, F_is_size A T bs O R RX → bs.length = 1) (sp : ∀ T bs O R RX, T.K = K → T.tabs = tabs → F_is_size A T bs O R RX → b_is_size A T (ends0 R RX) (startR N_is_size bs) O) :
    FnOk P w K mg base (L2.CX P w) 3 f fd ["thing"] (lift tabs K (F_is_size A)) :=
  fn_dl (δ := b_is_size A) Fn sc_is_size hl (fun cdv Ar outer s H E T hK hT hr hcd tk ps hN => by
    have hu64 := units64 hr
    have hu1 := units1 hr
    unfold b_is_size
    exact (dss_one (ds_ret (de_call hT hK c_is_between hr (by decide) tk (da_cons (de_var 0) (da_cons (de_un un_neg op1_neg (de_globE (i := 1000000000000000000000000000000) t.gl_MOST_SIZE)) (da_cons (de_globE (i := 1000000000000000000000000000000) t.gl_MOST_SIZE) da_nil))))))) sp
theorem sc_points_right : FnScope N_points_right ["thing"] (defScope (top 14)) := ⟨rfl, rfl, rfl, by decide +kernel, rfl, by decide +kernel, by decide +kernel⟩
theorem wk_points_right {f : Addr} {fd : FuncData} (t : Txt P w K mg base tabs A) (c_ascends : CalD P w K mg base tabs 1 "ascends" (F_ascends A)) (c_is_list : CalD P w K mg base tabs 1 "is_list" (F_is_list A)) (c_is_size : CalD P w K mg base tabs 3 "is_size" (F_is_size A)) (Fn : Fun K "points_right" "points_right" (top 14) f fd)
    (hl : ∀ T bs O R RX, F_points_right A T bs O R RX → bs.length = 1) (sp : ∀ T bs O R RX, T.K = K → T.tabs = tabs → F_points_right A T bs O R RX → b_points_right A T (ends0 R RX) (startR N_points_right bs) O) :
    FnOk P w K mg base (L2.CX P w) 4 f fd ["thing"] (lift tabs K (F_points_right A)) :=
  fn_dl (δ := b_points_right A) Fn sc_points_right hl (fun cdv Ar outer s H E T hK hT hr hcd tk ps hN => by
    have hu64 := units64 hr
    have hu1 := units1 hr
    unfold b_points_right
    exact (dss_cons (ds_if (DW.dt (dw_or (dt_not (dt_val (de_call hT hK c_is_list hr (by decide) tk (da_cons (de_var 0) da_nil)))) (dw_or1 (dt_not (dt_chain op_le op2_le op_le op2_le de_int (de_callB opr_len (opc_len hK) t.bi_len (by rfl) (da_cons (de_var 0) da_nil)) (de_globE (i := 200) t.gl_MOST_POINTS)))))) (dss_one (ds_ret de_bl)) dss_nil) (dss_one (ds_ret (de_and (de_callB (cr_all rfl) opc_all t.bi_all (by rfl) (da_cons (de_lc rfl (own := [("item", 1)]) (di_seq hK (de_var 0)) (blkOk_by (by rfl)) (fun _ _ _ _ _ => (dg_name (vs := [1]) 1)) (fun _ _ _ _ _ => dts_nil) (fun _ _ _ _ _ => (de_call hT hK c_is_size hr (by decide) LamX.takes0 (da_cons (de_var 1) da_nil)))) da_nil)) (de_one (de_call hT hK c_ascends hr (by decide) tk (da_cons (de_var 0) da_nil)))))))) sp
theorem sc_told_slopes : FnScope N_told_slopes ["slopes"] (defScope (top 15)) := ⟨rfl, rfl, rfl, by decide +kernel, rfl, by decide +kernel, by decide +kernel⟩
theorem wk_told_slopes {f : Addr} {fd : FuncData} (t : Txt P w K mg base tabs A)  (Fn : Fun K "told_slopes" "told_slopes" (top 15) f fd)
    (hl : ∀ T bs O R RX, F_told_slopes A T bs O R RX → bs.length = 1) (sp : ∀ T bs O R RX, T.K = K → T.tabs = tabs → F_told_slopes A T bs O R RX → b_told_slopes A T (ends0 R RX) (startR N_told_slopes bs) O) :
    FnOk P w K mg base (L2.CX P w) 1 f fd ["slopes"] (lift tabs K (F_told_slopes A)) :=
  fn_dl (δ := b_told_slopes A) Fn sc_told_slopes hl (fun cdv Ar outer s H E T hK hT hr hcd tk ps hN => by
    have hu64 := units64 hr
    have hu1 := units1 hr
    unfold b_told_slopes
    exact (dss_one (ds_ret (de_lc rfl (own := [("item", 1)]) (di_seq hK (de_var 0)) (blkOk_by (by rfl)) (fun _ _ _ _ _ => (dg_name (vs := [1]) 1)) (fun _ _ _ _ _ => (dts_one (dt_cmp opr_isNot op2_isNot (de_var 1) de_non rfl))) (fun _ _ _ _ _ => (de_var 1)))))) sp
theorem sc_slopes_right : FnScope N_slopes_right ["many", "thing"] (defScope (top 16)) := ⟨rfl, rfl, rfl, by decide +kernel, rfl, by decide +kernel, by decide +kernel⟩
theorem wk_slopes_right {f : Addr} {fd : FuncData} (t : Txt P w K mg base tabs A) (c_ascends : CalD P w K mg base tabs 1 "ascends" (F_ascends A)) (c_is_list : CalD P w K mg base tabs 1 "is_list" (F_is_list A)) (c_is_size : CalD P w K mg base tabs 3 "is_size" (F_is_size A)) (c_told_slopes : CalD P w K mg base tabs 1 "told_slopes" (F_told_slopes A)) (Fn : Fun K "slopes_right" "slopes_right" (top 16) f fd)
    (hl : ∀ T bs O R RX, F_slopes_right A T bs O R RX → bs.length = 2) (sp : ∀ T bs O R RX, T.K = K → T.tabs = tabs → F_slopes_right A T bs O R RX → b_slopes_right A T (ends0 R RX) (startR N_slopes_right bs) O) :
    FnOk P w K mg base (L2.CX P w) 4 f fd ["many", "thing"] (lift tabs K (F_slopes_right A)) :=
  fn_dl (δ := b_slopes_right A) Fn sc_slopes_right hl (fun cdv Ar outer s H E T hK hT hr hcd tk ps hN => by
    have hu64 := units64 hr
    have hu1 := units1 hr
    unfold b_slopes_right
    exact (dss_cons (ds_if (DW.dt (dw_or (dt_not (dt_val (de_call hT hK c_is_list hr (by decide) tk (da_cons (de_var 1) da_nil)))) (dw_or1 (dt_cmp (opr_ne hu64) op2_ne (de_callB opr_len (opc_len hK) t.bi_len (by rfl) (da_cons (de_var 1) da_nil)) (de_op opr_add op2_add (de_var 0) de_int) rfl)))) (dss_one (ds_ret de_bl)) dss_nil) (dss_cons (ds_if (DW.dt (dw_or (dt_not (dt_val (de_callB (cr_all rfl) opc_all t.bi_all (by rfl) (da_cons (de_lc rfl (own := [("item", 3)]) (di_seq hK (de_slice (de_var 1) (do_some de_int) (do_some (de_un un_neg op1_neg de_int)))) (blkOk_by (by rfl)) (fun _ _ _ _ _ => (dg_name (vs := [3]) 3)) (fun _ _ _ _ _ => dts_nil) (fun _ _ _ _ _ => (de_call hT hK c_is_size hr (by decide) LamX.takes0 (da_cons (de_var 3) da_nil)))) da_nil)))) (dw_or1 (dt_not (dt_val (de_callB (cr_all rfl) opc_all t.bi_all (by rfl) (da_cons (de_lc rfl (own := [("item", 3)]) (di_seq hK (de_var 1)) (blkOk_by (by rfl)) (fun _ _ _ _ _ => (dg_name (vs := [3]) 3)) (fun _ _ _ _ _ => dts_nil) (fun _ _ _ _ _ => (de_or (de_cmp opr_is op2_is (de_var 3) de_non rfl) (de_one (de_call hT hK c_is_size hr (by decide) LamX.takes0 (da_cons (de_var 3) da_nil)))))) da_nil))))))) (dss_one (ds_ret de_bl)) dss_nil) (dss_cons (ds_set 2 (de_call hT hK c_told_slopes hr (by decide) tk (da_cons (de_var 1) da_nil))) (dss_one (ds_ret (de_and (de_chain op_le op2_le op_le op2_le de_int (de_callB opr_len (opc_len hK) t.bi_len (by rfl) (da_cons (de_var 2) da_nil)) (de_globE (i := 200) t.gl_MOST_POINTS)) (de_one (de_call hT hK c_ascends hr (by decide) tk (da_cons (de_var 2) da_nil)))))))))) sp
theorem sc_Bent___init__ : FnScope N_Bent___init__ ["self", "points", "slopes", "value"] (defScope (meth 17 0)) := ⟨rfl, rfl, rfl, by decide +kernel, rfl, by decide +kernel, by decide +kernel⟩
theorem wk_Bent___init__ {f : Addr} {fd : FuncData} (t : Txt P w K mg base tabs A)  (Fn : Fun K "__init__" "Bent.__init__" (meth 17 0) f fd)
    (hl : ∀ T bs O R RX, F_Bent___init__ A T bs O R RX → bs.length = 4) (sp : ∀ T bs O R RX, T.K = K → T.tabs = tabs → F_Bent___init__ A T bs O R RX → b_Bent___init__ A T (ends0 R RX) (startR N_Bent___init__ bs) O) :
    FnOk P w K mg base (L2.CX P w) 1 f fd ["self", "points", "slopes", "value"] (lift tabs K (F_Bent___init__ A)) :=
  fn_dl (δ := b_Bent___init__ A) Fn sc_Bent___init__ hl (fun cdv Ar outer s H E T hK hT hr hcd tk ps hN => by
    have hu64 := units64 hr
    have hu1 := units1 hr
    unfold b_Bent___init__
    exact (dss_cons (ds_stF (L := A.inst) (de_var 0) (de_callTy opr_tuple opc_tuple t.bi_tuple (by rfl) (da_cons (de_var 1) da_nil)) t.fld_own_points) (dss_cons (ds_stF (L := A.inst) (de_var 0) (de_callTy opr_tuple opc_tuple t.bi_tuple (by rfl) (da_cons (de_var 2) da_nil)) t.fld_own_slopes) (dss_one (ds_stF (L := A.inst) (de_var 0) (de_var 3) t.fld_own_value))))) sp
theorem sc_Bent_points : FnScope N_Bent_points ["self"] (defScope (meth 17 1)) := ⟨rfl, rfl, rfl, by decide +kernel, rfl, by decide +kernel, by decide +kernel⟩
theorem wk_Bent_points {f : Addr} {fd : FuncData} (t : Txt P w K mg base tabs A)  (Fn : Fun K "points" "Bent.points" (meth 17 1) f fd)
    (hl : ∀ T bs O R RX, F_Bent_points A T bs O R RX → bs.length = 1) (sp : ∀ T bs O R RX, T.K = K → T.tabs = tabs → F_Bent_points A T bs O R RX → b_Bent_points A T (ends0 R RX) (startR N_Bent_points bs) O) :
    FnOk P w K mg base (L2.CX P w) 1 f fd ["self"] (lift tabs K (F_Bent_points A)) :=
  fn_dl (δ := b_Bent_points A) Fn sc_Bent_points hl (fun cdv Ar outer s H E T hK hT hr hcd tk ps hN => by
    have hu64 := units64 hr
    have hu1 := units1 hr
    unfold b_Bent_points
    exact (dss_one (ds_ret (de_fld (L := A.inst) (de_var 0) t.fld_own_points)))) sp
theorem sc_Bent_slopes : FnScope N_Bent_slopes ["self"] (defScope (meth 17 2)) := ⟨rfl, rfl, rfl, by decide +kernel, rfl, by decide +kernel, by decide +kernel⟩
theorem wk_Bent_slopes {f : Addr} {fd : FuncData} (t : Txt P w K mg base tabs A)  (Fn : Fun K "slopes" "Bent.slopes" (meth 17 2) f fd)
    (hl : ∀ T bs O R RX, F_Bent_slopes A T bs O R RX → bs.length = 1) (sp : ∀ T bs O R RX, T.K = K → T.tabs = tabs → F_Bent_slopes A T bs O R RX → b_Bent_slopes A T (ends0 R RX) (startR N_Bent_slopes bs) O) :
    FnOk P w K mg base (L2.CX P w) 1 f fd ["self"] (lift tabs K (F_Bent_slopes A)) :=
  fn_dl (δ := b_Bent_slopes A) Fn sc_Bent_slopes hl (fun cdv Ar outer s H E T hK hT hr hcd tk ps hN => by
    have hu64 := units64 hr
    have hu1 := units1 hr
    unfold b_Bent_slopes
    exact (dss_one (ds_ret (de_fld (L := A.inst) (de_var 0) t.fld_own_slopes)))) sp
theorem sc_Bent_value : FnScope N_Bent_value ["self"] (defScope (meth 17 3)) := ⟨rfl, rfl, rfl, by decide +kernel, rfl, by decide +kernel, by decide +kernel⟩
theorem wk_Bent_value {f : Addr} {fd : FuncData} (t : Txt P w K mg base tabs A)  (Fn : Fun K "value" "Bent.value" (meth 17 3) f fd)
    (hl : ∀ T bs O R RX, F_Bent_value A T bs O R RX → bs.length = 1) (sp : ∀ T bs O R RX, T.K = K → T.tabs = tabs → F_Bent_value A T bs O R RX → b_Bent_value A T (ends0 R RX) (startR N_Bent_value bs) O) :
    FnOk P w K mg base (L2.CX P w) 1 f fd ["self"] (lift tabs K (F_Bent_value A)) :=
  fn_dl (δ := b_Bent_value A) Fn sc_Bent_value hl (fun cdv Ar outer s H E T hK hT hr hcd tk ps hN => by
    have hu64 := units64 hr
    have hu1 := units1 hr
    unfold b_Bent_value
    exact (dss_one (ds_ret (de_fld (L := A.inst) (de_var 0) t.fld_own_value)))) sp
theorem sc_Line___init__ : FnScope N_Line___init__ ["self", "points", "slopes", "value"] (defScope (meth 18 0)) := ⟨rfl, rfl, rfl, by decide +kernel, rfl, by decide +kernel, by decide +kernel⟩
theorem wk_Line___init__ {f : Addr} {fd : FuncData} (t : Txt P w K mg base tabs A) (c_Bent___init__ : CalA P w K mg base tabs 1 A.a_Bent___init__ (F_Bent___init__ A)) (c_is_between : CalD P w K mg base tabs 2 "is_between" (F_is_between A)) (c_points_right : CalD P w K mg base tabs 4 "points_right" (F_points_right A)) (c_slopes_right : CalD P w K mg base tabs 4 "slopes_right" (F_slopes_right A)) (Fn : Fun K "__init__" "Line.__init__" (meth 18 0) f fd)
    (hl : ∀ T bs O R RX, F_Line___init__ A T bs O R RX → bs.length = 4) (sp : ∀ T bs O R RX, T.K = K → T.tabs = tabs → F_Line___init__ A T bs O R RX → b_Line___init__ A T (ends0 R RX) (startR N_Line___init__ bs) O) :
    FnOk P w K mg base (L2.CX P w) 5 f fd ["self", "points", "slopes", "value"] (lift tabs K (F_Line___init__ A)) :=
  fn_dl (δ := b_Line___init__ A) Fn sc_Line___init__ hl (fun cdv Ar outer s H E T hK hT hr hcd tk ps hN => by
    have hu64 := units64 hr
    have hu1 := units1 hr
    unfold b_Line___init__
    exact (dss_cons (ds_if (dt_not (dt_val (de_call hT hK c_points_right hr (by decide) tk (da_cons (de_var 1) da_nil)))) (dss_one (ds_raiseE rfl tk t.xs_BadLine hr (by decide) t.bi_super t.mg_BadLine de_str)) dss_nil) (dss_cons (ds_if (dt_not (dt_val (de_call hT hK c_slopes_right hr (by decide) tk (da_cons (de_callB opr_len (opc_len hK) t.bi_len (by rfl) (da_cons (de_var 1) da_nil)) (da_cons (de_var 2) da_nil))))) (dss_one (ds_raiseE rfl tk t.xs_BadLine hr (by decide) t.bi_super t.mg_BadLine de_str)) dss_nil) (dss_cons (ds_if (dt_not (dt_val (de_call hT hK c_is_between hr (by decide) tk (da_cons (de_var 3) (da_cons (de_un un_neg op1_neg (de_globE (i := 1000000000000000000000000000000000000000000000000000000000000000000000000000000000000000000000000000000000000000000000000000000000000000000000000000000000000000000000000000000000000000000000000000000000000000000000000000000000000000000000000000000000000000000000000000000000000000000000000000000000000) t.gl_MOST_VALUE)) (da_cons (de_globE (i := 1000000000000000000000000000000000000000000000000000000000000000000000000000000000000000000000000000000000000000000000000000000000000000000000000000000000000000000000000000000000000000000000000000000000000000000000000000000000000000000000000000000000000000000000000000000000000000000000000000000000000) t.gl_MOST_VALUE) da_nil)))))) (dss_one (ds_raiseE rfl tk t.xs_BadLine hr (by decide) t.bi_super t.mg_BadLine de_str)) dss_nil) (dss_one (ds_expr (de_clscall hT hK t.cf_Bent___init__ c_Bent___init__ hr (by decide) tk (da_cons (de_var 0) (da_cons (de_var 1) (da_cons (de_var 2) (da_cons (de_var 3) da_nil)))) t.mg_Bent))))))) sp
theorem sc_Line___eq__ : FnScope N_Line___eq__ ["self", "other"] (defScope (meth 18 1)) := ⟨rfl, rfl, rfl, by decide +kernel, rfl, by decide +kernel, by decide +kernel⟩
theorem wk_Line___eq__ {f : Addr} {fd : FuncData} (t : Txt P w K mg base tabs A)  (Fn : Fun K "__eq__" "Line.__eq__" (meth 18 1) f fd)
    (hl : ∀ T bs O R RX, F_Line___eq__ A T bs O R RX → bs.length = 2) (sp : ∀ T bs O R RX, T.K = K → T.tabs = tabs → F_Line___eq__ A T bs O R RX → b_Line___eq__ A T (ends0 R RX) (startR N_Line___eq__ bs) O) :
    FnOk P w K mg base (L2.CX P w) 1 f fd ["self", "other"] (lift tabs K (F_Line___eq__ A)) :=
  fn_dl (δ := b_Line___eq__ A) Fn sc_Line___eq__ hl (fun cdv Ar outer s H E T hK hT hr hcd tk ps hN => by
    have hu64 := units64 hr
    have hu1 := units1 hr
    unfold b_Line___eq__
    exact (dss_cons (ds_if (DW.dt (dw_or (dt_not (dt_val (de_isi (de_var 1) (ce_own t.mg_Line) t.q_line t.bi_isinstance))) (dw_or1 (dt_cmp (opr_ne hu64) op2_ne (de_fld (L := A.inst) (de_var 0) t.fld_own_points) (de_fld (L := A.inst) (de_var 1) t.fld_own_points) rfl)))) (dss_one (ds_ret de_bl)) dss_nil) (dss_one (ds_ret (de_and (de_cmp (opr_eq hu64) op2_eq (de_fld (L := A.inst) (de_var 0) t.fld_own_slopes) (de_fld (L := A.inst) (de_var 1) t.fld_own_slopes) rfl) (de_one (de_cmp (opr_eq hu64) op2_eq (de_fld (L := A.inst) (de_var 0) t.fld_own_value) (de_fld (L := A.inst) (de_var 1) t.fld_own_value) rfl))))))) sp
theorem sc__law_begun : FnScope N__law_begun ["script"] (defScope (top 20)) := ⟨rfl, rfl, rfl, by decide +kernel, rfl, by decide +kernel, by decide +kernel⟩
theorem wk__law_begun {f : Addr} {fd : FuncData} (t : Txt P w K mg base tabs A)  (Fn : Fun K "_law_begun" "_law_begun" (top 20) f fd)
    (hl : ∀ T bs O R RX, F__law_begun A T bs O R RX → bs.length = 1) (sp : ∀ T bs O R RX, T.K = K → T.tabs = tabs → F__law_begun A T bs O R RX → b__law_begun A T (ends0 R RX) (startR N__law_begun bs) O) :
    FnOk P w K mg base (L2.CX P w) 1 f fd ["script"] (lift tabs K (F__law_begun A)) :=
  fn_dl (δ := b__law_begun A) Fn sc__law_begun hl (fun cdv Ar outer s H E T hK hT hr hcd tk ps hN => by
    have hu64 := units64 hr
    have hu1 := units1 hr
    unfold b__law_begun
    exact (dss_cons (ds_setLc 1 rfl (hsw := rfl) (own := [("cell", 2)]) (di_seq hK (de_var 0)) (blkOk_by (by rfl)) (fun _ _ _ _ _ => (dg_name (vs := [2]) 2)) (fun _ _ _ _ _ => (dts_one (dt_cmp op_ge op2_ge (de_callB call_abs opc_abs t.bi_abs (by rfl) (da_cons (de_var 2) da_nil)) (de_op op_pow op2_pow de_int de_int) rfl))) (fun _ _ _ _ _ => (de_op op_sub op2_sub (de_callB call_abs opc_abs t.bi_abs (by rfl) (da_cons (de_var 2) da_nil)) (de_op op_pow op2_pow de_int de_int)))) (dss_one (ds_ret (de_begun drk_ok (de_var 1) (de_lc rfl (own := [("cell", 2)]) (di_seq hK (de_var 0)) (blkOk_by (by rfl)) (fun _ _ _ _ _ => (dg_name (vs := [2]) 2)) (fun _ _ _ _ _ => dts_nil) (fun _ _ _ _ _ => (de_callB call_abs opc_abs t.bi_abs (by rfl) (da_cons (de_var 2) da_nil))))))))) sp
theorem sc__law_blended : FnScope N__law_blended ["state"] (defScope (top 21)) := ⟨rfl, rfl, rfl, by decide +kernel, rfl, by decide +kernel, by decide +kernel⟩
theorem wk__law_blended {f : Addr} {fd : FuncData} (t : Txt P w K mg base tabs A)  (Fn : Fun K "_law_blended" "_law_blended" (top 21) f fd)
    (hl : ∀ T bs O R RX, F__law_blended A T bs O R RX → bs.length = 1) (sp : ∀ T bs O R RX, T.K = K → T.tabs = tabs → F__law_blended A T bs O R RX → b__law_blended A T (ends0 R RX) (startR N__law_blended bs) O) :
    FnOk P w K mg base (L2.CX P w) 1 f fd ["state"] (lift tabs K (F__law_blended A)) :=
  fn_dl (δ := b__law_blended A) Fn sc__law_blended hl (fun cdv Ar outer s H E T hK hT hr hcd tk ps hN => by
    have hu64 := units64 hr
    have hu1 := units1 hr
    unfold b__law_blended
    exact (dss_cons (ds_par (i := 1) (j := 2) (da_cons (de_op opr_add op2_add (de_dgT (ks := drk) hu1 (de_var 0)) de_int) (da_cons de_int da_nil)) rfl) (dss_cons (ds_dpT drk_ok hu1 (de_var 0) (de_var 1)) (dss_cons (ds_for ps rfl (di_seq hK (de_lst (da_cons de_int (da_cons de_int (da_cons de_int da_nil))))) (dg_name (vs := [3]) 3) (dss_cons (ds_set 4 (de_op opr_add op2_add (de_op opr_mul op2_mul de_int (de_var 1)) (de_op op_fdivW op2_div (de_var 3) de_int))) (dss_cons (ds_for ps rfl (di_cells (ks := drk) hu1 (de_var 0)) (dg_name (vs := [5]) 5) (dss_one (ds_set 4 (de_op op_mod op2_mod (de_callTy call_int1 opc_int t.bi_int (by rfl) (da_cons (de_op opr_add op2_add (de_op opr_add op2_add (de_op opr_mul op2_mul (de_var 4) de_int) (de_var 5)) (de_var 1)) da_nil)) (de_var 3))))) (dss_one (ds_set 2 (de_op opr_add op2_add (de_op opr_mul op2_mul (de_var 2) de_int) (de_op op_mod op2_mod (de_callTy call_int1 opc_int t.bi_int (by rfl) (da_cons (de_op op_pow op2_pow (de_var 4) de_int) da_nil)) (de_var 3)))))))) (dss_one (ds_ret (de_var 2))))))) sp
theorem sc__law_draw : FnScope N__law_draw ["state", "room"] (defScope (top 22)) := ⟨rfl, rfl, rfl, by decide +kernel, rfl, by decide +kernel, by decide +kernel⟩
theorem wk__law_draw {f : Addr} {fd : FuncData} (t : Txt P w K mg base tabs A) (c__law_blended : CalD P w K mg base tabs 1 "_law_blended" (F__law_blended A)) (Fn : Fun K "_law_draw" "_law_draw" (top 22) f fd)
    (hl : ∀ T bs O R RX, F__law_draw A T bs O R RX → bs.length = 2) (sp : ∀ T bs O R RX, T.K = K → T.tabs = tabs → F__law_draw A T bs O R RX → b__law_draw A T (ends0 R RX) (startR N__law_draw bs) O) :
    FnOk P w K mg base (L2.CX P w) 2 f fd ["state", "room"] (lift tabs K (F__law_draw A)) :=
  fn_dl (δ := b__law_draw A) Fn sc__law_draw hl (fun cdv Ar outer s H E T hK hT hr hcd tk ps hN => by
    have hu64 := units64 hr
    have hu1 := units1 hr
    unfold b__law_draw
    exact (dss_cons (ds_if (dt_cmp (opr_eq hu64) op2_eq (de_dgR (ks := drk) hu1 (de_var 0)) de_int rfl) (dss_one (ds_dpR drk_ok hu1 (de_var 0) (de_gpop (ks := drk) (i := 0) hu64 (pe_var rfl (by first | exact Or.inl rfl | exact Or.inr (Or.inl rfl) | exact Or.inr (Or.inr rfl))) (pe_var rfl (by first | exact Or.inl rfl | exact Or.inr (Or.inl rfl) | exact Or.inr (Or.inr rfl))) (de_call hT hK c__law_blended hr (by decide) tk (da_cons (de_var 0) da_nil)) rfl))) dss_nil) (dss_cons (ds_set 2 (de_op op_mod op2_mod (de_callTy call_int1 opc_int t.bi_int (by rfl) (da_cons (de_dgR (ks := drk) hu1 (de_var 0)) da_nil)) (de_var 1))) (dss_cons (ds_dpR drk_ok hu1 (de_var 0) (de_op op_fdivW op2_div (de_dgR (ks := drk) hu1 (de_var 0)) (de_var 1))) (dss_one (ds_ret (de_var 2))))))) sp
theorem sc__law_pick : FnScope N__law_pick ["state", "some"] (defScope (top 23)) := ⟨rfl, rfl, rfl, by decide +kernel, rfl, by decide +kernel, by decide +kernel⟩
theorem wk__law_pick {f : Addr} {fd : FuncData} (t : Txt P w K mg base tabs A) (c__law_draw : CalD P w K mg base tabs 2 "_law_draw" (F__law_draw A)) (Fn : Fun K "_law_pick" "_law_pick" (top 23) f fd)
    (hl : ∀ T bs O R RX, F__law_pick A T bs O R RX → bs.length = 2) (sp : ∀ T bs O R RX, T.K = K → T.tabs = tabs → F__law_pick A T bs O R RX → b__law_pick A T (ends0 R RX) (startR N__law_pick bs) O) :
    FnOk P w K mg base (L2.CX P w) 3 f fd ["state", "some"] (lift tabs K (F__law_pick A)) :=
  fn_dl (δ := b__law_pick A) Fn sc__law_pick hl (fun cdv Ar outer s H E T hK hT hr hcd tk ps hN => by
    have hu64 := units64 hr
    have hu1 := units1 hr
    unfold b__law_pick
    exact (dss_one (ds_ret (de_ix (de_var 1) (de_call hT hK c__law_draw hr (by decide) tk (da_cons (de_var 0) (da_cons (de_callB opr_len (opc_len hK) t.bi_len (by rfl) (da_cons (de_var 1) da_nil)) da_nil))))))) sp
theorem sc__law_is_truth : FnScope N__law_is_truth ["found", "due"] (defScope (top 25)) := ⟨rfl, rfl, rfl, by decide +kernel, rfl, by decide +kernel, by decide +kernel⟩
theorem wk__law_is_truth {f : Addr} {fd : FuncData} (t : Txt P w K mg base tabs A)  (Fn : Fun K "_law_is_truth" "_law_is_truth" (top 25) f fd)
    (hl : ∀ T bs O R RX, F__law_is_truth A T bs O R RX → bs.length = 2) (sp : ∀ T bs O R RX, T.K = K → T.tabs = tabs → F__law_is_truth A T bs O R RX → b__law_is_truth A T (ends0 R RX) (startR N__law_is_truth bs) O) :
    FnOk P w K mg base (L2.CX P w) 1 f fd ["found", "due"] (lift tabs K (F__law_is_truth A)) :=
  fn_dl (δ := b__law_is_truth A) Fn sc__law_is_truth hl (fun cdv Ar outer s H E T hK hT hr hcd tk ps hN => by
    have hu64 := units64 hr
    have hu1 := units1 hr
    unfold b__law_is_truth
    exact (dss_one (ds_ret (de_if (dt_val (de_var 1)) (de_cmp opr_is op2_is (de_var 0) de_bl rfl) (de_cmp opr_is op2_is (de_var 0) de_bl rfl))))) sp
theorem sc__law_same : FnScope N__law_same ["found", "due"] (defScope (top 26)) := ⟨rfl, rfl, rfl, by decide +kernel, rfl, by decide +kernel, by decide +kernel⟩
theorem wk__law_same {f : Addr} {fd : FuncData} (t : Txt P w K mg base tabs A) (c__law_is_truth : CalD P w K mg base tabs 1 "_law_is_truth" (F__law_is_truth A)) (Fn : Fun K "_law_same" "_law_same" (top 26) f fd)
    (hl : ∀ T bs O R RX, F__law_same A T bs O R RX → bs.length = 2) (sp : ∀ T bs O R RX, T.K = K → T.tabs = tabs → F__law_same A T bs O R RX → b__law_same A T (ends0 R RX) (startR N__law_same bs) O) :
    FnOk P w K mg base (L2.CX P w) 2 f fd ["found", "due"] (lift tabs K (F__law_same A)) :=
  fn_dl (δ := b__law_same A) Fn sc__law_same hl (fun cdv Ar outer s H E T hK hT hr hcd tk ps hN => by
    have hu64 := units64 hr
    have hu1 := units1 hr
    unfold b__law_same
    exact (dss_cons (ds_set 2 (de_lstO (da_cons (de_tup (da_cons (de_var 0) (da_cons (de_var 1) da_nil))) da_nil))) (dss_cons (ds_while ps (dt_cmp (opr_ne hu64) op2_ne (de_var 2) (de_lst da_nil) rfl) (dss_cons (ds_asg (de_bm0 PySem.F.slot_list_pop PySem.F.type_list_pop (mtr mt_pop) opm_pop (de_var 2)) (dg_tup (n := 2) rfl (dgs_cons (dg_name (vs := [3, 4]) 3) (dgs_cons (dg_name (vs := [3, 4]) 4) dgs_nil)))) (dss_one (ds_if (DW.dt (dw_or (dt_cmp opr_is op2_is (de_var 4) de_non rfl) (dw_or1 (dt_val (de_isi (de_var 4) (ce_ty t.bi_bool (by rfl)) t.q_bool t.bi_isinstance))))) (dss_one (ds_if (dt_if (dt_cmp opr_is op2_is (de_var 4) de_non rfl) (dt_cmp opr_isNot op2_isNot (de_var 3) de_non rfl) (dt_not (dt_val (de_call hT hK c__law_is_truth hr (by decide) tk (da_cons (de_var 3) (da_cons (de_var 4) da_nil)))))) (dss_one (ds_ret de_bl)) dss_nil)) (dss_one (ds_if (dt_val (de_isiT (de_var 4) (ces_cons (ce_ty t.bi_int (by rfl)) (ces_cons (ce_ty t.bi_str (by rfl)) ces_nil)) t.q_intstr t.bi_isinstance)) (dss_one (ds_if (DW.dt (dw_or (dt_val (de_isi (de_var 3) (ce_ty t.bi_bool (by rfl)) t.q_bool t.bi_isinstance)) (dw_or (dt_cmp (opr_ne hu64) op2_ne (de_isi (de_var 3) (ce_ty t.bi_int (by rfl)) t.q_int t.bi_isinstance) (de_isi (de_var 4) (ce_ty t.bi_int (by rfl)) t.q_int t.bi_isinstance) rfl) (dw_or1 (dt_cmp (opr_ne hu64) op2_ne (de_var 3) (de_var 4) rfl))))) (dss_one (ds_ret de_bl)) dss_nil)) (dss_one (ds_if (dt_val (de_isi (de_var 4) (ce_ty t.bi_dict (by rfl)) t.q_dict t.bi_isinstance)) dss_never (dss_cons (ds_set 5 (de_lst (da_cons (de_and (de_isi (de_var 3) (ce_ty t.bi_tuple (by rfl)) t.q_tuple t.bi_isinstance) (de_one (de_isi (de_var 4) (ce_ty t.bi_tuple (by rfl)) t.q_tuple t.bi_isinstance))) (da_cons (de_and (de_isi (de_var 3) (ce_ty t.bi_list (by rfl)) t.q_list t.bi_isinstance) (de_one (de_isi (de_var 4) (ce_ty t.bi_list (by rfl)) t.q_list t.bi_isinstance))) da_nil)))) (dss_cons (ds_if (DW.dt (dw_or (dt_cmp op_notIn_seq op2_in de_bl (de_var 5) rfl) (dw_or1 (dt_cmp (opr_ne hu64) op2_ne (de_callB opr_len (opc_len hK) t.bi_len (by rfl) (da_cons (de_var 3) da_nil)) (de_callB opr_len (opc_len hK) t.bi_len (by rfl) (da_cons (de_var 4) da_nil)) rfl)))) (dss_one (ds_ret de_bl)) dss_nil) (dss_one (ds_expr (de_bm PySem.F.slot_list_extend PySem.F.type_list_extend (mtr mt_extend) opm_extend (de_var 2) (da_cons (de_lc rfl (own := [("left", 7), ("right", 8)]) (di_zip t.bi_zip (da_cons (de_var 3) (da_cons (de_var 4) da_nil))) (blkOk_by (by rfl)) (fun _ _ _ _ _ => (dg_tup (n := 2) rfl (dgs_cons (dg_name (vs := [7, 8]) 7) (dgs_cons (dg_name (vs := [7, 8]) 8) dgs_nil)))) (fun _ _ _ _ _ => dts_nil) (fun _ _ _ _ _ => (de_tup (da_cons (de_var 7) (da_cons (de_var 8) da_nil))))) da_nil)))))))))))))) (dss_one (ds_ret de_bl))))) sp
theorem sc__law_is_number : FnScope N__law_is_number ["value"] (defScope (top 27)) := ⟨rfl, rfl, rfl, by decide +kernel, rfl, by decide +kernel, by decide +kernel⟩
theorem wk__law_is_number {f : Addr} {fd : FuncData} (t : Txt P w K mg base tabs A)  (Fn : Fun K "_law_is_number" "_law_is_number" (top 27) f fd)
    (hl : ∀ T bs O R RX, F__law_is_number A T bs O R RX → bs.length = 1) (sp : ∀ T bs O R RX, T.K = K → T.tabs = tabs → F__law_is_number A T bs O R RX → b__law_is_number A T (ends0 R RX) (startR N__law_is_number bs) O) :
    FnOk P w K mg base (L2.CX P w) 1 f fd ["value"] (lift tabs K (F__law_is_number A)) :=
  fn_dl (δ := b__law_is_number A) Fn sc__law_is_number hl (fun cdv Ar outer s H E T hK hT hr hcd tk ps hN => by
    have hu64 := units64 hr
    have hu1 := units1 hr
    unfold b__law_is_number
    exact (dss_one (ds_ret (de_and (de_isi (de_var 0) (ce_ty t.bi_int (by rfl)) t.q_int t.bi_isinstance) (de_one (de_not (de_isi (de_var 0) (ce_ty t.bi_bool (by rfl)) t.q_bool t.bi_isinstance))))))) sp
theorem sc__law_bl_far : FnScope N__law_bl_far [] (defScope (top 28)) := ⟨rfl, rfl, rfl, by decide +kernel, rfl, by decide +kernel, by decide +kernel⟩
theorem wk__law_bl_far {f : Addr} {fd : FuncData} (t : Txt P w K mg base tabs A)  (Fn : Fun K "_law_bl_far" "_law_bl_far" (top 28) f fd)
    (hl : ∀ T bs O R RX, F__law_bl_far A T bs O R RX → bs.length = 0) (sp : ∀ T bs O R RX, T.K = K → T.tabs = tabs → F__law_bl_far A T bs O R RX → b__law_bl_far A T (ends0 R RX) (startR N__law_bl_far bs) O) :
    FnOk P w K mg base (L2.CX P w) 1 f fd [] (lift tabs K (F__law_bl_far A)) :=
  fn_dl (δ := b__law_bl_far A) Fn sc__law_bl_far hl (fun cdv Ar outer s H E T hK hT hr hcd tk ps hN => by
    have hu64 := units64 hr
    have hu1 := units1 hr
    unfold b__law_bl_far
    exact (dss_one (ds_ret (de_op opr_mul op2_mul (de_op op_pow op2_pow de_int de_int) (de_op op_pow op2_pow de_int de_int))))) sp
theorem sc__law_bl_top : FnScope N__law_bl_top [] (defScope (top 29)) := ⟨rfl, rfl, rfl, by decide +kernel, rfl, by decide +kernel, by decide +kernel⟩
theorem wk__law_bl_top {f : Addr} {fd : FuncData} (t : Txt P w K mg base tabs A) (c__law_bl_far : CalD P w K mg base tabs 1 "_law_bl_far" (F__law_bl_far A)) (Fn : Fun K "_law_bl_top" "_law_bl_top" (top 29) f fd)
    (hl : ∀ T bs O R RX, F__law_bl_top A T bs O R RX → bs.length = 0) (sp : ∀ T bs O R RX, T.K = K → T.tabs = tabs → F__law_bl_top A T bs O R RX → b__law_bl_top A T (ends0 R RX) (startR N__law_bl_top bs) O) :
    FnOk P w K mg base (L2.CX P w) 2 f fd [] (lift tabs K (F__law_bl_top A)) :=
  fn_dl (δ := b__law_bl_top A) Fn sc__law_bl_top hl (fun cdv Ar outer s H E T hK hT hr hcd tk ps hN => by
    have hu64 := units64 hr
    have hu1 := units1 hr
    unfold b__law_bl_top
    exact (dss_cons (ds_set 0 de_int) (dss_cons (ds_for ps rfl (di_range1 t.bi_range (da_cons de_int da_nil)) (dg_name (vs := [1]) 1) (dss_one (ds_set 0 (de_op opr_mul op2_mul (de_var 0) (de_call0 hT hK c__law_bl_far hr (by decide) tk))))) (dss_one (ds_ret (de_var 0)))))) sp
theorem sc__law_bl_rising : FnScope N__law_bl_rising ["draws", "many", "reach"] (defScope (top 30)) := ⟨rfl, rfl, rfl, by decide +kernel, rfl, by decide +kernel, by decide +kernel⟩
theorem wk__law_bl_rising {f : Addr} {fd : FuncData} (t : Txt P w K mg base tabs A) (c__law_draw : CalD P w K mg base tabs 2 "_law_draw" (F__law_draw A)) (c__law_pick : CalD P w K mg base tabs 3 "_law_pick" (F__law_pick A)) (Fn : Fun K "_law_bl_rising" "_law_bl_rising" (top 30) f fd)
    (hl : ∀ T bs O R RX, F__law_bl_rising A T bs O R RX → bs.length = 3) (sp : ∀ T bs O R RX, T.K = K → T.tabs = tabs → F__law_bl_rising A T bs O R RX → b__law_bl_rising A T (ends0 R RX) (startR N__law_bl_rising bs) O) :
    FnOk P w K mg base (L2.CX P w) 4 f fd ["draws", "many", "reach"] (lift tabs K (F__law_bl_rising A)) :=
  fn_dl (δ := b__law_bl_rising A) Fn sc__law_bl_rising hl (fun cdv Ar outer s H E T hK hT hr hcd tk ps hN => by
    have hu64 := units64 hr
    have hu1 := units1 hr
    unfold b__law_bl_rising
    exact (dss_cons (ds_par (i := 3) (j := 4) (da_cons (de_lstO da_nil) (da_cons (de_un un_neg op1_neg (de_call hT hK c__law_draw hr (by decide) tk (da_cons (de_var 0) (da_cons (de_op opr_add op2_add (de_var 2) de_int) da_nil)))) da_nil)) rfl) (dss_cons (ds_for ps rfl (di_range1 t.bi_range (da_cons (de_var 1) da_nil)) (dg_name (vs := [5]) 5) (dss_cons (ds_expr (de_bm PySem.F.slot_list_append PySem.F.type_list_append (mtr mt_append) opm_append (de_var 3) (da_cons (de_var 4) da_nil))) (dss_one (ds_set 4 (de_op opr_add op2_add (de_op opr_add op2_add (de_var 4) de_int) (de_call hT hK c__law_draw hr (by decide) tk (da_cons (de_var 0) (da_cons (de_call hT hK c__law_pick hr (by decide) tk (da_cons (de_var 0) (da_cons (de_lst (da_cons de_int (da_cons de_int (da_cons (de_op opr_add op2_add (de_var 2) de_int) da_nil)))) da_nil))) da_nil)))))))) (dss_one (ds_ret (de_var 3)))))) sp
theorem sc__law_bl_parts : FnScope N__law_bl_parts ["draws", "most", "reach"] (defScope (top 31)) := ⟨rfl, rfl, rfl, by decide +kernel, rfl, by decide +kernel, by decide +kernel⟩
theorem wk__law_bl_parts {f : Addr} {fd : FuncData} (t : Txt P w K mg base tabs A) (c__law_bl_rising : CalD P w K mg base tabs 4 "_law_bl_rising" (F__law_bl_rising A)) (c__law_draw : CalD P w K mg base tabs 2 "_law_draw" (F__law_draw A)) (Fn : Fun K "_law_bl_parts" "_law_bl_parts" (top 31) f fd)
    (hl : ∀ T bs O R RX, F__law_bl_parts A T bs O R RX → bs.length = 3) (sp : ∀ T bs O R RX, T.K = K → T.tabs = tabs → F__law_bl_parts A T bs O R RX → b__law_bl_parts A T (ends0 R RX) (startR N__law_bl_parts bs) O) :
    FnOk P w K mg base (L2.CX P w) 5 f fd ["draws", "most", "reach"] (lift tabs K (F__law_bl_parts A)) :=
  fn_dl (δ := b__law_bl_parts A) Fn sc__law_bl_parts hl (fun cdv Ar outer s H E T hK hT hr hcd tk ps hN => by
    have hu64 := units64 hr
    have hu1 := units1 hr
    unfold b__law_bl_parts
    exact (dss_cons (ds_set 3 (de_op opr_add op2_add de_int (de_call hT hK c__law_draw hr (by decide) tk (da_cons (de_var 0) (da_cons (de_var 1) da_nil))))) (dss_cons (ds_set 4 (de_call hT hK c__law_bl_rising hr (by decide) tk (da_cons (de_var 0) (da_cons (de_op opr_add op2_add (de_var 3) de_int) (da_cons (de_var 2) da_nil))))) (dss_cons (ds_par (i := 5) (j := 6) (da_cons (de_cmp (opr_eq hu64) op2_eq (de_call hT hK c__law_draw hr (by decide) tk (da_cons (de_var 0) (da_cons de_int da_nil))) de_int rfl) (da_cons (de_cmp (opr_eq hu64) op2_eq (de_call hT hK c__law_draw hr (by decide) tk (da_cons (de_var 0) (da_cons de_int da_nil))) de_int rfl) da_nil)) rfl) (dss_cons (ds_if (DW.dt (dw_and (dt_val (de_var 5)) (dw_and1 (DW.dt (dw_or (dt_cmp op_gt op2_gt (de_var 3) de_int rfl) (dw_or1 (dt_not (dt_val (de_var 6))))))))) (dss_one (ds_store (de_var 4) de_int de_non (by intro _; rfl))) dss_nil) (dss_cons (ds_if (dt_val (de_var 6)) (dss_one (ds_store (de_var 4) (de_un un_neg op1_neg de_int) de_non (by intro _; rfl))) dss_nil) (dss_one (ds_ret (de_tup (da_cons (de_callTy opr_tuple opc_tuple t.bi_tuple (by rfl) (da_cons (de_call hT hK c__law_bl_rising hr (by decide) tk (da_cons (de_var 0) (da_cons (de_var 3) (da_cons (de_var 2) da_nil)))) da_nil)) (da_cons (de_callTy opr_tuple opc_tuple t.bi_tuple (by rfl) (da_cons (de_var 4) da_nil)) (da_cons (de_op op_sub op2_sub (de_call hT hK c__law_draw hr (by decide) tk (da_cons (de_var 0) (da_cons (de_op opr_add op2_add (de_op opr_mul op2_mul de_int (de_var 2)) de_int) da_nil))) (de_var 2)) da_nil)))))))))))) sp
theorem sc__law_bl_is_size : FnScope N__law_bl_is_size ["value"] (defScope (top 32)) := ⟨rfl, rfl, rfl, by decide +kernel, rfl, by decide +kernel, by decide +kernel⟩
theorem wk__law_bl_is_size {f : Addr} {fd : FuncData} (t : Txt P w K mg base tabs A) (c__law_bl_far : CalD P w K mg base tabs 1 "_law_bl_far" (F__law_bl_far A)) (c__law_is_number : CalD P w K mg base tabs 1 "_law_is_number" (F__law_is_number A)) (Fn : Fun K "_law_bl_is_size" "_law_bl_is_size" (top 32) f fd)
    (hl : ∀ T bs O R RX, F__law_bl_is_size A T bs O R RX → bs.length = 1) (sp : ∀ T bs O R RX, T.K = K → T.tabs = tabs → F__law_bl_is_size A T bs O R RX → b__law_bl_is_size A T (ends0 R RX) (startR N__law_bl_is_size bs) O) :
    FnOk P w K mg base (L2.CX P w) 2 f fd ["value"] (lift tabs K (F__law_bl_is_size A)) :=
  fn_dl (δ := b__law_bl_is_size A) Fn sc__law_bl_is_size hl (fun cdv Ar outer s H E T hK hT hr hcd tk ps hN => by
    have hu64 := units64 hr
    have hu1 := units1 hr
    unfold b__law_bl_is_size
    exact (dss_one (ds_ret (de_and (de_call hT hK c__law_is_number hr (by decide) tk (da_cons (de_var 0) da_nil)) (de_one (de_chain op_le op2_le op_le op2_le (de_un un_neg op1_neg (de_call0 hT hK c__law_bl_far hr (by decide) tk)) (de_var 0) (de_call0 hT hK c__law_bl_far hr (by decide) tk))))))) sp
theorem sc__law_bl_rises : FnScope N__law_bl_rises ["values"] (defScope (top 33)) := ⟨rfl, rfl, rfl, by decide +kernel, rfl, by decide +kernel, by decide +kernel⟩
theorem wk__law_bl_rises {f : Addr} {fd : FuncData} (t : Txt P w K mg base tabs A)  (Fn : Fun K "_law_bl_rises" "_law_bl_rises" (top 33) f fd)
    (hl : ∀ T bs O R RX, F__law_bl_rises A T bs O R RX → bs.length = 1) (sp : ∀ T bs O R RX, T.K = K → T.tabs = tabs → F__law_bl_rises A T bs O R RX → b__law_bl_rises A T (ends0 R RX) (startR N__law_bl_rises bs) O) :
    FnOk P w K mg base (L2.CX P w) 1 f fd ["values"] (lift tabs K (F__law_bl_rises A)) :=
  fn_dl (δ := b__law_bl_rises A) Fn sc__law_bl_rises hl (fun cdv Ar outer s H E T hK hT hr hcd tk ps hN => by
    have hu64 := units64 hr
    have hu1 := units1 hr
    unfold b__law_bl_rises
    exact (dss_one (ds_ret (de_cmp (opr_eq hu64) op2_eq (de_lc rfl (own := [("one", 1), ("other", 2)]) (di_zip t.bi_zip (da_cons (de_var 0) (da_cons (de_slice (de_var 0) (do_some de_int) do_none) da_nil))) (blkOk_by (by rfl)) (fun _ _ _ _ _ => (dg_tup (n := 2) rfl (dgs_cons (dg_name (vs := [1, 2]) 1) (dgs_cons (dg_name (vs := [1, 2]) 2) dgs_nil)))) (fun _ _ _ _ _ => (dts_one (dt_cmp op_ge op2_ge (de_var 1) (de_var 2) rfl))) (fun _ _ _ _ _ => de_int)) (de_lst da_nil) rfl)))) sp
theorem sc__law_bl_wrong : FnScope N__law_bl_wrong ["points", "slopes", "value"] (defScope (top 34)) := ⟨rfl, rfl, rfl, by decide +kernel, rfl, by decide +kernel, by decide +kernel⟩
theorem wk__law_bl_wrong {f : Addr} {fd : FuncData} (t : Txt P w K mg base tabs A) (c__law_bl_is_size : CalD P w K mg base tabs 2 "_law_bl_is_size" (F__law_bl_is_size A)) (c__law_bl_rises : CalD P w K mg base tabs 1 "_law_bl_rises" (F__law_bl_rises A)) (c__law_bl_top : CalD P w K mg base tabs 2 "_law_bl_top" (F__law_bl_top A)) (c__law_is_number : CalD P w K mg base tabs 1 "_law_is_number" (F__law_is_number A)) (Fn : Fun K "_law_bl_wrong" "_law_bl_wrong" (top 34) f fd)
    (hl : ∀ T bs O R RX, F__law_bl_wrong A T bs O R RX → bs.length = 3) (sp : ∀ T bs O R RX, T.K = K → T.tabs = tabs → F__law_bl_wrong A T bs O R RX → b__law_bl_wrong A T (ends0 R RX) (startR N__law_bl_wrong bs) O) :
    FnOk P w K mg base (L2.CX P w) 3 f fd ["points", "slopes", "value"] (lift tabs K (F__law_bl_wrong A)) :=
  fn_dl (δ := b__law_bl_wrong A) Fn sc__law_bl_wrong hl (fun cdv Ar outer s H E T hK hT hr hcd tk ps hN => by
    have hu64 := units64 hr
    have hu1 := units1 hr
    unfold b__law_bl_wrong
    exact (dss_cons (ds_if (DW.dt (dw_or (dt_not (dt_val (de_isiT (de_var 0) (ces_cons (ce_ty t.bi_list (by rfl)) (ces_cons (ce_ty t.bi_tuple (by rfl)) ces_nil)) t.q_listtuple t.bi_isinstance))) (dw_or (dt_not (dt_chain op_le op2_le op_le op2_le de_int (de_callB opr_len (opc_len hK) t.bi_len (by rfl) (da_cons (de_var 0) da_nil)) de_int)) (dw_or (dt_cmp (opr_ne hu64) op2_ne (de_lc rfl (own := [("item", 4)]) (di_seq hK (de_var 0)) (blkOk_by (by rfl)) (fun _ _ _ _ _ => (dg_name (vs := [4]) 4)) (fun _ _ _ _ _ => (dts_one (dt_not (dt_val (de_call hT hK c__law_bl_is_size hr (by decide) LamX.takes0 (da_cons (de_var 4) da_nil)))))) (fun _ _ _ _ _ => de_int)) (de_lst da_nil) rfl) (dw_or1 (dt_not (dt_val (de_call hT hK c__law_bl_rises hr (by decide) tk (da_cons (de_var 0) da_nil))))))))) (dss_one (ds_ret de_str)) dss_nil) (dss_cons (ds_if (DW.dt (dw_or (dt_not (dt_val (de_isiT (de_var 1) (ces_cons (ce_ty t.bi_list (by rfl)) (ces_cons (ce_ty t.bi_tuple (by rfl)) ces_nil)) t.q_listtuple t.bi_isinstance))) (dw_or1 (dt_cmp (opr_ne hu64) op2_ne (de_callB opr_len (opc_len hK) t.bi_len (by rfl) (da_cons (de_var 1) da_nil)) (de_op opr_add op2_add (de_callB opr_len (opc_len hK) t.bi_len (by rfl) (da_cons (de_var 0) da_nil)) de_int) rfl)))) (dss_one (ds_ret de_str)) dss_nil) (dss_cons (ds_for ps rfl (di_enum t.bi_enumerate (de_var 1)) (dg_tup (n := 2) rfl (dgs_cons (dg_name (vs := [3, 4]) 3) (dgs_cons (dg_name (vs := [3, 4]) 4) dgs_nil))) (dss_one (ds_if (DW.dt (dw_and (dt_not (dt_val (de_call hT hK c__law_bl_is_size hr (by decide) tk (da_cons (de_var 4) da_nil)))) (dw_and1 (DW.dt (dw_or (dt_cmp opr_isNot op2_isNot (de_var 4) de_non rfl) (dw_or1 (dt_chain op_lt op2_lt op_lt op2_lt de_int (de_var 3) (de_callB opr_len (opc_len hK) t.bi_len (by rfl) (da_cons (de_var 0) da_nil))))))))) (dss_one (ds_ret de_str)) dss_nil))) (dss_cons (ds_setLc 5 rfl (hsw := rfl) (own := [("item", 4)]) (di_seq hK (de_var 1)) (blkOk_by (by rfl)) (fun _ _ _ _ _ => (dg_name (vs := [4]) 4)) (fun _ _ _ _ _ => (dts_one (dt_cmp opr_isNot op2_isNot (de_var 4) de_non rfl))) (fun _ _ _ _ _ => (de_var 4))) (dss_cons (ds_if (DW.dt (dw_or (dt_not (dt_chain op_le op2_le op_le op2_le de_int (de_callB opr_len (opc_len hK) t.bi_len (by rfl) (da_cons (de_var 5) da_nil)) de_int)) (dw_or1 (dt_not (dt_val (de_call hT hK c__law_bl_rises hr (by decide) tk (da_cons (de_var 5) da_nil))))))) (dss_one (ds_ret de_str)) dss_nil) (dss_one (ds_ret (de_if (DW.dt (dw_and (dt_val (de_call hT hK c__law_is_number hr (by decide) tk (da_cons (de_var 2) da_nil))) (dw_and1 (dt_chain op_le op2_le op_le op2_le (de_un un_neg op1_neg (de_call0 hT hK c__law_bl_top hr (by decide) tk)) (de_var 2) (de_call0 hT hK c__law_bl_top hr (by decide) tk))))) de_non de_str))))))))) sp
theorem sc__law_bl_is : FnScope N__law_bl_is ["line", "parts"] (defScope (top 35)) := ⟨rfl, rfl, rfl, by decide +kernel, rfl, by decide +kernel, by decide +kernel⟩
theorem wk__law_bl_is {f : Addr} {fd : FuncData} (t : Txt P w K mg base tabs A) (c__law_same : CalD P w K mg base tabs 2 "_law_same" (F__law_same A)) (pr_points : ∀ C ∈ A.inst, PrpC P w K mg base tabs 1 C "points" (F_Bent_points A)) (pr_slopes : ∀ C ∈ A.inst, PrpC P w K mg base tabs 1 C "slopes" (F_Bent_slopes A)) (pr_value : ∀ C ∈ A.inst, PrpC P w K mg base tabs 1 C "value" (F_Bent_value A)) (Fn : Fun K "_law_bl_is" "_law_bl_is" (top 35) f fd)
    (hl : ∀ T bs O R RX, F__law_bl_is A T bs O R RX → bs.length = 2) (sp : ∀ T bs O R RX, T.K = K → T.tabs = tabs → F__law_bl_is A T bs O R RX → b__law_bl_is A T (ends0 R RX) (startR N__law_bl_is bs) O) :
    FnOk P w K mg base (L2.CX P w) 3 f fd ["line", "parts"] (lift tabs K (F__law_bl_is A)) :=
  fn_dl (δ := b__law_bl_is A) Fn sc__law_bl_is hl (fun cdv Ar outer s H E T hK hT hr hcd tk ps hN => by
    have hu64 := units64 hr
    have hu1 := units1 hr
    unfold b__law_bl_is
    exact (dss_one (ds_ret (de_call hT hK c__law_same hr (by decide) tk (da_cons (de_tup (da_cons (de_prop (L := A.inst) hT hK (de_var 0) pr_points hr (by decide)) (da_cons (de_prop (L := A.inst) hT hK (de_var 0) pr_slopes hr (by decide)) (da_cons (de_prop (L := A.inst) hT hK (de_var 0) pr_value hr (by decide)) da_nil)))) (da_cons (de_var 1) da_nil)))))) sp
theorem sc__law_taken : FnScope N__law_taken ["draws", "parts"] (defScope (top 36)) := ⟨rfl, rfl, rfl, by decide +kernel, rfl, by decide +kernel, by decide +kernel⟩
theorem wk__law_taken {f : Addr} {fd : FuncData} (t : Txt P w K mg base tabs A) {fd_Line___init__ : FuncData} (c__law_bl_far : CalD P w K mg base tabs 1 "_law_bl_far" (F__law_bl_far A)) (c__law_bl_is : CalD P w K mg base tabs 3 "_law_bl_is" (F__law_bl_is A)) (c_Line___init__ : CalA P w K mg base tabs 5 (A.a_Line___init__) (F_Line___init__ A)) (c_Line___eq__ : CalA P w K mg base tabs 1 A.a_Line___eq__ (F_Line___eq__ A)) (fn_Line___init__ : FnOk P w K mg base (L2.CX P w) 5 A.a_Line___init__ fd_Line___init__ ["self", "points", "slopes", "value"] (lift tabs K (F_Line___init__ A))) (kb_Line : KBn K fd_Line___init__ ["self", "points", "slopes", "value"] 1 ["value", "slopes", "points"] kwg kwgV) (Fn : Fun K "_law_taken" "_law_taken" (top 36) f fd)
    (hl : ∀ T bs O R RX, F__law_taken A T bs O R RX → bs.length = 2) (sp : ∀ T bs O R RX, T.K = K → T.tabs = tabs → F__law_taken A T bs O R RX → b__law_taken A T (ends0 R RX) (startR N__law_taken bs) O) :
    FnOk P w K mg base (L2.CX P w) 7 f fd ["draws", "parts"] (lift tabs K (F__law_taken A)) :=
  fn_dl (δ := b__law_taken A) Fn sc__law_taken hl (fun cdv Ar outer s H E T hK hT hr hcd tk ps hN => by
    have hu64 := units64 hr
    have hu1 := units1 hr
    unfold b__law_taken
    exact (dss_cons (ds_asg (de_var 1) (dg_tup (n := 3) rfl (dgs_cons (dg_name (vs := [2, 3, 4]) 2) (dgs_cons (dg_name (vs := [2, 3, 4]) 3) (dgs_cons (dg_name (vs := [2, 3, 4]) 4) dgs_nil))))) (dss_cons (ds_par (i := 5) (j := 6) (da_cons (de_callTy opr_list opc_listO t.bi_list (by rfl) (da_cons (de_var 2) da_nil)) (da_cons (de_callTy opr_list opc_listO t.bi_list (by rfl) (da_cons (de_var 3) da_nil)) da_nil)) rfl) (dss_cons (ds_set 7 (de_make hT hK t.mk_Line c_Line___init__ hr (by decide) tk (da_cons (de_var 5) (da_cons (de_var 6) (da_cons (de_var 4) da_nil))) t.mg_Line)) (dss_cons (ds_expr (de_bm PySem.F.slot_list_append PySem.F.type_list_append (mtr mt_append) opm_append (de_var 5) (da_cons de_int da_nil))) (dss_cons (ds_store (de_var 6) de_int de_int (by intro _; rfl)) (dss_cons (ds_if (DW.dt (dw_or (dt_not (dt_val (de_call hT hK c__law_bl_is hr (by decide) tk (da_cons (de_var 7) (da_cons (de_var 1) da_nil))))) (dw_or (dt_cmp opr_isNot op2_isNot (de_cmp (OpR.or (opr_eq hu64) (opr_eqOwn t.eqf_s t.eqf_f c_Line___eq__ (hr.mono (by decide)))) (Op2.or op2_eq (op2_eqOwn hT hK t.q_line)) (de_var 7) (de_makeK (ks := kws_Line) (gB := kwB_Line) hT hK t.mk_Line fn_Line___init__ kb_Line (by exact kwB_ok) hr (by decide) (dk_cons (de_var 4) (dk_cons (de_var 3) (dk_cons (de_var 2) dk_nil))) t.mg_Line) rfl) de_bl rfl) (dw_or1 (dt_cmp opr_isNot op2_isNot (de_cmp (OpR.or (opr_eq hu64) (opr_eqOwn t.eqf_s t.eqf_f c_Line___eq__ (hr.mono (by decide)))) (Op2.or op2_eq (op2_eqOwn hT hK t.q_line)) (de_var 7) (de_var 1) rfl) de_bl rfl))))) (dss_one (ds_ret de_bl)) dss_nil) (dss_cons (ds_set 8 (de_lstO (da_cons (de_tup (da_cons (de_var 2) (da_cons (de_var 3) (da_cons (de_if (dt_cmp op_lt op2_lt (de_var 4) de_int rfl) (de_op opr_add op2_add (de_var 4) de_int) (de_op op_sub op2_sub (de_var 4) de_int)) da_nil)))) da_nil))) (dss_cons (ds_if (dt_cmp op_lt op2_lt (de_ix (de_var 2) (de_un un_neg op1_neg de_int)) (de_call0 hT hK c__law_bl_far hr (by decide) tk) rfl) (dss_one (ds_expr (de_bm PySem.F.slot_list_append PySem.F.type_list_append (mtr mt_append) opm_append (de_var 8) (da_cons (de_tup (da_cons (de_op opr_add op2_add (de_slice (de_var 2) do_none (do_some (de_un un_neg op1_neg de_int))) (de_tup (da_cons (de_op opr_add op2_add (de_ix (de_var 2) (de_un un_neg op1_neg de_int)) de_int) da_nil))) (da_cons (de_var 3) (da_cons (de_var 4) da_nil)))) da_nil)))) dss_nil) (dss_cons (ds_if (DW.dt (dw_and (dt_cmp opr_isNot op2_isNot (de_ix (de_var 3) (de_un un_neg op1_neg de_int)) de_non rfl) (dw_and1 (dt_cmp opr_isNot op2_isNot (de_ix (de_var 3) de_int) de_non rfl)))) (dss_one (ds_set 8 (de_op opr_add op2_add (de_var 8) (de_lst (da_cons (de_tup (da_cons (de_var 2) (da_cons (de_op opr_add op2_add (de_slice (de_var 3) do_none (do_some (de_un un_neg op1_neg de_int))) (de_tup (da_cons de_non da_nil))) (da_cons (de_var 4) da_nil)))) (da_cons (de_tup (da_cons (de_var 2) (da_cons (de_op opr_add op2_add (de_tup (da_cons de_non da_nil)) (de_slice (de_var 3) (do_some de_int) do_none)) (da_cons (de_var 4) da_nil)))) da_nil)))))) dss_nil) (dss_one (ds_ret (de_cmp (opr_eq hu64) op2_eq (de_lc rfl (own := [("other", 9)]) (di_seq hK (de_var 8)) (blkOk_by (by rfl)) (fun _ _ _ _ _ => (dg_name (vs := [9]) 9)) (fun _ _ _ _ _ => (dts_one (dt_cmp opr_isNot op2_isNot (de_cmp (OpR.or (opr_eq hu64) (opr_eqOwn t.eqf_s t.eqf_f c_Line___eq__ (hr.mono (by decide)))) (Op2.or op2_eq (op2_eqOwn hT hK t.q_line)) (de_var 7) (de_make hT hK t.mk_Line c_Line___init__ hr (by decide) LamX.takes0 (da_cons (de_ix (de_var 9) de_int) (da_cons (de_ix (de_var 9) de_int) (da_cons (de_ix (de_var 9) de_int) da_nil))) t.mg_Line) rfl) de_bl rfl))) (fun _ _ _ _ _ => de_int)) (de_lst da_nil) rfl))))))))))))) sp
theorem sc__law_near : FnScope N__law_near ["draws", "parts"] (defScope (top 37)) := ⟨rfl, rfl, rfl, by decide +kernel, rfl, by decide +kernel, by decide +kernel⟩
theorem wk__law_near {f : Addr} {fd : FuncData} (t : Txt P w K mg base tabs A) (c__law_bl_far : CalD P w K mg base tabs 1 "_law_bl_far" (F__law_bl_far A)) (c__law_bl_top : CalD P w K mg base tabs 2 "_law_bl_top" (F__law_bl_top A)) (c__law_draw : CalD P w K mg base tabs 2 "_law_draw" (F__law_draw A)) (Fn : Fun K "_law_near" "_law_near" (top 37) f fd)
    (hl : ∀ T bs O R RX, F__law_near A T bs O R RX → bs.length = 2) (sp : ∀ T bs O R RX, T.K = K → T.tabs = tabs → F__law_near A T bs O R RX → b__law_near A T (ends0 R RX) (startR N__law_near bs) O) :
    FnOk P w K mg base (L2.CX P w) 3 f fd ["draws", "parts"] (lift tabs K (F__law_near A)) :=
  fn_dl (δ := b__law_near A) Fn sc__law_near hl (fun cdv Ar outer s H E T hK hT hr hcd tk ps hN => by
    have hu64 := units64 hr
    have hu1 := units1 hr
    unfold b__law_near
    exact (dss_cons (ds_asg (de_var 1) (dg_tup (n := 3) rfl (dgs_cons (dg_name (vs := [2, 3, 4]) 2) (dgs_cons (dg_name (vs := [2, 3, 4]) 3) (dgs_cons (dg_name (vs := [2, 3, 4]) 4) dgs_nil))))) (dss_cons (ds_par (i := 5) (j := 6) (da_cons (de_call hT hK c__law_draw hr (by decide) tk (da_cons (de_var 0) (da_cons (de_callB opr_len (opc_len hK) t.bi_len (by rfl) (da_cons (de_var 2) da_nil)) da_nil))) (da_cons (de_call hT hK c__law_draw hr (by decide) tk (da_cons (de_var 0) (da_cons (de_callB opr_len (opc_len hK) t.bi_len (by rfl) (da_cons (de_var 3) da_nil)) da_nil))) da_nil)) rfl) (dss_cons (ds_par (i := 7) (j := 8) (da_cons (de_call0 hT hK c__law_bl_far hr (by decide) tk) (da_cons (de_call0 hT hK c__law_bl_top hr (by decide) tk) da_nil)) rfl) (dss_cons (ds_set 9 (de_lstO (da_cons (de_tup (da_cons de_non (da_cons (de_var 3) (da_cons (de_var 4) da_nil)))) (da_cons (de_tup (da_cons (de_tup da_nil) (da_cons (de_slice (de_var 3) do_none (do_some de_int)) (da_cons (de_var 4) da_nil)))) (da_cons (de_tup (da_cons (de_var 2) (da_cons de_non (da_cons (de_var 4) da_nil)))) (da_cons (de_tup (da_cons (de_var 2) (da_cons (de_slice (de_var 3) (do_some de_int) do_none) (da_cons (de_var 4) da_nil)))) (da_cons (de_tup (da_cons (de_var 2) (da_cons (de_op opr_add op2_add (de_var 3) (de_tup (da_cons (de_ix (de_var 3) (de_un un_neg op1_neg de_int)) da_nil))) (da_cons (de_var 4) da_nil)))) da_nil))))))) (dss_cons (ds_set 9 (de_op opr_add op2_add (de_var 9) (de_lst (da_cons (de_tup (da_cons (de_var 2) (da_cons (de_var 3) (da_cons de_non da_nil)))) (da_cons (de_tup (da_cons (de_var 2) (da_cons (de_var 3) (da_cons de_bl da_nil)))) (da_cons (de_tup (da_cons (de_var 2) (da_cons (de_var 3) (da_cons de_str da_nil)))) da_nil)))))) (dss_cons (ds_for ps rfl (di_seq hK (de_lst (da_cons de_non (da_cons de_bl (da_cons de_str (da_cons (de_tup (da_cons de_int da_nil)) (da_cons (de_var 7) (da_cons (de_op opr_add op2_add (de_var 7) de_int) (da_cons (de_un un_neg op1_neg (de_var 7)) (da_cons (de_op op_sub op2_sub (de_un un_neg op1_neg (de_var 7)) de_int) (da_cons (de_ix (de_var 2) de_int) (da_cons (de_op op_sub op2_sub (de_ix (de_var 2) (de_var 5)) de_int) (da_cons (de_ix (de_var 2) (de_un un_neg op1_neg de_int)) da_nil))))))))))))) (dg_name (vs := [10]) 10) (dss_one (ds_expr (de_bm PySem.F.slot_list_append PySem.F.type_list_append (mtr mt_append) opm_append (de_var 9) (da_cons (de_tup (da_cons (de_op opr_add op2_add (de_op opr_add op2_add (de_slice (de_var 2) do_none (do_some (de_var 5))) (de_tup (da_cons (de_var 10) da_nil))) (de_slice (de_var 2) (do_some (de_op opr_add op2_add (de_var 5) de_int)) do_none)) (da_cons (de_var 3) (da_cons (de_var 4) da_nil)))) da_nil))))) (dss_cons (ds_for ps rfl (di_seq hK (de_lst (da_cons de_non (da_cons de_bl (da_cons de_str (da_cons (de_lst (da_cons de_int da_nil)) (da_cons (de_var 7) (da_cons (de_op opr_add op2_add (de_var 7) de_int) (da_cons (de_un un_neg op1_neg (de_var 7)) (da_cons (de_op op_sub op2_sub (de_un un_neg op1_neg (de_var 7)) de_int) (da_cons de_int da_nil))))))))))) (dg_name (vs := [10]) 10) (dss_one (ds_expr (de_bm PySem.F.slot_list_append PySem.F.type_list_append (mtr mt_append) opm_append (de_var 9) (da_cons (de_tup (da_cons (de_var 2) (da_cons (de_op opr_add op2_add (de_op opr_add op2_add (de_slice (de_var 3) do_none (do_some (de_var 6))) (de_tup (da_cons (de_var 10) da_nil))) (de_slice (de_var 3) (do_some (de_op opr_add op2_add (de_var 6) de_int)) do_none)) (da_cons (de_var 4) da_nil)))) da_nil))))) (dss_cons (ds_for ps rfl (di_seq hK (de_lst (da_cons (de_var 8) (da_cons (de_op opr_add op2_add (de_var 8) de_int) (da_cons (de_un un_neg op1_neg (de_var 8)) (da_cons (de_op op_sub op2_sub (de_un un_neg op1_neg (de_var 8)) de_int) (da_cons de_int da_nil))))))) (dg_name (vs := [10]) 10) (dss_one (ds_expr (de_bm PySem.F.slot_list_append PySem.F.type_list_append (mtr mt_append) opm_append (de_var 9) (da_cons (de_tup (da_cons (de_var 2) (da_cons (de_var 3) (da_cons (de_var 10) da_nil)))) da_nil))))) (dss_cons (ds_set 9 (de_op opr_add op2_add (de_var 9) (de_lst (da_cons (de_tup (da_cons (de_revT (de_var 2)) (da_cons (de_var 3) (da_cons (de_var 4) da_nil)))) (da_cons (de_tup (da_cons (de_var 2) (da_cons (de_revT (de_var 3)) (da_cons (de_var 4) da_nil)))) (da_cons (de_tup (da_cons (de_var 2) (da_cons (de_op opr_mul op2_mul (de_tup (da_cons de_non da_nil)) (de_callB opr_len (opc_len hK) t.bi_len (by rfl) (da_cons (de_var 3) da_nil))) (da_cons (de_var 4) da_nil)))) da_nil)))))) (dss_one (ds_ret (de_op opr_add op2_add (de_var 9) (de_lst (da_cons (de_tup (da_cons de_int (da_cons de_non (da_cons de_non da_nil)))) (da_cons (de_tup (da_cons de_emp (da_cons (de_var 3) (da_cons (de_var 4) da_nil)))) (da_cons (de_tup (da_cons (de_var 2) (da_cons de_emp (da_cons (de_var 4) da_nil)))) (da_cons (de_tup (da_cons de_str (da_cons (de_var 3) (da_cons (de_var 4) da_nil)))) da_nil)))))))))))))))))) sp
theorem sc__law_bounds_right : FnScope N__law_bounds_right [] (defScope (top 38)) := ⟨rfl, rfl, rfl, by decide +kernel, rfl, by decide +kernel, by decide +kernel⟩
theorem wk__law_bounds_right {f : Addr} {fd : FuncData} (t : Txt P w K mg base tabs A) (c_Line___init__ : CalA P w K mg base tabs 5 (A.a_Line___init__) (F_Line___init__ A)) (hmT : (A.tb__law_bounds_right, ("_law_bounds_right" : Str) ++ ".<locals>." ++ "<lambda>") ∈ tabs) (hu : ∀ p ∈ tabs, p.1 = A.tb__law_bounds_right → p.2 = ("_law_bounds_right" : Str) ++ ".<locals>." ++ "<lambda>") (hcode : codeAt K f = some (.ref A.co__law_bounds_right)) (TB : LamX.TabB base mg A.co__law_bounds_right A.tb__law_bounds_right) (Fn : Fun K "_law_bounds_right" "_law_bounds_right" (top 38) f fd)
    (hl : ∀ T bs O R RX, F__law_bounds_right A T bs O R RX → bs.length = 0) (sp : ∀ T bs O R RX, T.K = K → T.tabs = tabs → F__law_bounds_right A T bs O R RX → b__law_bounds_right A T (ends0 R RX) (startR N__law_bounds_right bs) O) :
    FnOk P w K mg base (L2.CX P w) 9 f fd [] (lift tabs K (F__law_bounds_right A)) :=
  fn_dlC (δ := b__law_bounds_right A) Fn sc__law_bounds_right hl (fun cdv Ar outer s H E T hK hT hca hr hcd tk ps hN => by
    have hu64 := units64 hr
    have hu1 := units1 hr
    unfold b__law_bounds_right
    have ec : cdv = .ref A.co__law_bounds_right := Option.some.inj (hca.symm.trans hcode)
    subst ec
    exact (dss_cons (ds_set 0 (de_listRg1 false rfl t.bi_list t.bi_range de_int)) (dss_cons (ds_for ps rfl (di_seq hK (de_lst (da_cons (de_tup (da_cons de_int (da_cons de_non (da_cons de_non (da_cons de_bl da_nil))))) (da_cons (de_tup (da_cons de_int (da_cons de_non (da_cons de_int (da_cons de_bl da_nil))))) (da_cons (de_tup (da_cons de_int (da_cons de_int (da_cons de_int (da_cons de_bl da_nil))))) (da_cons (de_tup (da_cons de_int (da_cons de_non (da_cons de_non (da_cons de_bl da_nil))))) (da_cons (de_tup (da_cons de_int (da_cons de_int (da_cons de_int (da_cons de_bl da_nil))))) da_nil))))))) (dg_tup (n := 4) rfl (dgs_cons (dg_name (vs := [1, 2, 3, 4]) 1) (dgs_cons (dg_name (vs := [1, 2, 3, 4]) 2) (dgs_cons (dg_name (vs := [1, 2, 3, 4]) 3) (dgs_cons (dg_name (vs := [1, 2, 3, 4]) 4) dgs_nil))))) (dss_cons (ds_set 5 (de_op opr_add op2_add (de_op opr_add op2_add (de_lst (da_cons (de_if (dt_cmp opr_is op2_is (de_var 2) de_non rfl) de_non (de_un un_neg op1_neg de_int)) da_nil)) (de_listRg1 false rfl t.bi_list t.bi_range (de_op op_sub op2_sub (de_var 1) de_int))) (de_lst (da_cons (de_if (dt_cmp opr_is op2_is (de_var 3) de_non rfl) de_non (de_var 1)) da_nil)))) (dss_cons (ds_set 6 (de_caught (L := A.errs) (k := 6) hK t.cgt t.cgt_in TB rfl (by rw [hT]; exact hmT) (by rw [hT]; exact hu) hr (by decide) (LamX.lamS_by (by rfl)) rfl (fun _ _ _ _ _ => rfl) (fun A' outer' s' H' E' f' c' hr tk => (de_make hT hK t.mk_Line c_Line___init__ hr (by decide) tk (da_cons (de_listRg1 false rfl t.bi_list t.bi_range (de_var 1)) (da_cons (de_var 5) (da_cons de_int da_nil))) t.mg_Line)))) (dss_one (ds_if (DW.dt (dw_or (dt_cmp (opr_ne hu64) op2_ne (de_cmp opr_is op2_is (de_var 6) de_non rfl) (de_var 4) rfl) (dw_or1 (DW.dt (dw_and (dt_cmp opr_isNot op2_isNot (de_var 6) de_non rfl) (dw_and1 (DW.dt (dw_or (dt_not (dt_val (de_isi (de_var 6) (ce_own t.mg_BadLine) t.q_badline t.bi_isinstance))) (dw_or1 (dt_cmp (opr_ne hu64) op2_ne (de_xf (L := A.errs) (de_var 6) t.xf_part) (de_if (dt_cmp op_gt op2_gt (de_var 1) de_int rfl) de_str de_str) rfl)))))))))) (dss_one (ds_ret de_bl)) dss_nil))))) (dss_one (ds_ret (de_cmp (opr_eq hu64) op2_eq (de_callB opr_len (opc_len hK) t.bi_len (by rfl) (da_cons (de_var 0) da_nil)) de_int rfl)))))) sp
theorem sc_law : FnScope N_law ["script"] (defScope (top 39)) := ⟨rfl, rfl, rfl, by decide +kernel, rfl, by decide +kernel, by decide +kernel⟩
theorem wk_law {f : Addr} {fd : FuncData} (t : Txt P w K mg base tabs A) (c__law_begun : CalD P w K mg base tabs 1 "_law_begun" (F__law_begun A)) (c__law_bl_parts : CalD P w K mg base tabs 5 "_law_bl_parts" (F__law_bl_parts A)) (c__law_bl_wrong : CalD P w K mg base tabs 3 "_law_bl_wrong" (F__law_bl_wrong A)) (c__law_bounds_right : CalD P w K mg base tabs 9 "_law_bounds_right" (F__law_bounds_right A)) (c__law_near : CalD P w K mg base tabs 3 "_law_near" (F__law_near A)) (c__law_pick : CalD P w K mg base tabs 3 "_law_pick" (F__law_pick A)) (c__law_taken : CalD P w K mg base tabs 7 "_law_taken" (F__law_taken A)) (c_Line___init__ : CalA P w K mg base tabs 5 (A.a_Line___init__) (F_Line___init__ A)) (c_Line___eq__ : CalA P w K mg base tabs 1 A.a_Line___eq__ (F_Line___eq__ A)) (hmT : (A.tb_law, ("law" : Str) ++ ".<locals>." ++ "<lambda>") ∈ tabs) (hu : ∀ p ∈ tabs, p.1 = A.tb_law → p.2 = ("law" : Str) ++ ".<locals>." ++ "<lambda>") (hcode : codeAt K f = some (.ref A.co_law)) (TB : LamX.TabB base mg A.co_law A.tb_law) (Fn : Fun K "law" "law" (top 39) f fd)
    (hl : ∀ T bs O R RX, F_law A T bs O R RX → bs.length = 1) (sp : ∀ T bs O R RX, T.K = K → T.tabs = tabs → F_law A T bs O R RX → b_law A T (ends0 R RX) (startR N_law bs) O) :
    FnOk P w K mg base (L2.CX P w) 12 f fd ["script"] (lift tabs K (F_law A)) :=
  fn_dlC (δ := b_law A) Fn sc_law hl (fun cdv Ar outer s H E T hK hT hca hr hcd tk ps hN => by
    have hu64 := units64 hr
    have hu1 := units1 hr
    unfold b_law
    have ec : cdv = .ref A.co_law := Option.some.inj (hca.symm.trans hcode)
    subst ec
    exact (dss_cons (ds_set 1 (de_call hT hK c__law_begun hr (by decide) tk (da_cons (de_var 0) da_nil))) (dss_cons (ds_for ps rfl (di_range1 t.bi_range (da_cons (de_op opr_add op2_add de_int (de_callB (opr_min rfl) opc_min t.bi_min (by rfl) (da_cons (de_callB opr_len (opc_len hK) t.bi_len (by rfl) (da_cons (de_var 0) da_nil)) (da_cons de_int da_nil)))) da_nil)) (dg_name (vs := [2]) 2) (dss_cons (ds_set 3 (de_call hT hK c__law_bl_parts hr (by decide) tk (da_cons (de_var 1) (da_cons de_int (da_cons (de_call hT hK c__law_pick hr (by decide) tk (da_cons (de_var 1) (da_cons (de_lst (da_cons de_int (da_cons de_int (da_cons de_int (da_cons (de_op op_pow op2_pow de_int de_int) (da_cons (de_op op_pow op2_pow de_int de_int) da_nil)))))) da_nil))) da_nil))))) (dss_cons (ds_if (dt_not (dt_val (de_call hT hK c__law_taken hr (by decide) tk (da_cons (de_var 1) (da_cons (de_var 3) da_nil))))) (dss_one (ds_ret de_bl)) dss_nil) (dss_one (ds_for ps rfl (di_seq hK (de_call hT hK c__law_near hr (by decide) tk (da_cons (de_var 1) (da_cons (de_var 3) da_nil)))) (dg_tup (n := 3) rfl (dgs_cons (dg_name (vs := [4, 5, 6]) 4) (dgs_cons (dg_name (vs := [4, 5, 6]) 5) (dgs_cons (dg_name (vs := [4, 5, 6]) 6) dgs_nil)))) (dss_cons (ds_set 7 (de_call hT hK c__law_bl_wrong hr (by decide) tk (da_cons (de_var 4) (da_cons (de_var 5) (da_cons (de_var 6) da_nil))))) (dss_cons (ds_set 8 (de_caught (L := A.errs) (k := 6) hK t.cgt t.cgt_in TB rfl (by rw [hT]; exact hmT) (by rw [hT]; exact hu) hr (by decide) (LamX.lamS_by (by rfl)) rfl (fun _ _ _ _ _ => rfl) (fun A' outer' s' H' E' f' c' hr tk => (de_make hT hK t.mk_Line c_Line___init__ hr (by decide) tk (da_cons (de_var 4) (da_cons (de_var 5) (da_cons (de_var 6) da_nil))) t.mg_Line)))) (dss_one (ds_if (DW.dt (dw_or (DW.dt (dw_and (dt_cmp opr_is op2_is (de_var 7) de_non rfl) (dw_and1 (dt_cmp opr_isNot op2_isNot (de_var 8) de_non rfl)))) (dw_or1 (DW.dt (dw_and (dt_cmp opr_isNot op2_isNot (de_var 7) de_non rfl) (dw_and1 (DW.dt (dw_or (dt_not (dt_val (de_isi (de_var 8) (ce_own t.mg_BadLine) t.q_badline t.bi_isinstance))) (dw_or1 (dt_cmp (opr_ne hu64) op2_ne (de_xf (L := A.errs) (de_var 8) t.xf_part) (de_var 7) rfl)))))))))) (dss_one (ds_ret de_bl)) dss_nil))))))))) (dss_one (ds_ret (de_and (de_call0 hT hK c__law_bounds_right hr (by decide) tk) (de_and (de_cmp opr_is op2_is (de_cmp (OpR.or (opr_eq hu64) (opr_eqOwn t.eqf_s t.eqf_f c_Line___eq__ (hr.mono (by decide)))) (Op2.or op2_eq (op2_eqOwn hT hK t.q_line)) (de_make hT hK t.mk_Line c_Line___init__ hr (by decide) tk (da_cons (de_lst (da_cons de_int da_nil)) (da_cons (de_lst (da_cons de_non (da_cons de_int da_nil))) (da_cons de_int da_nil))) t.mg_Line) (de_make hT hK t.mk_Line c_Line___init__ hr (by decide) tk (da_cons (de_tup (da_cons de_int da_nil)) (da_cons (de_tup (da_cons de_non (da_cons de_int da_nil))) (da_cons de_int da_nil))) t.mg_Line) rfl) de_bl rfl) (de_one (de_cmp opr_is op2_is (de_cmp (OpR.or (opr_eq hu64) (opr_eqOwn t.eqf_s t.eqf_f c_Line___eq__ (hr.mono (by decide)))) (Op2.or op2_eq (op2_eqOwn hT hK t.q_line)) (de_make hT hK t.mk_Line c_Line___init__ hr (by decide) tk (da_cons (de_lst (da_cons de_int da_nil)) (da_cons (de_lst (da_cons de_non (da_cons de_int da_nil))) (da_cons de_int da_nil))) t.mg_Line) (de_make hT hK t.mk_Line c_Line___init__ hr (by decide) tk (da_cons (de_lst (da_cons de_int da_nil)) (da_cons (de_lst (da_cons de_int (da_cons de_non da_nil))) (da_cons de_int da_nil))) t.mg_Line) rfl) de_bl rfl))))))))) sp
end
end K00
end
section
set_option maxRecDepth 100000
set_option maxHeartbeats 4000000
namespace K00
open PySem PySem.Spec PyProof.Rows L2 DL PySem.W
abbrev tabs0 (tl tb : Addr) : List (Addr × Str) := [(tl, ("law" : Str) ++ ".<locals>." ++ "<lambda>"), (tb, ("_law_bounds_right" : Str) ++ ".<locals>." ++ "<lambda>")]
theorem isq_by {K : PySem.W.Frag} {us : List Value} {q : Kd → Option Bool} (h1 : ∀ k b, q k = some b → kitAny K k.ty us = some b) (h2 : ∀ C b, q (.ins C) = some b → InsT K C) (h3 : ∀ C b, q (.exc C) = some b → ExcC K C) : IsQ K us q := ⟨h1, h2, h3⟩
theorem kb_line_ok {K : Frag} {kV dc pm cd ct : Value} {an : Option Addr} : KBn K (fnOf "__init__" "Line.__init__" (defArgs (meth 18 0)) (defBody (meth 18 0)) (defScope (meth 18 0)) .none kV dc pm an cd ct) ["self", "points", "slopes", "value"] 1 ["value", "slopes", "points"] kwg kwgV :=
  ⟨fun s us ws _ h1 h2 => match us, ws, h1, h2 with | [_], [_, _, _], _, _ => .of_eq rfl, fun {vs us zs ws} r1 r2 => by
    cases r2 with
    | nil => exact r1
    | cons a r =>
      cases r with
      | nil => exact r1
      | cons b r =>
        cases r with
        | nil => exact r1
        | cons c r =>
          cases r with
          | nil => exact r1.append (.cons c (.cons b (.cons a .nil)))
          | cons d r => exact r1⟩
theorem law_at {w : World} {K : Frag} {mg : Str → Option Value} {fa : Addr} {h : Heap} {L B E BE D li bi leq cda cc tl cl tb cb pI : Addr} {u200 uS uV : Tok} {xnm xq : Str} {xN : Addr} {xbs xbm xsub : List Value} {xsn : List Str} {xab : Bool} {xcol : Option Bool} {xdd : Option Addr} {xk0 xk1 xk2 xk3 xk5 : Option Value} {ioc ikV idoc ipm ict : Value} {iod ian : Option Addr} {isl : Array (Option Value)} {zcl ccl2 : Value} {zdd ccd2 : Option Addr} {zvs : Array Value} {zsl ccs2 : Array (Option Value)} {zfile : Str} {ztf : Tok} {f__law_caught : Addr} {oc__law_caught kV__law_caught dc__law_caught pm__law_caught cd__law_caught ct__law_caught : Value} {od__law_caught an__law_caught : Option Addr} {sl__law_caught : Array (Option Value)} {f_is_number : Addr} {oc_is_number kV_is_number dc_is_number pm_is_number cd_is_number ct_is_number : Value} {od_is_number an_is_number : Option Addr} {sl_is_number : Array (Option Value)} {f_is_between : Addr} {oc_is_between kV_is_between dc_is_between pm_is_between cd_is_between ct_is_between : Value} {od_is_between an_is_between : Option Addr} {sl_is_between : Array (Option Value)} {f_is_list : Addr} {oc_is_list kV_is_list dc_is_list pm_is_list cd_is_list ct_is_list : Value} {od_is_list an_is_list : Option Addr} {sl_is_list : Array (Option Value)} {f_ascends : Addr} {oc_ascends kV_ascends dc_ascends pm_ascends cd_ascends ct_ascends : Value} {od_ascends an_ascends : Option Addr} {sl_ascends : Array (Option Value)} {f_is_size : Addr} {oc_is_size kV_is_size dc_is_size pm_is_size cd_is_size ct_is_size : Value} {od_is_size an_is_size : Option Addr} {sl_is_size : Array (Option Value)} {f_points_right : Addr} {oc_points_right kV_points_right dc_points_right pm_points_right cd_points_right ct_points_right : Value} {od_points_right an_points_right : Option Addr} {sl_points_right : Array (Option Value)} {f_told_slopes : Addr} {oc_told_slopes kV_told_slopes dc_told_slopes pm_told_slopes cd_told_slopes ct_told_slopes : Value} {od_told_slopes an_told_slopes : Option Addr} {sl_told_slopes : Array (Option Value)} {f_slopes_right : Addr} {oc_slopes_right kV_slopes_right dc_slopes_right pm_slopes_right cd_slopes_right ct_slopes_right : Value} {od_slopes_right an_slopes_right : Option Addr} {sl_slopes_right : Array (Option Value)} {oc_Bent___init__ kV_Bent___init__ dc_Bent___init__ pm_Bent___init__ cd_Bent___init__ ct_Bent___init__ : Value} {od_Bent___init__ an_Bent___init__ : Option Addr} {sl_Bent___init__ : Array (Option Value)} {f_Bent_points : Addr} {oc_Bent_points kV_Bent_points dc_Bent_points pm_Bent_points cd_Bent_points ct_Bent_points : Value} {od_Bent_points an_Bent_points : Option Addr} {sl_Bent_points : Array (Option Value)} {p_points : Addr} {rest_points : List Value} {f_Bent_slopes : Addr} {oc_Bent_slopes kV_Bent_slopes dc_Bent_slopes pm_Bent_slopes cd_Bent_slopes ct_Bent_slopes : Value} {od_Bent_slopes an_Bent_slopes : Option Addr} {sl_Bent_slopes : Array (Option Value)} {p_slopes : Addr} {rest_slopes : List Value} {f_Bent_value : Addr} {oc_Bent_value kV_Bent_value dc_Bent_value pm_Bent_value cd_Bent_value ct_Bent_value : Value} {od_Bent_value an_Bent_value : Option Addr} {sl_Bent_value : Array (Option Value)} {p_value : Addr} {rest_value : List Value} {oc_Line___init__ kV_Line___init__ dc_Line___init__ pm_Line___init__ cd_Line___init__ ct_Line___init__ : Value} {od_Line___init__ an_Line___init__ : Option Addr} {sl_Line___init__ : Array (Option Value)} {oc_Line___eq__ kV_Line___eq__ dc_Line___eq__ pm_Line___eq__ cd_Line___eq__ ct_Line___eq__ : Value} {od_Line___eq__ an_Line___eq__ : Option Addr} {sl_Line___eq__ : Array (Option Value)} {f__law_begun : Addr} {oc__law_begun kV__law_begun dc__law_begun pm__law_begun cd__law_begun ct__law_begun : Value} {od__law_begun an__law_begun : Option Addr} {sl__law_begun : Array (Option Value)} {f__law_blended : Addr} {oc__law_blended kV__law_blended dc__law_blended pm__law_blended cd__law_blended ct__law_blended : Value} {od__law_blended an__law_blended : Option Addr} {sl__law_blended : Array (Option Value)} {f__law_draw : Addr} {oc__law_draw kV__law_draw dc__law_draw pm__law_draw cd__law_draw ct__law_draw : Value} {od__law_draw an__law_draw : Option Addr} {sl__law_draw : Array (Option Value)} {f__law_pick : Addr} {oc__law_pick kV__law_pick dc__law_pick pm__law_pick cd__law_pick ct__law_pick : Value} {od__law_pick an__law_pick : Option Addr} {sl__law_pick : Array (Option Value)} {f__law_is_truth : Addr} {oc__law_is_truth kV__law_is_truth dc__law_is_truth pm__law_is_truth cd__law_is_truth ct__law_is_truth : Value} {od__law_is_truth an__law_is_truth : Option Addr} {sl__law_is_truth : Array (Option Value)} {f__law_same : Addr} {oc__law_same kV__law_same dc__law_same pm__law_same cd__law_same ct__law_same : Value} {od__law_same an__law_same : Option Addr} {sl__law_same : Array (Option Value)} {f__law_is_number : Addr} {oc__law_is_number kV__law_is_number dc__law_is_number pm__law_is_number cd__law_is_number ct__law_is_number : Value} {od__law_is_number an__law_is_number : Option Addr} {sl__law_is_number : Array (Option Value)} {f__law_bl_far : Addr} {oc__law_bl_far kV__law_bl_far dc__law_bl_far pm__law_bl_far cd__law_bl_far ct__law_bl_far : Value} {od__law_bl_far an__law_bl_far : Option Addr} {sl__law_bl_far : Array (Option Value)} {f__law_bl_top : Addr} {oc__law_bl_top kV__law_bl_top dc__law_bl_top pm__law_bl_top cd__law_bl_top ct__law_bl_top : Value} {od__law_bl_top an__law_bl_top : Option Addr} {sl__law_bl_top : Array (Option Value)} {f__law_bl_rising : Addr} {oc__law_bl_rising kV__law_bl_rising dc__law_bl_rising pm__law_bl_rising cd__law_bl_rising ct__law_bl_rising : Value} {od__law_bl_rising an__law_bl_rising : Option Addr} {sl__law_bl_rising : Array (Option Value)} {f__law_bl_parts : Addr} {oc__law_bl_parts kV__law_bl_parts dc__law_bl_parts pm__law_bl_parts cd__law_bl_parts ct__law_bl_parts : Value} {od__law_bl_parts an__law_bl_parts : Option Addr} {sl__law_bl_parts : Array (Option Value)} {f__law_bl_is_size : Addr} {oc__law_bl_is_size kV__law_bl_is_size dc__law_bl_is_size pm__law_bl_is_size cd__law_bl_is_size ct__law_bl_is_size : Value} {od__law_bl_is_size an__law_bl_is_size : Option Addr} {sl__law_bl_is_size : Array (Option Value)} {f__law_bl_rises : Addr} {oc__law_bl_rises kV__law_bl_rises dc__law_bl_rises pm__law_bl_rises cd__law_bl_rises ct__law_bl_rises : Value} {od__law_bl_rises an__law_bl_rises : Option Addr} {sl__law_bl_rises : Array (Option Value)} {f__law_bl_wrong : Addr} {oc__law_bl_wrong kV__law_bl_wrong dc__law_bl_wrong pm__law_bl_wrong cd__law_bl_wrong ct__law_bl_wrong : Value} {od__law_bl_wrong an__law_bl_wrong : Option Addr} {sl__law_bl_wrong : Array (Option Value)} {f__law_bl_is : Addr} {oc__law_bl_is kV__law_bl_is dc__law_bl_is pm__law_bl_is cd__law_bl_is ct__law_bl_is : Value} {od__law_bl_is an__law_bl_is : Option Addr} {sl__law_bl_is : Array (Option Value)} {f__law_taken : Addr} {oc__law_taken kV__law_taken dc__law_taken pm__law_taken cd__law_taken ct__law_taken : Value} {od__law_taken an__law_taken : Option Addr} {sl__law_taken : Array (Option Value)} {f__law_near : Addr} {oc__law_near kV__law_near dc__law_near pm__law_near cd__law_near ct__law_near : Value} {od__law_near an__law_near : Option Addr} {sl__law_near : Array (Option Value)} {f__law_bounds_right : Addr} {oc__law_bounds_right kV__law_bounds_right dc__law_bounds_right pm__law_bounds_right cd__law_bounds_right ct__law_bounds_right : Value} {od__law_bounds_right an__law_bounds_right : Option Addr} {sl__law_bounds_right : Array (Option Value)} {f_law : Addr} {oc_law kV_law dc_law pm_law cd_law ct_law : Value} {od_law an_law : Option Addr} {sl_law : Array (Option Value)} (KX : K.In h) (G : h.Ns mainGlobals mg) (hfa : mg "law" = some (.ref fa))
    (b_isinstance : nsIn K mainGlobals "isinstance" = some none)
    (b_len : nsIn K mainGlobals "len" = some none)
    (b_list : nsIn K mainGlobals "list" = some none)
    (b_tuple : nsIn K mainGlobals "tuple" = some none)
    (b_int : nsIn K mainGlobals "int" = some none)
    (b_range : nsIn K mainGlobals "range" = some none)
    (b_bool : nsIn K mainGlobals "bool" = some none)
    (b_all : nsIn K mainGlobals "all" = some none)
    (b_super : nsIn K mainGlobals "super" = some none)
    (b_abs : nsIn K mainGlobals "abs" = some none)
    (b_zip : nsIn K mainGlobals "zip" = some none)
    (b_str : nsIn K mainGlobals "str" = some none)
    (b_min : nsIn K mainGlobals "min" = some none)
    (b_enumerate : nsIn K mainGlobals "enumerate" = some none)
    (b_dict : nsIn K mainGlobals "dict" = some none)
    (g_Line : nsIn K mainGlobals "Line" = some (some (.ref L)))
    (g_Bent : nsIn K mainGlobals "Bent" = some (some (.ref B)))
    (g_BadLine : nsIn K mainGlobals "BadLine" = some (some (.ref E)))
    (g_BentError : nsIn K mainGlobals "BentError" = some (some (.ref BE)))
    (g_MP : nsIn K mainGlobals "MOST_POINTS" = some (some (.int 200 u200)))
    (g_MS : nsIn K mainGlobals "MOST_SIZE" = some (some (.int 1000000000000000000000000000000 uS)))
    (g_MV : nsIn K mainGlobals "MOST_VALUE" = some (some (.int 1000000000000000000000000000000000000000000000000000000000000000000000000000000000000000000000000000000000000000000000000000000000000000000000000000000000000000000000000000000000000000000000000000000000000000000000000000000000000000000000000000000000000000000000000000000000000000000000000000000000000 uV)))
    (mk1 : makesIn K L = true)
    (mk2 : findIn K (.ref L) "__init__" = some (some (.ref li)))
    (mk3 : isFn K (.ref li) = true)
    (mk4 : keepIn K (.ref L) = true)
    (cf1 : readsIn K B (.type "type") = true)
    (cf2 : specialIn K (.ref B) "__getattribute__" = some (some (.builtin "type.__getattribute__")))
    (cf3 : findCls K (.ref B) (.type "type") "__init__" = some (.val (.ref bi)))
    (cl1 : plainGet K L Str.empty = true)
    (cl2 : hasDictIn K L = true)
    (cl3 : plainOver K L = true)
    (cl4 : findIn K (.ref L) "__setattr__" = some (some (.builtin "object.__setattr__")))
    (it1 : findIn K (.ref L) "__class__" = some (some (.builtin "object.__class__")))
    (it2 : specialIn K (.builtin "object.__class__") "__get__" = some (some (.builtin "getset_descriptor.__get__")))
    (it3 : takesIn K (.builtin "object.__class__") = some true)
    (it4 : mroIn K L (.type "object") = some true)
    (qL_non : kitAny K (.type "NoneType") [.ref L] = some false)
    (qE_non : kitAny K (.type "NoneType") [.ref E] = some false)
    (qL_bl : kitAny K (.type "bool") [.ref L] = some false)
    (qE_bl : kitAny K (.type "bool") [.ref E] = some false)
    (qL_int : kitAny K (.type "int") [.ref L] = some false)
    (qE_int : kitAny K (.type "int") [.ref E] = some false)
    (qL_str : kitAny K (.type "str") [.ref L] = some false)
    (qE_str : kitAny K (.type "str") [.ref E] = some false)
    (qL_tup : kitAny K (.type "tuple") [.ref L] = some false)
    (qE_tup : kitAny K (.type "tuple") [.ref E] = some false)
    (qL_lst : kitAny K (.type "list") [.ref L] = some false)
    (qE_lst : kitAny K (.type "list") [.ref E] = some false)
    (qL_dct : kitAny K (.type "dict") [.ref L] = some false)
    (qE_dct : kitAny K (.type "dict") [.ref E] = some false)
    (qL_ins : kitAny K (.ref L) [.ref L] = some true)
    (qE_exc : kitAny K (.ref E) [.ref E] = some true)
    (na_own_points : findIn K (.ref L) "own_points" = some none)
    (na_own_slopes : findIn K (.ref L) "own_slopes" = some none)
    (na_own_value : findIn K (.ref L) "own_value" = some none)
    (eq1 : findIn K (.ref L) "__eq__" = some (some (.ref leq)))
    (eq2 : isFn K (.ref leq) = true)
    (x1 : findIn K (.ref E) "__getattribute__" = some (some (.builtin "BaseException.__getattribute__")))
    (x2 : findIn K (.ref E) "__getattr__" = some none)
    (x3 : subIn K (.ref E) (.type "BaseException") = some true)
    (x4 : hasDictIn K E = true)
    (x5 : findIn K (.ref E) "__class__" = some (some (.builtin "object.__class__")))
    (x6 : mroIn K E (.type "object") = some true)
    (x7 : findIn K (.ref E) "part" = some none)
    (x8 : exmOne K (.ref E) (.ref BE) = some true)
    (o1 : K.lookup E = some (excClassObj xnm xq E xN xbs xbm true xsn xsub xab xcol xdd xk0 xk1 xk2 xk3 xk5 "ValueError.__new__"))
    (o2 : PySem.HandSPX.refsVE xbm = true)
    (o3 : findIn K (.ref E) "__setattr__" = some (some (.builtin "object.__setattr__")))
    (o4 : typeIn K (.ref E) = some (.type "type"))
    (o5 : keepIn K (.ref E) = true)
    (i1 : findIn K (.ref E) "__init__" = some (some (.ref pI)))
    (i2 : typeIn K (.ref pI) = some (.type "function"))
    (i3 : K.lookup pI = some ⟨ioc, iod, .func (ksFn "__init__" "PartError.__init__" (defArgs (meth 2 0)) (defBody (meth 2 0)) (defScope (meth 2 0)) .none ikV idoc ipm ian (.ref cda) ict cc), isl⟩)
    (i4 : codeIn K (.ref cda) "PartError.__init__" = true)
    (i5 : K.lookup cda = some ⟨zcl, zdd, .fields zvs, zsl⟩)
    (i6 : zvs[2]? = some (.str zfile ztf))
    (i7 : ((PySem.Challenge.rw_bentcosts_k00_lines_and_what_is_none.prog.main.file : Str) == zfile) = true)
    (i8 : K.lookup cc = some ⟨ccl2, ccd2, .cell (some (.ref D)), ccs2⟩)
    (i9 : (clsIn K D).isSome = true)
    (i10 : mroIn K E (.ref D) = some true)
    (i11 : nsIn K cStatics "thirdparty.any" = some none)
    (i12 : ks_superIn K E D "__init__" = some (some (.builtin "ValueError.__init__")))
    (i13 : subIn K (.ref E) (.type "ValueError") = some true)
    (a__law_caught : nsIn K mainGlobals "_law_caught" = some (some (.ref f__law_caught)))
    (l__law_caught : K.lookup f__law_caught = some ⟨oc__law_caught, od__law_caught, .func (fnOf "_law_caught" "_law_caught" (defArgs (top 24)) (defBody (top 24)) (defScope (top 24)) .none kV__law_caught dc__law_caught pm__law_caught an__law_caught cd__law_caught ct__law_caught), sl__law_caught⟩)
    (c__law_caught : codeIn K cd__law_caught "_law_caught" = true)
    (k__law_caught : keepIn K (.ref f__law_caught) = true)
    (a_is_number : nsIn K mainGlobals "is_number" = some (some (.ref f_is_number)))
    (l_is_number : K.lookup f_is_number = some ⟨oc_is_number, od_is_number, .func (fnOf "is_number" "is_number" (defArgs (top 5)) (defBody (top 5)) (defScope (top 5)) .none kV_is_number dc_is_number pm_is_number an_is_number cd_is_number ct_is_number), sl_is_number⟩)
    (c_is_number : codeIn K cd_is_number "is_number" = true)
    (k_is_number : keepIn K (.ref f_is_number) = true)
    (a_is_between : nsIn K mainGlobals "is_between" = some (some (.ref f_is_between)))
    (l_is_between : K.lookup f_is_between = some ⟨oc_is_between, od_is_between, .func (fnOf "is_between" "is_between" (defArgs (top 6)) (defBody (top 6)) (defScope (top 6)) .none kV_is_between dc_is_between pm_is_between an_is_between cd_is_between ct_is_between), sl_is_between⟩)
    (c_is_between : codeIn K cd_is_between "is_between" = true)
    (k_is_between : keepIn K (.ref f_is_between) = true)
    (a_is_list : nsIn K mainGlobals "is_list" = some (some (.ref f_is_list)))
    (l_is_list : K.lookup f_is_list = some ⟨oc_is_list, od_is_list, .func (fnOf "is_list" "is_list" (defArgs (top 7)) (defBody (top 7)) (defScope (top 7)) .none kV_is_list dc_is_list pm_is_list an_is_list cd_is_list ct_is_list), sl_is_list⟩)
    (c_is_list : codeIn K cd_is_list "is_list" = true)
    (k_is_list : keepIn K (.ref f_is_list) = true)
    (a_ascends : nsIn K mainGlobals "ascends" = some (some (.ref f_ascends)))
    (l_ascends : K.lookup f_ascends = some ⟨oc_ascends, od_ascends, .func (fnOf "ascends" "ascends" (defArgs (top 12)) (defBody (top 12)) (defScope (top 12)) .none kV_ascends dc_ascends pm_ascends an_ascends cd_ascends ct_ascends), sl_ascends⟩)
    (c_ascends : codeIn K cd_ascends "ascends" = true)
    (k_ascends : keepIn K (.ref f_ascends) = true)
    (a_is_size : nsIn K mainGlobals "is_size" = some (some (.ref f_is_size)))
    (l_is_size : K.lookup f_is_size = some ⟨oc_is_size, od_is_size, .func (fnOf "is_size" "is_size" (defArgs (top 13)) (defBody (top 13)) (defScope (top 13)) .none kV_is_size dc_is_size pm_is_size an_is_size cd_is_size ct_is_size), sl_is_size⟩)
    (c_is_size : codeIn K cd_is_size "is_size" = true)
    (k_is_size : keepIn K (.ref f_is_size) = true)
    (a_points_right : nsIn K mainGlobals "points_right" = some (some (.ref f_points_right)))
    (l_points_right : K.lookup f_points_right = some ⟨oc_points_right, od_points_right, .func (fnOf "points_right" "points_right" (defArgs (top 14)) (defBody (top 14)) (defScope (top 14)) .none kV_points_right dc_points_right pm_points_right an_points_right cd_points_right ct_points_right), sl_points_right⟩)
    (c_points_right : codeIn K cd_points_right "points_right" = true)
    (k_points_right : keepIn K (.ref f_points_right) = true)
    (a_told_slopes : nsIn K mainGlobals "told_slopes" = some (some (.ref f_told_slopes)))
    (l_told_slopes : K.lookup f_told_slopes = some ⟨oc_told_slopes, od_told_slopes, .func (fnOf "told_slopes" "told_slopes" (defArgs (top 15)) (defBody (top 15)) (defScope (top 15)) .none kV_told_slopes dc_told_slopes pm_told_slopes an_told_slopes cd_told_slopes ct_told_slopes), sl_told_slopes⟩)
    (c_told_slopes : codeIn K cd_told_slopes "told_slopes" = true)
    (k_told_slopes : keepIn K (.ref f_told_slopes) = true)
    (a_slopes_right : nsIn K mainGlobals "slopes_right" = some (some (.ref f_slopes_right)))
    (l_slopes_right : K.lookup f_slopes_right = some ⟨oc_slopes_right, od_slopes_right, .func (fnOf "slopes_right" "slopes_right" (defArgs (top 16)) (defBody (top 16)) (defScope (top 16)) .none kV_slopes_right dc_slopes_right pm_slopes_right an_slopes_right cd_slopes_right ct_slopes_right), sl_slopes_right⟩)
    (c_slopes_right : codeIn K cd_slopes_right "slopes_right" = true)
    (k_slopes_right : keepIn K (.ref f_slopes_right) = true)
    (l_Bent___init__ : K.lookup bi = some ⟨oc_Bent___init__, od_Bent___init__, .func (fnOf "__init__" "Bent.__init__" (defArgs (meth 17 0)) (defBody (meth 17 0)) (defScope (meth 17 0)) .none kV_Bent___init__ dc_Bent___init__ pm_Bent___init__ an_Bent___init__ cd_Bent___init__ ct_Bent___init__), sl_Bent___init__⟩)
    (c_Bent___init__ : codeIn K cd_Bent___init__ "Bent.__init__" = true)
    (k_Bent___init__ : keepIn K (.ref bi) = true)
    (pr1_points : findIn K (.ref L) "points" = some (some (.ref p_points)))
    (pr2_points : specialIn K (.ref p_points) "__get__" = some (some (.builtin "property.__get__")))
    (pr3_points : takesIn K (.ref p_points) = some true)
    (pr4_points : recIn K p_points "property" = some (.ref f_Bent_points :: rest_points))
    (l_Bent_points : K.lookup f_Bent_points = some ⟨oc_Bent_points, od_Bent_points, .func (fnOf "points" "Bent.points" (defArgs (meth 17 1)) (defBody (meth 17 1)) (defScope (meth 17 1)) .none kV_Bent_points dc_Bent_points pm_Bent_points an_Bent_points cd_Bent_points ct_Bent_points), sl_Bent_points⟩)
    (c_Bent_points : codeIn K cd_Bent_points "Bent.points" = true)
    (k_Bent_points : keepIn K (.ref f_Bent_points) = true)
    (pr1_slopes : findIn K (.ref L) "slopes" = some (some (.ref p_slopes)))
    (pr2_slopes : specialIn K (.ref p_slopes) "__get__" = some (some (.builtin "property.__get__")))
    (pr3_slopes : takesIn K (.ref p_slopes) = some true)
    (pr4_slopes : recIn K p_slopes "property" = some (.ref f_Bent_slopes :: rest_slopes))
    (l_Bent_slopes : K.lookup f_Bent_slopes = some ⟨oc_Bent_slopes, od_Bent_slopes, .func (fnOf "slopes" "Bent.slopes" (defArgs (meth 17 2)) (defBody (meth 17 2)) (defScope (meth 17 2)) .none kV_Bent_slopes dc_Bent_slopes pm_Bent_slopes an_Bent_slopes cd_Bent_slopes ct_Bent_slopes), sl_Bent_slopes⟩)
    (c_Bent_slopes : codeIn K cd_Bent_slopes "Bent.slopes" = true)
    (k_Bent_slopes : keepIn K (.ref f_Bent_slopes) = true)
    (pr1_value : findIn K (.ref L) "value" = some (some (.ref p_value)))
    (pr2_value : specialIn K (.ref p_value) "__get__" = some (some (.builtin "property.__get__")))
    (pr3_value : takesIn K (.ref p_value) = some true)
    (pr4_value : recIn K p_value "property" = some (.ref f_Bent_value :: rest_value))
    (l_Bent_value : K.lookup f_Bent_value = some ⟨oc_Bent_value, od_Bent_value, .func (fnOf "value" "Bent.value" (defArgs (meth 17 3)) (defBody (meth 17 3)) (defScope (meth 17 3)) .none kV_Bent_value dc_Bent_value pm_Bent_value an_Bent_value cd_Bent_value ct_Bent_value), sl_Bent_value⟩)
    (c_Bent_value : codeIn K cd_Bent_value "Bent.value" = true)
    (k_Bent_value : keepIn K (.ref f_Bent_value) = true)
    (l_Line___init__ : K.lookup li = some ⟨oc_Line___init__, od_Line___init__, .func (fnOf "__init__" "Line.__init__" (defArgs (meth 18 0)) (defBody (meth 18 0)) (defScope (meth 18 0)) .none kV_Line___init__ dc_Line___init__ pm_Line___init__ an_Line___init__ cd_Line___init__ ct_Line___init__), sl_Line___init__⟩)
    (c_Line___init__ : codeIn K cd_Line___init__ "Line.__init__" = true)
    (k_Line___init__ : keepIn K (.ref li) = true)
    (l_Line___eq__ : K.lookup leq = some ⟨oc_Line___eq__, od_Line___eq__, .func (fnOf "__eq__" "Line.__eq__" (defArgs (meth 18 1)) (defBody (meth 18 1)) (defScope (meth 18 1)) .none kV_Line___eq__ dc_Line___eq__ pm_Line___eq__ an_Line___eq__ cd_Line___eq__ ct_Line___eq__), sl_Line___eq__⟩)
    (c_Line___eq__ : codeIn K cd_Line___eq__ "Line.__eq__" = true)
    (k_Line___eq__ : keepIn K (.ref leq) = true)
    (a__law_begun : nsIn K mainGlobals "_law_begun" = some (some (.ref f__law_begun)))
    (l__law_begun : K.lookup f__law_begun = some ⟨oc__law_begun, od__law_begun, .func (fnOf "_law_begun" "_law_begun" (defArgs (top 20)) (defBody (top 20)) (defScope (top 20)) .none kV__law_begun dc__law_begun pm__law_begun an__law_begun cd__law_begun ct__law_begun), sl__law_begun⟩)
    (c__law_begun : codeIn K cd__law_begun "_law_begun" = true)
    (k__law_begun : keepIn K (.ref f__law_begun) = true)
    (a__law_blended : nsIn K mainGlobals "_law_blended" = some (some (.ref f__law_blended)))
    (l__law_blended : K.lookup f__law_blended = some ⟨oc__law_blended, od__law_blended, .func (fnOf "_law_blended" "_law_blended" (defArgs (top 21)) (defBody (top 21)) (defScope (top 21)) .none kV__law_blended dc__law_blended pm__law_blended an__law_blended cd__law_blended ct__law_blended), sl__law_blended⟩)
    (c__law_blended : codeIn K cd__law_blended "_law_blended" = true)
    (k__law_blended : keepIn K (.ref f__law_blended) = true)
    (a__law_draw : nsIn K mainGlobals "_law_draw" = some (some (.ref f__law_draw)))
    (l__law_draw : K.lookup f__law_draw = some ⟨oc__law_draw, od__law_draw, .func (fnOf "_law_draw" "_law_draw" (defArgs (top 22)) (defBody (top 22)) (defScope (top 22)) .none kV__law_draw dc__law_draw pm__law_draw an__law_draw cd__law_draw ct__law_draw), sl__law_draw⟩)
    (c__law_draw : codeIn K cd__law_draw "_law_draw" = true)
    (k__law_draw : keepIn K (.ref f__law_draw) = true)
    (a__law_pick : nsIn K mainGlobals "_law_pick" = some (some (.ref f__law_pick)))
    (l__law_pick : K.lookup f__law_pick = some ⟨oc__law_pick, od__law_pick, .func (fnOf "_law_pick" "_law_pick" (defArgs (top 23)) (defBody (top 23)) (defScope (top 23)) .none kV__law_pick dc__law_pick pm__law_pick an__law_pick cd__law_pick ct__law_pick), sl__law_pick⟩)
    (c__law_pick : codeIn K cd__law_pick "_law_pick" = true)
    (k__law_pick : keepIn K (.ref f__law_pick) = true)
    (a__law_is_truth : nsIn K mainGlobals "_law_is_truth" = some (some (.ref f__law_is_truth)))
    (l__law_is_truth : K.lookup f__law_is_truth = some ⟨oc__law_is_truth, od__law_is_truth, .func (fnOf "_law_is_truth" "_law_is_truth" (defArgs (top 25)) (defBody (top 25)) (defScope (top 25)) .none kV__law_is_truth dc__law_is_truth pm__law_is_truth an__law_is_truth cd__law_is_truth ct__law_is_truth), sl__law_is_truth⟩)
    (c__law_is_truth : codeIn K cd__law_is_truth "_law_is_truth" = true)
    (k__law_is_truth : keepIn K (.ref f__law_is_truth) = true)
    (a__law_same : nsIn K mainGlobals "_law_same" = some (some (.ref f__law_same)))
    (l__law_same : K.lookup f__law_same = some ⟨oc__law_same, od__law_same, .func (fnOf "_law_same" "_law_same" (defArgs (top 26)) (defBody (top 26)) (defScope (top 26)) .none kV__law_same dc__law_same pm__law_same an__law_same cd__law_same ct__law_same), sl__law_same⟩)
    (c__law_same : codeIn K cd__law_same "_law_same" = true)
    (k__law_same : keepIn K (.ref f__law_same) = true)
    (a__law_is_number : nsIn K mainGlobals "_law_is_number" = some (some (.ref f__law_is_number)))
    (l__law_is_number : K.lookup f__law_is_number = some ⟨oc__law_is_number, od__law_is_number, .func (fnOf "_law_is_number" "_law_is_number" (defArgs (top 27)) (defBody (top 27)) (defScope (top 27)) .none kV__law_is_number dc__law_is_number pm__law_is_number an__law_is_number cd__law_is_number ct__law_is_number), sl__law_is_number⟩)
    (c__law_is_number : codeIn K cd__law_is_number "_law_is_number" = true)
    (k__law_is_number : keepIn K (.ref f__law_is_number) = true)
    (a__law_bl_far : nsIn K mainGlobals "_law_bl_far" = some (some (.ref f__law_bl_far)))
    (l__law_bl_far : K.lookup f__law_bl_far = some ⟨oc__law_bl_far, od__law_bl_far, .func (fnOf "_law_bl_far" "_law_bl_far" (defArgs (top 28)) (defBody (top 28)) (defScope (top 28)) .none kV__law_bl_far dc__law_bl_far pm__law_bl_far an__law_bl_far cd__law_bl_far ct__law_bl_far), sl__law_bl_far⟩)
    (c__law_bl_far : codeIn K cd__law_bl_far "_law_bl_far" = true)
    (k__law_bl_far : keepIn K (.ref f__law_bl_far) = true)
    (a__law_bl_top : nsIn K mainGlobals "_law_bl_top" = some (some (.ref f__law_bl_top)))
    (l__law_bl_top : K.lookup f__law_bl_top = some ⟨oc__law_bl_top, od__law_bl_top, .func (fnOf "_law_bl_top" "_law_bl_top" (defArgs (top 29)) (defBody (top 29)) (defScope (top 29)) .none kV__law_bl_top dc__law_bl_top pm__law_bl_top an__law_bl_top cd__law_bl_top ct__law_bl_top), sl__law_bl_top⟩)
    (c__law_bl_top : codeIn K cd__law_bl_top "_law_bl_top" = true)
    (k__law_bl_top : keepIn K (.ref f__law_bl_top) = true)
    (a__law_bl_rising : nsIn K mainGlobals "_law_bl_rising" = some (some (.ref f__law_bl_rising)))
    (l__law_bl_rising : K.lookup f__law_bl_rising = some ⟨oc__law_bl_rising, od__law_bl_rising, .func (fnOf "_law_bl_rising" "_law_bl_rising" (defArgs (top 30)) (defBody (top 30)) (defScope (top 30)) .none kV__law_bl_rising dc__law_bl_rising pm__law_bl_rising an__law_bl_rising cd__law_bl_rising ct__law_bl_rising), sl__law_bl_rising⟩)
    (c__law_bl_rising : codeIn K cd__law_bl_rising "_law_bl_rising" = true)
    (k__law_bl_rising : keepIn K (.ref f__law_bl_rising) = true)
    (a__law_bl_parts : nsIn K mainGlobals "_law_bl_parts" = some (some (.ref f__law_bl_parts)))
    (l__law_bl_parts : K.lookup f__law_bl_parts = some ⟨oc__law_bl_parts, od__law_bl_parts, .func (fnOf "_law_bl_parts" "_law_bl_parts" (defArgs (top 31)) (defBody (top 31)) (defScope (top 31)) .none kV__law_bl_parts dc__law_bl_parts pm__law_bl_parts an__law_bl_parts cd__law_bl_parts ct__law_bl_parts), sl__law_bl_parts⟩)
    (c__law_bl_parts : codeIn K cd__law_bl_parts "_law_bl_parts" = true)
    (k__law_bl_parts : keepIn K (.ref f__law_bl_parts) = true)
    (a__law_bl_is_size : nsIn K mainGlobals "_law_bl_is_size" = some (some (.ref f__law_bl_is_size)))
    (l__law_bl_is_size : K.lookup f__law_bl_is_size = some ⟨oc__law_bl_is_size, od__law_bl_is_size, .func (fnOf "_law_bl_is_size" "_law_bl_is_size" (defArgs (top 32)) (defBody (top 32)) (defScope (top 32)) .none kV__law_bl_is_size dc__law_bl_is_size pm__law_bl_is_size an__law_bl_is_size cd__law_bl_is_size ct__law_bl_is_size), sl__law_bl_is_size⟩)
    (c__law_bl_is_size : codeIn K cd__law_bl_is_size "_law_bl_is_size" = true)
    (k__law_bl_is_size : keepIn K (.ref f__law_bl_is_size) = true)
    (a__law_bl_rises : nsIn K mainGlobals "_law_bl_rises" = some (some (.ref f__law_bl_rises)))
    (l__law_bl_rises : K.lookup f__law_bl_rises = some ⟨oc__law_bl_rises, od__law_bl_rises, .func (fnOf "_law_bl_rises" "_law_bl_rises" (defArgs (top 33)) (defBody (top 33)) (defScope (top 33)) .none kV__law_bl_rises dc__law_bl_rises pm__law_bl_rises an__law_bl_rises cd__law_bl_rises ct__law_bl_rises), sl__law_bl_rises⟩)
    (c__law_bl_rises : codeIn K cd__law_bl_rises "_law_bl_rises" = true)
    (k__law_bl_rises : keepIn K (.ref f__law_bl_rises) = true)
    (a__law_bl_wrong : nsIn K mainGlobals "_law_bl_wrong" = some (some (.ref f__law_bl_wrong)))
    (l__law_bl_wrong : K.lookup f__law_bl_wrong = some ⟨oc__law_bl_wrong, od__law_bl_wrong, .func (fnOf "_law_bl_wrong" "_law_bl_wrong" (defArgs (top 34)) (defBody (top 34)) (defScope (top 34)) .none kV__law_bl_wrong dc__law_bl_wrong pm__law_bl_wrong an__law_bl_wrong cd__law_bl_wrong ct__law_bl_wrong), sl__law_bl_wrong⟩)
    (c__law_bl_wrong : codeIn K cd__law_bl_wrong "_law_bl_wrong" = true)
    (k__law_bl_wrong : keepIn K (.ref f__law_bl_wrong) = true)
    (a__law_bl_is : nsIn K mainGlobals "_law_bl_is" = some (some (.ref f__law_bl_is)))
    (l__law_bl_is : K.lookup f__law_bl_is = some ⟨oc__law_bl_is, od__law_bl_is, .func (fnOf "_law_bl_is" "_law_bl_is" (defArgs (top 35)) (defBody (top 35)) (defScope (top 35)) .none kV__law_bl_is dc__law_bl_is pm__law_bl_is an__law_bl_is cd__law_bl_is ct__law_bl_is), sl__law_bl_is⟩)
    (c__law_bl_is : codeIn K cd__law_bl_is "_law_bl_is" = true)
    (k__law_bl_is : keepIn K (.ref f__law_bl_is) = true)
    (a__law_taken : nsIn K mainGlobals "_law_taken" = some (some (.ref f__law_taken)))
    (l__law_taken : K.lookup f__law_taken = some ⟨oc__law_taken, od__law_taken, .func (fnOf "_law_taken" "_law_taken" (defArgs (top 36)) (defBody (top 36)) (defScope (top 36)) .none kV__law_taken dc__law_taken pm__law_taken an__law_taken cd__law_taken ct__law_taken), sl__law_taken⟩)
    (c__law_taken : codeIn K cd__law_taken "_law_taken" = true)
    (k__law_taken : keepIn K (.ref f__law_taken) = true)
    (a__law_near : nsIn K mainGlobals "_law_near" = some (some (.ref f__law_near)))
    (l__law_near : K.lookup f__law_near = some ⟨oc__law_near, od__law_near, .func (fnOf "_law_near" "_law_near" (defArgs (top 37)) (defBody (top 37)) (defScope (top 37)) .none kV__law_near dc__law_near pm__law_near an__law_near cd__law_near ct__law_near), sl__law_near⟩)
    (c__law_near : codeIn K cd__law_near "_law_near" = true)
    (k__law_near : keepIn K (.ref f__law_near) = true)
    (a__law_bounds_right : nsIn K mainGlobals "_law_bounds_right" = some (some (.ref f__law_bounds_right)))
    (l__law_bounds_right : K.lookup f__law_bounds_right = some ⟨oc__law_bounds_right, od__law_bounds_right, .func (fnOf "_law_bounds_right" "_law_bounds_right" (defArgs (top 38)) (defBody (top 38)) (defScope (top 38)) .none kV__law_bounds_right dc__law_bounds_right pm__law_bounds_right an__law_bounds_right cd__law_bounds_right ct__law_bounds_right), sl__law_bounds_right⟩)
    (c__law_bounds_right : codeIn K cd__law_bounds_right "_law_bounds_right" = true)
    (k__law_bounds_right : keepIn K (.ref f__law_bounds_right) = true)
    (a_law : nsIn K mainGlobals "law" = some (some (.ref f_law)))
    (l_law : K.lookup f_law = some ⟨oc_law, od_law, .func (fnOf "law" "law" (defArgs (top 39)) (defBody (top 39)) (defScope (top 39)) .none kV_law dc_law pm_law an_law cd_law ct_law), sl_law⟩)
    (c_law : codeIn K cd_law "law" = true)
    (k_law : keepIn K (.ref f_law) = true)
    (co_law : codeAt K f_law = some (.ref cl))
    (co__law_bounds_right : codeAt K f__law_bounds_right = some (.ref cb))
    (h_l : codeHdIn K cl tl = true)
    (h_b : codeHdIn K cb tb = true)
    (n_l : K.lookup tl = none)
    (n_b : K.lookup tb = none)
    (htt : tl ≠ tb)
    (t_l : h.get? tl = some { cls := .none, data := .fields #[] })
    (t_b : h.get? tb = some { cls := .none, data := .fields #[] }) :
    LamX.LawAtS PySem.Challenge.rw_bentcosts_k00_lines_and_what_is_none w K (L2.CX PySem.Challenge.rw_bentcosts_k00_lines_and_what_is_none.prog w) 60 63 "script" mg fa h := by
  have e := hfa.symm.trans (mg_of KX G a_law)
  cases e
  obtain ⟨A, eA⟩ : ∃ A : Ad, A = ⟨L, B, E, BE, bi, li, leq, tl, cl, tb, cb⟩ := ⟨_, rfl⟩
  refine ⟨fnOf "law" "law" (defArgs (top 39)) (defBody (top 39)) (defScope (top 39)) .none kV_law dc_law pm_law an_law cd_law ct_law, [(cl, tl), (cb, tb)], lawSp (tabs0 tl tb) K (F_law A), ?_, ?_, ?_, fun s u => .of_eq rfl, ?_, fun base KB GB hTB => ?_⟩
  · intro p hp
    rcases List.mem_cons.mp hp with z | z
    · rw [z]; exact t_l
    · rw [List.mem_singleton.mp z]; exact t_b
  · intro p hp
    rcases List.mem_cons.mp hp with z | z
    · rw [z]; exact n_l
    · rw [List.mem_singleton.mp z]; exact n_b
  · intro p hp
    rcases List.mem_cons.mp hp with z | z
    · rw [z]; exact codeHd_of_K KX h_l
    · rw [List.mem_singleton.mp z]; exact codeHd_of_K KX h_b
  · intro H a ns hl _ ht hs
    refine law_sp (fun T a ns R RX m _ _ r => ⟨a, ns, rfl, m, r⟩) H a ns hl (fun p hp => ?_) hs
    rcases List.mem_cons.mp hp with z | z
    · rw [z]; exact ht (cl, tl) (List.mem_cons_self ..)
    · rw [List.mem_singleton.mp z]; exact ht (cb, tb) (List.mem_cons_of_mem _ (List.mem_cons_self ..))
  subst eA
  have t : Txt PySem.Challenge.rw_bentcosts_k00_lines_and_what_is_none.prog w K mg base (tabs0 tl tb) ⟨L, B, E, BE, bi, li, leq, tl, cl, tb, cb⟩ := {
    bi_isinstance := mg_none_of KX G b_isinstance
    bi_len := mg_none_of KX G b_len
    bi_list := mg_none_of KX G b_list
    bi_tuple := mg_none_of KX G b_tuple
    bi_int := mg_none_of KX G b_int
    bi_range := mg_none_of KX G b_range
    bi_bool := mg_none_of KX G b_bool
    bi_all := mg_none_of KX G b_all
    bi_super := mg_none_of KX G b_super
    bi_abs := mg_none_of KX G b_abs
    bi_zip := mg_none_of KX G b_zip
    bi_str := mg_none_of KX G b_str
    bi_min := mg_none_of KX G b_min
    bi_enumerate := mg_none_of KX G b_enumerate
    bi_dict := mg_none_of KX G b_dict
    mg_Line := mg_of KX G g_Line
    mg_Bent := mg_of KX G g_Bent
    mg_BadLine := mg_of KX G g_BadLine
    gl_MOST_POINTS := ⟨_, mg_of KX G g_MP⟩
    gl_MOST_SIZE := ⟨_, mg_of KX G g_MS⟩
    gl_MOST_VALUE := ⟨_, mg_of KX G g_MV⟩
    mk_Line := ⟨mk1, mk2, mk3, mk4⟩
    cf_Bent___init__ := ⟨cf1, cf2, cf3, k_Bent___init__⟩
    q_int := isq_by (fun k b h => by cases k <;> first | (cases h; rfl) | (cases h)) (fun _ _ h => (nomatch h)) (fun _ _ h => (nomatch h))
    q_bool := isq_by (fun k b h => by cases k <;> first | (cases h; rfl) | (cases h)) (fun _ _ h => (nomatch h)) (fun _ _ h => (nomatch h))
    q_listtuple := isq_by (fun k b h => by cases k <;> first | (cases h; rfl) | (cases h)) (fun _ _ h => (nomatch h)) (fun _ _ h => (nomatch h))
    q_intstr := isq_by (fun k b h => by cases k <;> first | (cases h; rfl) | (cases h)) (fun _ _ h => (nomatch h)) (fun _ _ h => (nomatch h))
    q_dict := isq_by (fun k b h => by cases k <;> first | (cases h; rfl) | (cases h)) (fun _ _ h => (nomatch h)) (fun _ _ h => (nomatch h))
    q_tuple := isq_by (fun k b h => by cases k <;> first | (cases h; rfl) | (cases h)) (fun _ _ h => (nomatch h)) (fun _ _ h => (nomatch h))
    q_list := isq_by (fun k b h => by cases k <;> first | (cases h; rfl) | (cases h)) (fun _ _ h => (nomatch h)) (fun _ _ h => (nomatch h))
    q_line := ⟨(fun k b h => match k, b, h with
    | .non, _, h => by cases h; exact qL_non
    | .bl, _, h => by cases h; exact qL_bl
    | .int, _, h => by cases h; exact qL_int
    | .str, _, h => by cases h; exact qL_str
    | .tup, _, h => by cases h; exact qL_tup
    | .lst, _, h => by cases h; exact qL_lst
    | .dct, _, h => by cases h; exact qL_dct
    | .ins C, b, h => by
      by_cases z : C = L
      · have h' : (if C = L then some true else none) = some b := h
        rw [if_pos z] at h'; cases h'; subst z; exact qL_ins
      · have h' : (if C = L then some true else none) = some b := h
        rw [if_neg z] at h'; cases h'
    | .exc C, b, h => by cases h), (fun C b h => by
      have h' : (if C = L then some true else none) = some b := h
      by_cases z : C = L
      · subst z; exact ⟨⟨cl1, cl2, cl3, cl4⟩, it1, it2, it3, it4⟩
      · rw [if_neg z] at h'; cases h'), (fun C b h => by cases h)⟩
    q_badline := ⟨(fun k b h => match k, b, h with
    | .non, _, h => by cases h; exact qE_non
    | .bl, _, h => by cases h; exact qE_bl
    | .int, _, h => by cases h; exact qE_int
    | .str, _, h => by cases h; exact qE_str
    | .tup, _, h => by cases h; exact qE_tup
    | .lst, _, h => by cases h; exact qE_lst
    | .dct, _, h => by cases h; exact qE_dct
    | .exc C, b, h => by
      by_cases z : C = E
      · have h' : (if C = E then some true else none) = some b := h
        rw [if_pos z] at h'; cases h'; subst z; exact qE_exc
      · have h' : (if C = E then some true else none) = some b := h
        rw [if_neg z] at h'; cases h'
    | .ins C, b, h => by cases h), (fun C b h => by cases h), (fun C b h => by
      have h' : (if C = E then some true else none) = some b := h
      by_cases z : C = E
      · subst z; exact ⟨x1, x2, x3, x4, x5, it2, it3, x6⟩
      · rw [if_neg z] at h'; cases h')⟩
    fld_own_points := fun C hC => by rw [List.mem_singleton.mp hC]; exact ⟨⟨cl1, cl2, cl3, cl4⟩, na_own_points⟩
    fld_own_slopes := fun C hC => by rw [List.mem_singleton.mp hC]; exact ⟨⟨cl1, cl2, cl3, cl4⟩, na_own_slopes⟩
    fld_own_value := fun C hC => by rw [List.mem_singleton.mp hC]; exact ⟨⟨cl1, cl2, cl3, cl4⟩, na_own_value⟩
    eqf_s := eq1
    eqf_f := eq2
    xs_BadLine := ⟨⟨⟨_, _, _, _, _, _, _, _, _, _, _, _, _, _, _, o1, o2⟩, o3, x3, o4, o5⟩, pI, D, "part", _, _, _, cda, cc, i1, i2,
      { fn := ⟨_, _, _, _, _, _, _, _, _, _, _, _, i3, rfl, i4⟩, body_ := ⟨_, _, _, _, _, _, _, _, _, _, _, _, rfl, fun env => ⟨_, rfl⟩, fun env => rfl, fun env => rfl⟩,
        binds := fun us hl => match us, hl with | [_, _], _ => rfl
        head := ⟨_, rfl, rfl⟩, hs := rfl, hy := rfl, hys := by decide, hyd := by decide, hsup := rfl, hcl := rfl, nocell := by decide +kernel, co := rfl, gen := rfl, kind := rfl,
        code := ⟨_, _, _, _, _, _, i5, i6, i7⟩, cell := ⟨_, _, _, i8⟩, dcl := i9, sub := i10, sup := b_super, top := rfl, opq := i11, along := i12, sve := i13, no := x7 }⟩
    xf_part := fun C hC => by rw [List.mem_singleton.mp hC]; exact ⟨⟨x1, x2, x3, x4⟩, x7⟩
    cgt := ⟨⟨f__law_caught, _, _, _, _, _, _, _, _, _, _, _, _, _, ["action", "found", "error"], mg_of KX G a__law_caught, k__law_caught, l__law_caught, c__law_caught, (fun_mk (st := top 24) l__law_caught c__law_caught k__law_caught).binds (ps := ["action"]) (fun _ _ _ _ _ _ us hl => match us, hl with | [_], _ => rfl),
      ⟨rfl, rfl, rfl, by decide +kernel, rfl, by decide +kernel, by decide +kernel⟩, rfl, .inl rfl, fun X q e1 e2 => by
        rw [← e1]
        exact caught_gives (by decide) (.inl rfl) rfl rfl rfl (by rw [e2]; exact mg_of KX G g_BentError) (by decide) (by decide) (by decide) (by decide) (by decide) (fun _ => rfl) (fun _ => rfl) (fun _ => rfl)⟩, by decide, by decide, by decide⟩
    cgt_in := fun C hC => by rw [List.mem_singleton.mp hC]; exact x8 }
  let A : Ad := ⟨L, B, E, BE, bi, li, leq, tl, cl, tb, cb⟩
  have fu_is_number := fun_mk (st := top 5) l_is_number c_is_number k_is_number
  have hb_is_number := fu_is_number.binds (ps := ["thing"]) fun _ _ _ _ _ _ us hl => match us, hl with | [_], _ => rfl
  have n_is_number := wk_is_number (base := base) (w := w) (tabs := tabs0 tl tb) (A := A) t fu_is_number (fun T bs O R RX h => by first | (obtain ⟨rfl, _⟩ := h; rfl) | (obtain ⟨_, rfl, _⟩ := h; rfl) | (obtain ⟨_, _, rfl, _⟩ := h; rfl) | (obtain ⟨_, _, _, rfl, _⟩ := h; rfl) | (obtain ⟨_, _, _, _, rfl, _⟩ := h; rfl) | (obtain ⟨_, _, _, _, _, rfl, _⟩ := h; rfl) | (obtain ⟨_, _, _, _, _, _, rfl, _⟩ := h; rfl) | (obtain ⟨_, _, _, _, _, _, _, rfl, _⟩ := h; rfl) | (obtain ⟨_, _, _, _, _, _, _, _, rfl, _⟩ := h; rfl)) (fun T bs O R RX _ _ h => sp_is_number T bs O R RX h)
  have cal_is_number : CalD PySem.Challenge.rw_bentcosts_k00_lines_and_what_is_none.prog w K mg base (tabs0 tl tb) 1 "is_number" (F_is_number A) := ⟨⟨_, _, _, n_is_number, mg_of KX G a_is_number, k_is_number, hb_is_number⟩⟩
  have fu_is_between := fun_mk (st := top 6) l_is_between c_is_between k_is_between
  have hb_is_between := fu_is_between.binds (ps := ["thing", "low", "high"]) fun _ _ _ _ _ _ us hl => match us, hl with | [_, _, _], _ => rfl
  have n_is_between := wk_is_between (base := base) (w := w) (tabs := tabs0 tl tb) (A := A) t cal_is_number fu_is_between (fun T bs O R RX h => by first | (obtain ⟨rfl, _⟩ := h; rfl) | (obtain ⟨_, rfl, _⟩ := h; rfl) | (obtain ⟨_, _, rfl, _⟩ := h; rfl) | (obtain ⟨_, _, _, rfl, _⟩ := h; rfl) | (obtain ⟨_, _, _, _, rfl, _⟩ := h; rfl) | (obtain ⟨_, _, _, _, _, rfl, _⟩ := h; rfl) | (obtain ⟨_, _, _, _, _, _, rfl, _⟩ := h; rfl) | (obtain ⟨_, _, _, _, _, _, _, rfl, _⟩ := h; rfl) | (obtain ⟨_, _, _, _, _, _, _, _, rfl, _⟩ := h; rfl)) (fun T bs O R RX _ _ h => sp_is_between T bs O R RX h)
  have cal_is_between : CalD PySem.Challenge.rw_bentcosts_k00_lines_and_what_is_none.prog w K mg base (tabs0 tl tb) 2 "is_between" (F_is_between A) := ⟨⟨_, _, _, n_is_between, mg_of KX G a_is_between, k_is_between, hb_is_between⟩⟩
  have fu_is_list := fun_mk (st := top 7) l_is_list c_is_list k_is_list
  have hb_is_list := fu_is_list.binds (ps := ["thing"]) fun _ _ _ _ _ _ us hl => match us, hl with | [_], _ => rfl
  have n_is_list := wk_is_list (base := base) (w := w) (tabs := tabs0 tl tb) (A := A) t fu_is_list (fun T bs O R RX h => by first | (obtain ⟨rfl, _⟩ := h; rfl) | (obtain ⟨_, rfl, _⟩ := h; rfl) | (obtain ⟨_, _, rfl, _⟩ := h; rfl) | (obtain ⟨_, _, _, rfl, _⟩ := h; rfl) | (obtain ⟨_, _, _, _, rfl, _⟩ := h; rfl) | (obtain ⟨_, _, _, _, _, rfl, _⟩ := h; rfl) | (obtain ⟨_, _, _, _, _, _, rfl, _⟩ := h; rfl) | (obtain ⟨_, _, _, _, _, _, _, rfl, _⟩ := h; rfl) | (obtain ⟨_, _, _, _, _, _, _, _, rfl, _⟩ := h; rfl)) (fun T bs O R RX _ _ h => sp_is_list T bs O R RX h)
  have cal_is_list : CalD PySem.Challenge.rw_bentcosts_k00_lines_and_what_is_none.prog w K mg base (tabs0 tl tb) 1 "is_list" (F_is_list A) := ⟨⟨_, _, _, n_is_list, mg_of KX G a_is_list, k_is_list, hb_is_list⟩⟩
  have fu_ascends := fun_mk (st := top 12) l_ascends c_ascends k_ascends
  have hb_ascends := fu_ascends.binds (ps := ["numbers"]) fun _ _ _ _ _ _ us hl => match us, hl with | [_], _ => rfl
  have n_ascends := wk_ascends (base := base) (w := w) (tabs := tabs0 tl tb) (A := A) t fu_ascends (fun T bs O R RX h => by first | (obtain ⟨rfl, _⟩ := h; rfl) | (obtain ⟨_, rfl, _⟩ := h; rfl) | (obtain ⟨_, _, rfl, _⟩ := h; rfl) | (obtain ⟨_, _, _, rfl, _⟩ := h; rfl) | (obtain ⟨_, _, _, _, rfl, _⟩ := h; rfl) | (obtain ⟨_, _, _, _, _, rfl, _⟩ := h; rfl) | (obtain ⟨_, _, _, _, _, _, rfl, _⟩ := h; rfl) | (obtain ⟨_, _, _, _, _, _, _, rfl, _⟩ := h; rfl) | (obtain ⟨_, _, _, _, _, _, _, _, rfl, _⟩ := h; rfl)) (fun T bs O R RX _ _ h => sp_ascends T bs O R RX h)
  have cal_ascends : CalD PySem.Challenge.rw_bentcosts_k00_lines_and_what_is_none.prog w K mg base (tabs0 tl tb) 1 "ascends" (F_ascends A) := ⟨⟨_, _, _, n_ascends, mg_of KX G a_ascends, k_ascends, hb_ascends⟩⟩
  have fu_is_size := fun_mk (st := top 13) l_is_size c_is_size k_is_size
  have hb_is_size := fu_is_size.binds (ps := ["thing"]) fun _ _ _ _ _ _ us hl => match us, hl with | [_], _ => rfl
  have n_is_size := wk_is_size (base := base) (w := w) (tabs := tabs0 tl tb) (A := A) t cal_is_between fu_is_size (fun T bs O R RX h => by first | (obtain ⟨rfl, _⟩ := h; rfl) | (obtain ⟨_, rfl, _⟩ := h; rfl) | (obtain ⟨_, _, rfl, _⟩ := h; rfl) | (obtain ⟨_, _, _, rfl, _⟩ := h; rfl) | (obtain ⟨_, _, _, _, rfl, _⟩ := h; rfl) | (obtain ⟨_, _, _, _, _, rfl, _⟩ := h; rfl) | (obtain ⟨_, _, _, _, _, _, rfl, _⟩ := h; rfl) | (obtain ⟨_, _, _, _, _, _, _, rfl, _⟩ := h; rfl) | (obtain ⟨_, _, _, _, _, _, _, _, rfl, _⟩ := h; rfl)) (fun T bs O R RX _ _ h => sp_is_size T bs O R RX h)
  have cal_is_size : CalD PySem.Challenge.rw_bentcosts_k00_lines_and_what_is_none.prog w K mg base (tabs0 tl tb) 3 "is_size" (F_is_size A) := ⟨⟨_, _, _, n_is_size, mg_of KX G a_is_size, k_is_size, hb_is_size⟩⟩
  have fu_points_right := fun_mk (st := top 14) l_points_right c_points_right k_points_right
  have hb_points_right := fu_points_right.binds (ps := ["thing"]) fun _ _ _ _ _ _ us hl => match us, hl with | [_], _ => rfl
  have n_points_right := wk_points_right (base := base) (w := w) (tabs := tabs0 tl tb) (A := A) t cal_ascends cal_is_list cal_is_size fu_points_right (fun T bs O R RX h => by first | (obtain ⟨rfl, _⟩ := h; rfl) | (obtain ⟨_, rfl, _⟩ := h; rfl) | (obtain ⟨_, _, rfl, _⟩ := h; rfl) | (obtain ⟨_, _, _, rfl, _⟩ := h; rfl) | (obtain ⟨_, _, _, _, rfl, _⟩ := h; rfl) | (obtain ⟨_, _, _, _, _, rfl, _⟩ := h; rfl) | (obtain ⟨_, _, _, _, _, _, rfl, _⟩ := h; rfl) | (obtain ⟨_, _, _, _, _, _, _, rfl, _⟩ := h; rfl) | (obtain ⟨_, _, _, _, _, _, _, _, rfl, _⟩ := h; rfl)) (fun T bs O R RX _ _ h => sp_points_right T bs O R RX h)
  have cal_points_right : CalD PySem.Challenge.rw_bentcosts_k00_lines_and_what_is_none.prog w K mg base (tabs0 tl tb) 4 "points_right" (F_points_right A) := ⟨⟨_, _, _, n_points_right, mg_of KX G a_points_right, k_points_right, hb_points_right⟩⟩
  have fu_told_slopes := fun_mk (st := top 15) l_told_slopes c_told_slopes k_told_slopes
  have hb_told_slopes := fu_told_slopes.binds (ps := ["slopes"]) fun _ _ _ _ _ _ us hl => match us, hl with | [_], _ => rfl
  have n_told_slopes := wk_told_slopes (base := base) (w := w) (tabs := tabs0 tl tb) (A := A) t fu_told_slopes (fun T bs O R RX h => by first | (obtain ⟨rfl, _⟩ := h; rfl) | (obtain ⟨_, rfl, _⟩ := h; rfl) | (obtain ⟨_, _, rfl, _⟩ := h; rfl) | (obtain ⟨_, _, _, rfl, _⟩ := h; rfl) | (obtain ⟨_, _, _, _, rfl, _⟩ := h; rfl) | (obtain ⟨_, _, _, _, _, rfl, _⟩ := h; rfl) | (obtain ⟨_, _, _, _, _, _, rfl, _⟩ := h; rfl) | (obtain ⟨_, _, _, _, _, _, _, rfl, _⟩ := h; rfl) | (obtain ⟨_, _, _, _, _, _, _, _, rfl, _⟩ := h; rfl)) (fun T bs O R RX _ _ h => sp_told_slopes T bs O R RX h)
  have cal_told_slopes : CalD PySem.Challenge.rw_bentcosts_k00_lines_and_what_is_none.prog w K mg base (tabs0 tl tb) 1 "told_slopes" (F_told_slopes A) := ⟨⟨_, _, _, n_told_slopes, mg_of KX G a_told_slopes, k_told_slopes, hb_told_slopes⟩⟩
  have fu_slopes_right := fun_mk (st := top 16) l_slopes_right c_slopes_right k_slopes_right
  have hb_slopes_right := fu_slopes_right.binds (ps := ["many", "thing"]) fun _ _ _ _ _ _ us hl => match us, hl with | [_, _], _ => rfl
  have n_slopes_right := wk_slopes_right (base := base) (w := w) (tabs := tabs0 tl tb) (A := A) t cal_ascends cal_is_list cal_is_size cal_told_slopes fu_slopes_right (fun T bs O R RX h => by first | (obtain ⟨rfl, _⟩ := h; rfl) | (obtain ⟨_, rfl, _⟩ := h; rfl) | (obtain ⟨_, _, rfl, _⟩ := h; rfl) | (obtain ⟨_, _, _, rfl, _⟩ := h; rfl) | (obtain ⟨_, _, _, _, rfl, _⟩ := h; rfl) | (obtain ⟨_, _, _, _, _, rfl, _⟩ := h; rfl) | (obtain ⟨_, _, _, _, _, _, rfl, _⟩ := h; rfl) | (obtain ⟨_, _, _, _, _, _, _, rfl, _⟩ := h; rfl) | (obtain ⟨_, _, _, _, _, _, _, _, rfl, _⟩ := h; rfl)) (fun T bs O R RX _ _ h => sp_slopes_right T bs O R RX h)
  have cal_slopes_right : CalD PySem.Challenge.rw_bentcosts_k00_lines_and_what_is_none.prog w K mg base (tabs0 tl tb) 4 "slopes_right" (F_slopes_right A) := ⟨⟨_, _, _, n_slopes_right, mg_of KX G a_slopes_right, k_slopes_right, hb_slopes_right⟩⟩
  have fu_Bent___init__ := fun_mk (st := meth 17 0) l_Bent___init__ c_Bent___init__ k_Bent___init__
  have hb_Bent___init__ := fu_Bent___init__.binds (ps := ["self", "points", "slopes", "value"]) fun _ _ _ _ _ _ us hl => match us, hl with | [_, _, _, _], _ => rfl
  have n_Bent___init__ := wk_Bent___init__ (base := base) (w := w) (tabs := tabs0 tl tb) (A := A) t fu_Bent___init__ (fun T bs O R RX h => by first | (obtain ⟨rfl, _⟩ := h; rfl) | (obtain ⟨_, rfl, _⟩ := h; rfl) | (obtain ⟨_, _, rfl, _⟩ := h; rfl) | (obtain ⟨_, _, _, rfl, _⟩ := h; rfl) | (obtain ⟨_, _, _, _, rfl, _⟩ := h; rfl) | (obtain ⟨_, _, _, _, _, rfl, _⟩ := h; rfl) | (obtain ⟨_, _, _, _, _, _, rfl, _⟩ := h; rfl) | (obtain ⟨_, _, _, _, _, _, _, rfl, _⟩ := h; rfl) | (obtain ⟨_, _, _, _, _, _, _, _, rfl, _⟩ := h; rfl)) (fun T bs O R RX _ _ h => sp_Bent___init__ T bs O R RX h)
  have cal_Bent___init__ : CalA PySem.Challenge.rw_bentcosts_k00_lines_and_what_is_none.prog w K mg base (tabs0 tl tb) 1 bi (F_Bent___init__ A) := ⟨⟨_, _, n_Bent___init__, hb_Bent___init__⟩⟩
  have fu_Bent_points := fun_mk (st := meth 17 1) l_Bent_points c_Bent_points k_Bent_points
  have hb_Bent_points := fu_Bent_points.binds (ps := ["self"]) fun _ _ _ _ _ _ us hl => match us, hl with | [_], _ => rfl
  have n_Bent_points := wk_Bent_points (base := base) (w := w) (tabs := tabs0 tl tb) (A := A) t fu_Bent_points (fun T bs O R RX h => by first | (obtain ⟨rfl, _⟩ := h; rfl) | (obtain ⟨_, rfl, _⟩ := h; rfl) | (obtain ⟨_, _, rfl, _⟩ := h; rfl) | (obtain ⟨_, _, _, rfl, _⟩ := h; rfl) | (obtain ⟨_, _, _, _, rfl, _⟩ := h; rfl) | (obtain ⟨_, _, _, _, _, rfl, _⟩ := h; rfl) | (obtain ⟨_, _, _, _, _, _, rfl, _⟩ := h; rfl) | (obtain ⟨_, _, _, _, _, _, _, rfl, _⟩ := h; rfl) | (obtain ⟨_, _, _, _, _, _, _, _, rfl, _⟩ := h; rfl)) (fun T bs O R RX _ _ h => sp_Bent_points T bs O R RX h)
  have pr_points : ∀ C ∈ A.inst, PrpC PySem.Challenge.rw_bentcosts_k00_lines_and_what_is_none.prog w K mg base (tabs0 tl tb) 1 C "points" (F_Bent_points A) := fun C hC => by rw [List.mem_singleton.mp hC]; exact ⟨⟨cl1, cl2, cl3, cl4⟩, _, _, ⟨pr1_points, pr2_points, pr3_points, ⟨_, pr4_points⟩⟩, ⟨⟨_, _, n_Bent_points, hb_Bent_points⟩⟩⟩
  have fu_Bent_slopes := fun_mk (st := meth 17 2) l_Bent_slopes c_Bent_slopes k_Bent_slopes
  have hb_Bent_slopes := fu_Bent_slopes.binds (ps := ["self"]) fun _ _ _ _ _ _ us hl => match us, hl with | [_], _ => rfl
  have n_Bent_slopes := wk_Bent_slopes (base := base) (w := w) (tabs := tabs0 tl tb) (A := A) t fu_Bent_slopes (fun T bs O R RX h => by first | (obtain ⟨rfl, _⟩ := h; rfl) | (obtain ⟨_, rfl, _⟩ := h; rfl) | (obtain ⟨_, _, rfl, _⟩ := h; rfl) | (obtain ⟨_, _, _, rfl, _⟩ := h; rfl) | (obtain ⟨_, _, _, _, rfl, _⟩ := h; rfl) | (obtain ⟨_, _, _, _, _, rfl, _⟩ := h; rfl) | (obtain ⟨_, _, _, _, _, _, rfl, _⟩ := h; rfl) | (obtain ⟨_, _, _, _, _, _, _, rfl, _⟩ := h; rfl) | (obtain ⟨_, _, _, _, _, _, _, _, rfl, _⟩ := h; rfl)) (fun T bs O R RX _ _ h => sp_Bent_slopes T bs O R RX h)
  have pr_slopes : ∀ C ∈ A.inst, PrpC PySem.Challenge.rw_bentcosts_k00_lines_and_what_is_none.prog w K mg base (tabs0 tl tb) 1 C "slopes" (F_Bent_slopes A) := fun C hC => by rw [List.mem_singleton.mp hC]; exact ⟨⟨cl1, cl2, cl3, cl4⟩, _, _, ⟨pr1_slopes, pr2_slopes, pr3_slopes, ⟨_, pr4_slopes⟩⟩, ⟨⟨_, _, n_Bent_slopes, hb_Bent_slopes⟩⟩⟩
  have fu_Bent_value := fun_mk (st := meth 17 3) l_Bent_value c_Bent_value k_Bent_value
  have hb_Bent_value := fu_Bent_value.binds (ps := ["self"]) fun _ _ _ _ _ _ us hl => match us, hl with | [_], _ => rfl
  have n_Bent_value := wk_Bent_value (base := base) (w := w) (tabs := tabs0 tl tb) (A := A) t fu_Bent_value (fun T bs O R RX h => by first | (obtain ⟨rfl, _⟩ := h; rfl) | (obtain ⟨_, rfl, _⟩ := h; rfl) | (obtain ⟨_, _, rfl, _⟩ := h; rfl) | (obtain ⟨_, _, _, rfl, _⟩ := h; rfl) | (obtain ⟨_, _, _, _, rfl, _⟩ := h; rfl) | (obtain ⟨_, _, _, _, _, rfl, _⟩ := h; rfl) | (obtain ⟨_, _, _, _, _, _, rfl, _⟩ := h; rfl) | (obtain ⟨_, _, _, _, _, _, _, rfl, _⟩ := h; rfl) | (obtain ⟨_, _, _, _, _, _, _, _, rfl, _⟩ := h; rfl)) (fun T bs O R RX _ _ h => sp_Bent_value T bs O R RX h)
  have pr_value : ∀ C ∈ A.inst, PrpC PySem.Challenge.rw_bentcosts_k00_lines_and_what_is_none.prog w K mg base (tabs0 tl tb) 1 C "value" (F_Bent_value A) := fun C hC => by rw [List.mem_singleton.mp hC]; exact ⟨⟨cl1, cl2, cl3, cl4⟩, _, _, ⟨pr1_value, pr2_value, pr3_value, ⟨_, pr4_value⟩⟩, ⟨⟨_, _, n_Bent_value, hb_Bent_value⟩⟩⟩
  have fu_Line___init__ := fun_mk (st := meth 18 0) l_Line___init__ c_Line___init__ k_Line___init__
  have hb_Line___init__ := fu_Line___init__.binds (ps := ["self", "points", "slopes", "value"]) fun _ _ _ _ _ _ us hl => match us, hl with | [_, _, _, _], _ => rfl
  have n_Line___init__ := wk_Line___init__ (base := base) (w := w) (tabs := tabs0 tl tb) (A := A) t cal_Bent___init__ cal_is_between cal_points_right cal_slopes_right fu_Line___init__ (fun T bs O R RX h => by first | (obtain ⟨rfl, _⟩ := h; rfl) | (obtain ⟨_, rfl, _⟩ := h; rfl) | (obtain ⟨_, _, rfl, _⟩ := h; rfl) | (obtain ⟨_, _, _, rfl, _⟩ := h; rfl) | (obtain ⟨_, _, _, _, rfl, _⟩ := h; rfl) | (obtain ⟨_, _, _, _, _, rfl, _⟩ := h; rfl) | (obtain ⟨_, _, _, _, _, _, rfl, _⟩ := h; rfl) | (obtain ⟨_, _, _, _, _, _, _, rfl, _⟩ := h; rfl) | (obtain ⟨_, _, _, _, _, _, _, _, rfl, _⟩ := h; rfl)) (fun T bs O R RX _ _ h => sp_Line___init__ T bs O R RX h)
  have kb_Line : KBn K (fnOf "__init__" "Line.__init__" (defArgs (meth 18 0)) (defBody (meth 18 0)) (defScope (meth 18 0)) .none kV_Line___init__ dc_Line___init__ pm_Line___init__ an_Line___init__ cd_Line___init__ ct_Line___init__) ["self", "points", "slopes", "value"] 1 ["value", "slopes", "points"] kwg kwgV := kb_line_ok
  have cal_Line___init__ : CalA PySem.Challenge.rw_bentcosts_k00_lines_and_what_is_none.prog w K mg base (tabs0 tl tb) 5 li (F_Line___init__ A) := ⟨⟨_, _, n_Line___init__, hb_Line___init__⟩⟩
  have fu_Line___eq__ := fun_mk (st := meth 18 1) l_Line___eq__ c_Line___eq__ k_Line___eq__
  have hb_Line___eq__ := fu_Line___eq__.binds (ps := ["self", "other"]) fun _ _ _ _ _ _ us hl => match us, hl with | [_, _], _ => rfl
  have n_Line___eq__ := wk_Line___eq__ (base := base) (w := w) (tabs := tabs0 tl tb) (A := A) t fu_Line___eq__ (fun T bs O R RX h => by first | (obtain ⟨rfl, _⟩ := h; rfl) | (obtain ⟨_, rfl, _⟩ := h; rfl) | (obtain ⟨_, _, rfl, _⟩ := h; rfl) | (obtain ⟨_, _, _, rfl, _⟩ := h; rfl) | (obtain ⟨_, _, _, _, rfl, _⟩ := h; rfl) | (obtain ⟨_, _, _, _, _, rfl, _⟩ := h; rfl) | (obtain ⟨_, _, _, _, _, _, rfl, _⟩ := h; rfl) | (obtain ⟨_, _, _, _, _, _, _, rfl, _⟩ := h; rfl) | (obtain ⟨_, _, _, _, _, _, _, _, rfl, _⟩ := h; rfl)) (fun T bs O R RX _ _ h => sp_Line___eq__ T bs O R RX h)
  have cal_Line___eq__ : CalA PySem.Challenge.rw_bentcosts_k00_lines_and_what_is_none.prog w K mg base (tabs0 tl tb) 1 leq (F_Line___eq__ A) := ⟨⟨_, _, n_Line___eq__, hb_Line___eq__⟩⟩
  have fu__law_begun := fun_mk (st := top 20) l__law_begun c__law_begun k__law_begun
  have hb__law_begun := fu__law_begun.binds (ps := ["script"]) fun _ _ _ _ _ _ us hl => match us, hl with | [_], _ => rfl
  have n__law_begun := wk__law_begun (base := base) (w := w) (tabs := tabs0 tl tb) (A := A) t fu__law_begun (fun T bs O R RX h => by first | (obtain ⟨rfl, _⟩ := h; rfl) | (obtain ⟨_, rfl, _⟩ := h; rfl) | (obtain ⟨_, _, rfl, _⟩ := h; rfl) | (obtain ⟨_, _, _, rfl, _⟩ := h; rfl) | (obtain ⟨_, _, _, _, rfl, _⟩ := h; rfl) | (obtain ⟨_, _, _, _, _, rfl, _⟩ := h; rfl) | (obtain ⟨_, _, _, _, _, _, rfl, _⟩ := h; rfl) | (obtain ⟨_, _, _, _, _, _, _, rfl, _⟩ := h; rfl) | (obtain ⟨_, _, _, _, _, _, _, _, rfl, _⟩ := h; rfl)) (fun T bs O R RX _ _ h => sp__law_begun T bs O R RX h)
  have cal__law_begun : CalD PySem.Challenge.rw_bentcosts_k00_lines_and_what_is_none.prog w K mg base (tabs0 tl tb) 1 "_law_begun" (F__law_begun A) := ⟨⟨_, _, _, n__law_begun, mg_of KX G a__law_begun, k__law_begun, hb__law_begun⟩⟩
  have fu__law_blended := fun_mk (st := top 21) l__law_blended c__law_blended k__law_blended
  have hb__law_blended := fu__law_blended.binds (ps := ["state"]) fun _ _ _ _ _ _ us hl => match us, hl with | [_], _ => rfl
  have n__law_blended := wk__law_blended (base := base) (w := w) (tabs := tabs0 tl tb) (A := A) t fu__law_blended (fun T bs O R RX h => by first | (obtain ⟨rfl, _⟩ := h; rfl) | (obtain ⟨_, rfl, _⟩ := h; rfl) | (obtain ⟨_, _, rfl, _⟩ := h; rfl) | (obtain ⟨_, _, _, rfl, _⟩ := h; rfl) | (obtain ⟨_, _, _, _, rfl, _⟩ := h; rfl) | (obtain ⟨_, _, _, _, _, rfl, _⟩ := h; rfl) | (obtain ⟨_, _, _, _, _, _, rfl, _⟩ := h; rfl) | (obtain ⟨_, _, _, _, _, _, _, rfl, _⟩ := h; rfl) | (obtain ⟨_, _, _, _, _, _, _, _, rfl, _⟩ := h; rfl)) (fun T bs O R RX _ _ h => sp__law_blended T bs O R RX h)
  have cal__law_blended : CalD PySem.Challenge.rw_bentcosts_k00_lines_and_what_is_none.prog w K mg base (tabs0 tl tb) 1 "_law_blended" (F__law_blended A) := ⟨⟨_, _, _, n__law_blended, mg_of KX G a__law_blended, k__law_blended, hb__law_blended⟩⟩
  have fu__law_draw := fun_mk (st := top 22) l__law_draw c__law_draw k__law_draw
  have hb__law_draw := fu__law_draw.binds (ps := ["state", "room"]) fun _ _ _ _ _ _ us hl => match us, hl with | [_, _], _ => rfl
  have n__law_draw := wk__law_draw (base := base) (w := w) (tabs := tabs0 tl tb) (A := A) t cal__law_blended fu__law_draw (fun T bs O R RX h => by first | (obtain ⟨rfl, _⟩ := h; rfl) | (obtain ⟨_, rfl, _⟩ := h; rfl) | (obtain ⟨_, _, rfl, _⟩ := h; rfl) | (obtain ⟨_, _, _, rfl, _⟩ := h; rfl) | (obtain ⟨_, _, _, _, rfl, _⟩ := h; rfl) | (obtain ⟨_, _, _, _, _, rfl, _⟩ := h; rfl) | (obtain ⟨_, _, _, _, _, _, rfl, _⟩ := h; rfl) | (obtain ⟨_, _, _, _, _, _, _, rfl, _⟩ := h; rfl) | (obtain ⟨_, _, _, _, _, _, _, _, rfl, _⟩ := h; rfl)) (fun T bs O R RX _ _ h => sp__law_draw T bs O R RX h)
  have cal__law_draw : CalD PySem.Challenge.rw_bentcosts_k00_lines_and_what_is_none.prog w K mg base (tabs0 tl tb) 2 "_law_draw" (F__law_draw A) := ⟨⟨_, _, _, n__law_draw, mg_of KX G a__law_draw, k__law_draw, hb__law_draw⟩⟩
  have fu__law_pick := fun_mk (st := top 23) l__law_pick c__law_pick k__law_pick
  have hb__law_pick := fu__law_pick.binds (ps := ["state", "some"]) fun _ _ _ _ _ _ us hl => match us, hl with | [_, _], _ => rfl
  have n__law_pick := wk__law_pick (base := base) (w := w) (tabs := tabs0 tl tb) (A := A) t cal__law_draw fu__law_pick (fun T bs O R RX h => by first | (obtain ⟨rfl, _⟩ := h; rfl) | (obtain ⟨_, rfl, _⟩ := h; rfl) | (obtain ⟨_, _, rfl, _⟩ := h; rfl) | (obtain ⟨_, _, _, rfl, _⟩ := h; rfl) | (obtain ⟨_, _, _, _, rfl, _⟩ := h; rfl) | (obtain ⟨_, _, _, _, _, rfl, _⟩ := h; rfl) | (obtain ⟨_, _, _, _, _, _, rfl, _⟩ := h; rfl) | (obtain ⟨_, _, _, _, _, _, _, rfl, _⟩ := h; rfl) | (obtain ⟨_, _, _, _, _, _, _, _, rfl, _⟩ := h; rfl)) (fun T bs O R RX _ _ h => sp__law_pick T bs O R RX h)
  have cal__law_pick : CalD PySem.Challenge.rw_bentcosts_k00_lines_and_what_is_none.prog w K mg base (tabs0 tl tb) 3 "_law_pick" (F__law_pick A) := ⟨⟨_, _, _, n__law_pick, mg_of KX G a__law_pick, k__law_pick, hb__law_pick⟩⟩
  have fu__law_is_truth := fun_mk (st := top 25) l__law_is_truth c__law_is_truth k__law_is_truth
  have hb__law_is_truth := fu__law_is_truth.binds (ps := ["found", "due"]) fun _ _ _ _ _ _ us hl => match us, hl with | [_, _], _ => rfl
  have n__law_is_truth := wk__law_is_truth (base := base) (w := w) (tabs := tabs0 tl tb) (A := A) t fu__law_is_truth (fun T bs O R RX h => by first | (obtain ⟨rfl, _⟩ := h; rfl) | (obtain ⟨_, rfl, _⟩ := h; rfl) | (obtain ⟨_, _, rfl, _⟩ := h; rfl) | (obtain ⟨_, _, _, rfl, _⟩ := h; rfl) | (obtain ⟨_, _, _, _, rfl, _⟩ := h; rfl) | (obtain ⟨_, _, _, _, _, rfl, _⟩ := h; rfl) | (obtain ⟨_, _, _, _, _, _, rfl, _⟩ := h; rfl) | (obtain ⟨_, _, _, _, _, _, _, rfl, _⟩ := h; rfl) | (obtain ⟨_, _, _, _, _, _, _, _, rfl, _⟩ := h; rfl)) (fun T bs O R RX _ _ h => sp__law_is_truth T bs O R RX h)
  have cal__law_is_truth : CalD PySem.Challenge.rw_bentcosts_k00_lines_and_what_is_none.prog w K mg base (tabs0 tl tb) 1 "_law_is_truth" (F__law_is_truth A) := ⟨⟨_, _, _, n__law_is_truth, mg_of KX G a__law_is_truth, k__law_is_truth, hb__law_is_truth⟩⟩
  have fu__law_same := fun_mk (st := top 26) l__law_same c__law_same k__law_same
  have hb__law_same := fu__law_same.binds (ps := ["found", "due"]) fun _ _ _ _ _ _ us hl => match us, hl with | [_, _], _ => rfl
  have n__law_same := wk__law_same (base := base) (w := w) (tabs := tabs0 tl tb) (A := A) t cal__law_is_truth fu__law_same (fun T bs O R RX h => by first | (obtain ⟨rfl, _⟩ := h; rfl) | (obtain ⟨_, rfl, _⟩ := h; rfl) | (obtain ⟨_, _, rfl, _⟩ := h; rfl) | (obtain ⟨_, _, _, rfl, _⟩ := h; rfl) | (obtain ⟨_, _, _, _, rfl, _⟩ := h; rfl) | (obtain ⟨_, _, _, _, _, rfl, _⟩ := h; rfl) | (obtain ⟨_, _, _, _, _, _, rfl, _⟩ := h; rfl) | (obtain ⟨_, _, _, _, _, _, _, rfl, _⟩ := h; rfl) | (obtain ⟨_, _, _, _, _, _, _, _, rfl, _⟩ := h; rfl)) (fun T bs O R RX _ _ h => sp__law_same T bs O R RX h)
  have cal__law_same : CalD PySem.Challenge.rw_bentcosts_k00_lines_and_what_is_none.prog w K mg base (tabs0 tl tb) 2 "_law_same" (F__law_same A) := ⟨⟨_, _, _, n__law_same, mg_of KX G a__law_same, k__law_same, hb__law_same⟩⟩
  have fu__law_is_number := fun_mk (st := top 27) l__law_is_number c__law_is_number k__law_is_number
  have hb__law_is_number := fu__law_is_number.binds (ps := ["value"]) fun _ _ _ _ _ _ us hl => match us, hl with | [_], _ => rfl
  have n__law_is_number := wk__law_is_number (base := base) (w := w) (tabs := tabs0 tl tb) (A := A) t fu__law_is_number (fun T bs O R RX h => by first | (obtain ⟨rfl, _⟩ := h; rfl) | (obtain ⟨_, rfl, _⟩ := h; rfl) | (obtain ⟨_, _, rfl, _⟩ := h; rfl) | (obtain ⟨_, _, _, rfl, _⟩ := h; rfl) | (obtain ⟨_, _, _, _, rfl, _⟩ := h; rfl) | (obtain ⟨_, _, _, _, _, rfl, _⟩ := h; rfl) | (obtain ⟨_, _, _, _, _, _, rfl, _⟩ := h; rfl) | (obtain ⟨_, _, _, _, _, _, _, rfl, _⟩ := h; rfl) | (obtain ⟨_, _, _, _, _, _, _, _, rfl, _⟩ := h; rfl)) (fun T bs O R RX _ _ h => sp__law_is_number T bs O R RX h)
  have cal__law_is_number : CalD PySem.Challenge.rw_bentcosts_k00_lines_and_what_is_none.prog w K mg base (tabs0 tl tb) 1 "_law_is_number" (F__law_is_number A) := ⟨⟨_, _, _, n__law_is_number, mg_of KX G a__law_is_number, k__law_is_number, hb__law_is_number⟩⟩
  have fu__law_bl_far := fun_mk (st := top 28) l__law_bl_far c__law_bl_far k__law_bl_far
  have hb__law_bl_far := fu__law_bl_far.binds (ps := []) fun _ _ _ _ _ _ us hl => match us, hl with | [], _ => rfl
  have n__law_bl_far := wk__law_bl_far (base := base) (w := w) (tabs := tabs0 tl tb) (A := A) t fu__law_bl_far (fun T bs O R RX h => by first | (obtain ⟨rfl, _⟩ := h; rfl) | (obtain ⟨_, rfl, _⟩ := h; rfl) | (obtain ⟨_, _, rfl, _⟩ := h; rfl) | (obtain ⟨_, _, _, rfl, _⟩ := h; rfl) | (obtain ⟨_, _, _, _, rfl, _⟩ := h; rfl) | (obtain ⟨_, _, _, _, _, rfl, _⟩ := h; rfl) | (obtain ⟨_, _, _, _, _, _, rfl, _⟩ := h; rfl) | (obtain ⟨_, _, _, _, _, _, _, rfl, _⟩ := h; rfl) | (obtain ⟨_, _, _, _, _, _, _, _, rfl, _⟩ := h; rfl)) (fun T bs O R RX _ _ h => sp__law_bl_far T bs O R RX h)
  have cal__law_bl_far : CalD PySem.Challenge.rw_bentcosts_k00_lines_and_what_is_none.prog w K mg base (tabs0 tl tb) 1 "_law_bl_far" (F__law_bl_far A) := ⟨⟨_, _, _, n__law_bl_far, mg_of KX G a__law_bl_far, k__law_bl_far, hb__law_bl_far⟩⟩
  have fu__law_bl_top := fun_mk (st := top 29) l__law_bl_top c__law_bl_top k__law_bl_top
  have hb__law_bl_top := fu__law_bl_top.binds (ps := []) fun _ _ _ _ _ _ us hl => match us, hl with | [], _ => rfl
  have n__law_bl_top := wk__law_bl_top (base := base) (w := w) (tabs := tabs0 tl tb) (A := A) t cal__law_bl_far fu__law_bl_top (fun T bs O R RX h => by first | (obtain ⟨rfl, _⟩ := h; rfl) | (obtain ⟨_, rfl, _⟩ := h; rfl) | (obtain ⟨_, _, rfl, _⟩ := h; rfl) | (obtain ⟨_, _, _, rfl, _⟩ := h; rfl) | (obtain ⟨_, _, _, _, rfl, _⟩ := h; rfl) | (obtain ⟨_, _, _, _, _, rfl, _⟩ := h; rfl) | (obtain ⟨_, _, _, _, _, _, rfl, _⟩ := h; rfl) | (obtain ⟨_, _, _, _, _, _, _, rfl, _⟩ := h; rfl) | (obtain ⟨_, _, _, _, _, _, _, _, rfl, _⟩ := h; rfl)) (fun T bs O R RX _ _ h => sp__law_bl_top T bs O R RX h)
  have cal__law_bl_top : CalD PySem.Challenge.rw_bentcosts_k00_lines_and_what_is_none.prog w K mg base (tabs0 tl tb) 2 "_law_bl_top" (F__law_bl_top A) := ⟨⟨_, _, _, n__law_bl_top, mg_of KX G a__law_bl_top, k__law_bl_top, hb__law_bl_top⟩⟩
  have fu__law_bl_rising := fun_mk (st := top 30) l__law_bl_rising c__law_bl_rising k__law_bl_rising
  have hb__law_bl_rising := fu__law_bl_rising.binds (ps := ["draws", "many", "reach"]) fun _ _ _ _ _ _ us hl => match us, hl with | [_, _, _], _ => rfl
  have n__law_bl_rising := wk__law_bl_rising (base := base) (w := w) (tabs := tabs0 tl tb) (A := A) t cal__law_draw cal__law_pick fu__law_bl_rising (fun T bs O R RX h => by first | (obtain ⟨rfl, _⟩ := h; rfl) | (obtain ⟨_, rfl, _⟩ := h; rfl) | (obtain ⟨_, _, rfl, _⟩ := h; rfl) | (obtain ⟨_, _, _, rfl, _⟩ := h; rfl) | (obtain ⟨_, _, _, _, rfl, _⟩ := h; rfl) | (obtain ⟨_, _, _, _, _, rfl, _⟩ := h; rfl) | (obtain ⟨_, _, _, _, _, _, rfl, _⟩ := h; rfl) | (obtain ⟨_, _, _, _, _, _, _, rfl, _⟩ := h; rfl) | (obtain ⟨_, _, _, _, _, _, _, _, rfl, _⟩ := h; rfl)) (fun T bs O R RX _ _ h => sp__law_bl_rising T bs O R RX h)
  have cal__law_bl_rising : CalD PySem.Challenge.rw_bentcosts_k00_lines_and_what_is_none.prog w K mg base (tabs0 tl tb) 4 "_law_bl_rising" (F__law_bl_rising A) := ⟨⟨_, _, _, n__law_bl_rising, mg_of KX G a__law_bl_rising, k__law_bl_rising, hb__law_bl_rising⟩⟩
  have fu__law_bl_parts := fun_mk (st := top 31) l__law_bl_parts c__law_bl_parts k__law_bl_parts
  have hb__law_bl_parts := fu__law_bl_parts.binds (ps := ["draws", "most", "reach"]) fun _ _ _ _ _ _ us hl => match us, hl with | [_, _, _], _ => rfl
  have n__law_bl_parts := wk__law_bl_parts (base := base) (w := w) (tabs := tabs0 tl tb) (A := A) t cal__law_bl_rising cal__law_draw fu__law_bl_parts (fun T bs O R RX h => by first | (obtain ⟨rfl, _⟩ := h; rfl) | (obtain ⟨_, rfl, _⟩ := h; rfl) | (obtain ⟨_, _, rfl, _⟩ := h; rfl) | (obtain ⟨_, _, _, rfl, _⟩ := h; rfl) | (obtain ⟨_, _, _, _, rfl, _⟩ := h; rfl) | (obtain ⟨_, _, _, _, _, rfl, _⟩ := h; rfl) | (obtain ⟨_, _, _, _, _, _, rfl, _⟩ := h; rfl) | (obtain ⟨_, _, _, _, _, _, _, rfl, _⟩ := h; rfl) | (obtain ⟨_, _, _, _, _, _, _, _, rfl, _⟩ := h; rfl)) (fun T bs O R RX _ _ h => sp__law_bl_parts T bs O R RX h)
  have cal__law_bl_parts : CalD PySem.Challenge.rw_bentcosts_k00_lines_and_what_is_none.prog w K mg base (tabs0 tl tb) 5 "_law_bl_parts" (F__law_bl_parts A) := ⟨⟨_, _, _, n__law_bl_parts, mg_of KX G a__law_bl_parts, k__law_bl_parts, hb__law_bl_parts⟩⟩
  have fu__law_bl_is_size := fun_mk (st := top 32) l__law_bl_is_size c__law_bl_is_size k__law_bl_is_size
  have hb__law_bl_is_size := fu__law_bl_is_size.binds (ps := ["value"]) fun _ _ _ _ _ _ us hl => match us, hl with | [_], _ => rfl
  have n__law_bl_is_size := wk__law_bl_is_size (base := base) (w := w) (tabs := tabs0 tl tb) (A := A) t cal__law_bl_far cal__law_is_number fu__law_bl_is_size (fun T bs O R RX h => by first | (obtain ⟨rfl, _⟩ := h; rfl) | (obtain ⟨_, rfl, _⟩ := h; rfl) | (obtain ⟨_, _, rfl, _⟩ := h; rfl) | (obtain ⟨_, _, _, rfl, _⟩ := h; rfl) | (obtain ⟨_, _, _, _, rfl, _⟩ := h; rfl) | (obtain ⟨_, _, _, _, _, rfl, _⟩ := h; rfl) | (obtain ⟨_, _, _, _, _, _, rfl, _⟩ := h; rfl) | (obtain ⟨_, _, _, _, _, _, _, rfl, _⟩ := h; rfl) | (obtain ⟨_, _, _, _, _, _, _, _, rfl, _⟩ := h; rfl)) (fun T bs O R RX _ _ h => sp__law_bl_is_size T bs O R RX h)
  have cal__law_bl_is_size : CalD PySem.Challenge.rw_bentcosts_k00_lines_and_what_is_none.prog w K mg base (tabs0 tl tb) 2 "_law_bl_is_size" (F__law_bl_is_size A) := ⟨⟨_, _, _, n__law_bl_is_size, mg_of KX G a__law_bl_is_size, k__law_bl_is_size, hb__law_bl_is_size⟩⟩
  have fu__law_bl_rises := fun_mk (st := top 33) l__law_bl_rises c__law_bl_rises k__law_bl_rises
  have hb__law_bl_rises := fu__law_bl_rises.binds (ps := ["values"]) fun _ _ _ _ _ _ us hl => match us, hl with | [_], _ => rfl
  have n__law_bl_rises := wk__law_bl_rises (base := base) (w := w) (tabs := tabs0 tl tb) (A := A) t fu__law_bl_rises (fun T bs O R RX h => by first | (obtain ⟨rfl, _⟩ := h; rfl) | (obtain ⟨_, rfl, _⟩ := h; rfl) | (obtain ⟨_, _, rfl, _⟩ := h; rfl) | (obtain ⟨_, _, _, rfl, _⟩ := h; rfl) | (obtain ⟨_, _, _, _, rfl, _⟩ := h; rfl) | (obtain ⟨_, _, _, _, _, rfl, _⟩ := h; rfl) | (obtain ⟨_, _, _, _, _, _, rfl, _⟩ := h; rfl) | (obtain ⟨_, _, _, _, _, _, _, rfl, _⟩ := h; rfl) | (obtain ⟨_, _, _, _, _, _, _, _, rfl, _⟩ := h; rfl)) (fun T bs O R RX _ _ h => sp__law_bl_rises T bs O R RX h)
  have cal__law_bl_rises : CalD PySem.Challenge.rw_bentcosts_k00_lines_and_what_is_none.prog w K mg base (tabs0 tl tb) 1 "_law_bl_rises" (F__law_bl_rises A) := ⟨⟨_, _, _, n__law_bl_rises, mg_of KX G a__law_bl_rises, k__law_bl_rises, hb__law_bl_rises⟩⟩
  have fu__law_bl_wrong := fun_mk (st := top 34) l__law_bl_wrong c__law_bl_wrong k__law_bl_wrong
  have hb__law_bl_wrong := fu__law_bl_wrong.binds (ps := ["points", "slopes", "value"]) fun _ _ _ _ _ _ us hl => match us, hl with | [_, _, _], _ => rfl
  have n__law_bl_wrong := wk__law_bl_wrong (base := base) (w := w) (tabs := tabs0 tl tb) (A := A) t cal__law_bl_is_size cal__law_bl_rises cal__law_bl_top cal__law_is_number fu__law_bl_wrong (fun T bs O R RX h => by first | (obtain ⟨rfl, _⟩ := h; rfl) | (obtain ⟨_, rfl, _⟩ := h; rfl) | (obtain ⟨_, _, rfl, _⟩ := h; rfl) | (obtain ⟨_, _, _, rfl, _⟩ := h; rfl) | (obtain ⟨_, _, _, _, rfl, _⟩ := h; rfl) | (obtain ⟨_, _, _, _, _, rfl, _⟩ := h; rfl) | (obtain ⟨_, _, _, _, _, _, rfl, _⟩ := h; rfl) | (obtain ⟨_, _, _, _, _, _, _, rfl, _⟩ := h; rfl) | (obtain ⟨_, _, _, _, _, _, _, _, rfl, _⟩ := h; rfl)) (fun T bs O R RX _ _ h => sp__law_bl_wrong T bs O R RX h)
  have cal__law_bl_wrong : CalD PySem.Challenge.rw_bentcosts_k00_lines_and_what_is_none.prog w K mg base (tabs0 tl tb) 3 "_law_bl_wrong" (F__law_bl_wrong A) := ⟨⟨_, _, _, n__law_bl_wrong, mg_of KX G a__law_bl_wrong, k__law_bl_wrong, hb__law_bl_wrong⟩⟩
  have fu__law_bl_is := fun_mk (st := top 35) l__law_bl_is c__law_bl_is k__law_bl_is
  have hb__law_bl_is := fu__law_bl_is.binds (ps := ["line", "parts"]) fun _ _ _ _ _ _ us hl => match us, hl with | [_, _], _ => rfl
  have n__law_bl_is := wk__law_bl_is (base := base) (w := w) (tabs := tabs0 tl tb) (A := A) t cal__law_same pr_points pr_slopes pr_value fu__law_bl_is (fun T bs O R RX h => by first | (obtain ⟨rfl, _⟩ := h; rfl) | (obtain ⟨_, rfl, _⟩ := h; rfl) | (obtain ⟨_, _, rfl, _⟩ := h; rfl) | (obtain ⟨_, _, _, rfl, _⟩ := h; rfl) | (obtain ⟨_, _, _, _, rfl, _⟩ := h; rfl) | (obtain ⟨_, _, _, _, _, rfl, _⟩ := h; rfl) | (obtain ⟨_, _, _, _, _, _, rfl, _⟩ := h; rfl) | (obtain ⟨_, _, _, _, _, _, _, rfl, _⟩ := h; rfl) | (obtain ⟨_, _, _, _, _, _, _, _, rfl, _⟩ := h; rfl)) (fun T bs O R RX _ _ h => sp__law_bl_is T bs O R RX h)
  have cal__law_bl_is : CalD PySem.Challenge.rw_bentcosts_k00_lines_and_what_is_none.prog w K mg base (tabs0 tl tb) 3 "_law_bl_is" (F__law_bl_is A) := ⟨⟨_, _, _, n__law_bl_is, mg_of KX G a__law_bl_is, k__law_bl_is, hb__law_bl_is⟩⟩
  have fu__law_taken := fun_mk (st := top 36) l__law_taken c__law_taken k__law_taken
  have hb__law_taken := fu__law_taken.binds (ps := ["draws", "parts"]) fun _ _ _ _ _ _ us hl => match us, hl with | [_, _], _ => rfl
  have n__law_taken := wk__law_taken (base := base) (w := w) (tabs := tabs0 tl tb) (A := A) t cal__law_bl_far cal__law_bl_is cal_Line___init__ cal_Line___eq__ n_Line___init__ kb_Line fu__law_taken (fun T bs O R RX h => by first | (obtain ⟨rfl, _⟩ := h; rfl) | (obtain ⟨_, rfl, _⟩ := h; rfl) | (obtain ⟨_, _, rfl, _⟩ := h; rfl) | (obtain ⟨_, _, _, rfl, _⟩ := h; rfl) | (obtain ⟨_, _, _, _, rfl, _⟩ := h; rfl) | (obtain ⟨_, _, _, _, _, rfl, _⟩ := h; rfl) | (obtain ⟨_, _, _, _, _, _, rfl, _⟩ := h; rfl) | (obtain ⟨_, _, _, _, _, _, _, rfl, _⟩ := h; rfl) | (obtain ⟨_, _, _, _, _, _, _, _, rfl, _⟩ := h; rfl)) (fun T bs O R RX _ _ h => sp__law_taken T bs O R RX h)
  have cal__law_taken : CalD PySem.Challenge.rw_bentcosts_k00_lines_and_what_is_none.prog w K mg base (tabs0 tl tb) 7 "_law_taken" (F__law_taken A) := ⟨⟨_, _, _, n__law_taken, mg_of KX G a__law_taken, k__law_taken, hb__law_taken⟩⟩
  have fu__law_near := fun_mk (st := top 37) l__law_near c__law_near k__law_near
  have hb__law_near := fu__law_near.binds (ps := ["draws", "parts"]) fun _ _ _ _ _ _ us hl => match us, hl with | [_, _], _ => rfl
  have n__law_near := wk__law_near (base := base) (w := w) (tabs := tabs0 tl tb) (A := A) t cal__law_bl_far cal__law_bl_top cal__law_draw fu__law_near (fun T bs O R RX h => by first | (obtain ⟨rfl, _⟩ := h; rfl) | (obtain ⟨_, rfl, _⟩ := h; rfl) | (obtain ⟨_, _, rfl, _⟩ := h; rfl) | (obtain ⟨_, _, _, rfl, _⟩ := h; rfl) | (obtain ⟨_, _, _, _, rfl, _⟩ := h; rfl) | (obtain ⟨_, _, _, _, _, rfl, _⟩ := h; rfl) | (obtain ⟨_, _, _, _, _, _, rfl, _⟩ := h; rfl) | (obtain ⟨_, _, _, _, _, _, _, rfl, _⟩ := h; rfl) | (obtain ⟨_, _, _, _, _, _, _, _, rfl, _⟩ := h; rfl)) (fun T bs O R RX _ _ h => sp__law_near T bs O R RX h)
  have cal__law_near : CalD PySem.Challenge.rw_bentcosts_k00_lines_and_what_is_none.prog w K mg base (tabs0 tl tb) 3 "_law_near" (F__law_near A) := ⟨⟨_, _, _, n__law_near, mg_of KX G a__law_near, k__law_near, hb__law_near⟩⟩
  have fu__law_bounds_right := fun_mk (st := top 38) l__law_bounds_right c__law_bounds_right k__law_bounds_right
  have hb__law_bounds_right := fu__law_bounds_right.binds (ps := []) fun _ _ _ _ _ _ us hl => match us, hl with | [], _ => rfl
  have n__law_bounds_right := wk__law_bounds_right (base := base) (w := w) (tabs := tabs0 tl tb) (A := A) t cal_Line___init__ (List.mem_cons_of_mem _ (List.mem_cons_self ..)) (fun p hp e => by rcases List.mem_cons.mp hp with z | z; exact absurd ((congrArg (·.1) z).symm.trans e) htt; exact congrArg (·.2) (List.mem_singleton.mp z)) co__law_bounds_right (hTB _ (List.mem_cons_of_mem _ (List.mem_cons_self ..))) fu__law_bounds_right (fun T bs O R RX h => by first | (obtain ⟨rfl, _⟩ := h; rfl) | (obtain ⟨_, rfl, _⟩ := h; rfl) | (obtain ⟨_, _, rfl, _⟩ := h; rfl) | (obtain ⟨_, _, _, rfl, _⟩ := h; rfl) | (obtain ⟨_, _, _, _, rfl, _⟩ := h; rfl) | (obtain ⟨_, _, _, _, _, rfl, _⟩ := h; rfl) | (obtain ⟨_, _, _, _, _, _, rfl, _⟩ := h; rfl) | (obtain ⟨_, _, _, _, _, _, _, rfl, _⟩ := h; rfl) | (obtain ⟨_, _, _, _, _, _, _, _, rfl, _⟩ := h; rfl)) (fun T bs O R RX _ _ h => sp__law_bounds_right T bs O R RX h)
  have cal__law_bounds_right : CalD PySem.Challenge.rw_bentcosts_k00_lines_and_what_is_none.prog w K mg base (tabs0 tl tb) 9 "_law_bounds_right" (F__law_bounds_right A) := ⟨⟨_, _, _, n__law_bounds_right, mg_of KX G a__law_bounds_right, k__law_bounds_right, hb__law_bounds_right⟩⟩
  have fu_law := fun_mk (st := top 39) l_law c_law k_law
  have hb_law := fu_law.binds (ps := ["script"]) fun _ _ _ _ _ _ us hl => match us, hl with | [_], _ => rfl
  have n_law := wk_law (base := base) (w := w) (tabs := tabs0 tl tb) (A := A) t cal__law_begun cal__law_bl_parts cal__law_bl_wrong cal__law_bounds_right cal__law_near cal__law_pick cal__law_taken cal_Line___init__ cal_Line___eq__ (List.mem_cons_self ..) (fun p hp e => by rcases List.mem_cons.mp hp with z | z; exact congrArg (·.2) z; exact absurd (e.symm.trans (congrArg (·.1) (List.mem_singleton.mp z))) htt) co_law (hTB _ (List.mem_cons_self ..)) fu_law (fun T bs O R RX h => by first | (obtain ⟨rfl, _⟩ := h; rfl) | (obtain ⟨_, rfl, _⟩ := h; rfl) | (obtain ⟨_, _, rfl, _⟩ := h; rfl) | (obtain ⟨_, _, _, rfl, _⟩ := h; rfl) | (obtain ⟨_, _, _, _, rfl, _⟩ := h; rfl) | (obtain ⟨_, _, _, _, _, rfl, _⟩ := h; rfl) | (obtain ⟨_, _, _, _, _, _, rfl, _⟩ := h; rfl) | (obtain ⟨_, _, _, _, _, _, _, rfl, _⟩ := h; rfl) | (obtain ⟨_, _, _, _, _, _, _, _, rfl, _⟩ := h; rfl)) (fun T bs O R RX _ _ h => sp_law T bs O R RX h)
  exact (fn_law n_law).mono (by decide)
end K00
end
open PySem PySem.W PyProof.Rows
set_option maxRecDepth 100000 in
set_option maxHeartbeats 0 in
theorem PySem.Challenge.cw_bentcosts_k00_lines_and_what_is_none_holds : PySem.Challenge.rw_bentcosts_k00_lines_and_what_is_none.Holds := by
  w_on; o_law; k_head; (case hw => w_witness2)
  k_fill
  refine LamX.walk_ofTs (l := PySem.Challenge.rw_bentcosts_k00_lines_and_what_is_none) (n := 63) (k := 60) (x := "script") (CX := fun w => L2.CX PySem.Challenge.rw_bentcosts_k00_lines_and_what_is_none.prog w) rfl (by decide) rfl ⟨rfl, by decide, by decide⟩ (fun w h Y => PySem.W.km_in_of Y) ?F ?X
  case X => exact fun w H s e s' ⟨_, _, _, _, _, _, _, _, _, _, _, _, z⟩ => z
  case F =>
    intro w mg fa h Y KX G hmg
    refine' K00.law_at (tl := 304) (tb := 297) KX G hmg ?b_isinstance ?b_len ?b_list ?b_tuple ?b_int ?b_range ?b_bool ?b_all ?b_super ?b_abs ?b_zip ?b_str ?b_min ?b_enumerate ?b_dict ?g_Line ?g_Bent ?g_BadLine ?g_BentError ?g_MP ?g_MS ?g_MV ?mk1 ?mk2 ?mk3 ?mk4 ?cf1 ?cf2 ?cf3 ?cl1 ?cl2 ?cl3 ?cl4 ?it1 ?it2 ?it3 ?it4 ?qL_non ?qE_non ?qL_bl ?qE_bl ?qL_int ?qE_int ?qL_str ?qE_str ?qL_tup ?qE_tup ?qL_lst ?qE_lst ?qL_dct ?qE_dct ?qL_ins ?qE_exc ?na_own_points ?na_own_slopes ?na_own_value ?eq1 ?eq2 ?x1 ?x2 ?x3 ?x4 ?x5 ?x6 ?x7 ?x8 ?o1 ?o2 ?o3 ?o4 ?o5 ?i1 ?i2 ?i3 ?i4 ?i5 ?i6 ?i7 ?i8 ?i9 ?i10 ?i11 ?i12 ?i13 ?a__law_caught ?l__law_caught ?c__law_caught ?k__law_caught ?a_is_number ?l_is_number ?c_is_number ?k_is_number ?a_is_between ?l_is_between ?c_is_between ?k_is_between ?a_is_list ?l_is_list ?c_is_list ?k_is_list ?a_ascends ?l_ascends ?c_ascends ?k_ascends ?a_is_size ?l_is_size ?c_is_size ?k_is_size ?a_points_right ?l_points_right ?c_points_right ?k_points_right ?a_told_slopes ?l_told_slopes ?c_told_slopes ?k_told_slopes ?a_slopes_right ?l_slopes_right ?c_slopes_right ?k_slopes_right ?l_Bent___init__ ?c_Bent___init__ ?k_Bent___init__ ?pr1_points ?pr2_points ?pr3_points ?pr4_points ?l_Bent_points ?c_Bent_points ?k_Bent_points ?pr1_slopes ?pr2_slopes ?pr3_slopes ?pr4_slopes ?l_Bent_slopes ?c_Bent_slopes ?k_Bent_slopes ?pr1_value ?pr2_value ?pr3_value ?pr4_value ?l_Bent_value ?c_Bent_value ?k_Bent_value ?l_Line___init__ ?c_Line___init__ ?k_Line___init__ ?l_Line___eq__ ?c_Line___eq__ ?k_Line___eq__ ?a__law_begun ?l__law_begun ?c__law_begun ?k__law_begun ?a__law_blended ?l__law_blended ?c__law_blended ?k__law_blended ?a__law_draw ?l__law_draw ?c__law_draw ?k__law_draw ?a__law_pick ?l__law_pick ?c__law_pick ?k__law_pick ?a__law_is_truth ?l__law_is_truth ?c__law_is_truth ?k__law_is_truth ?a__law_same ?l__law_same ?c__law_same ?k__law_same ?a__law_is_number ?l__law_is_number ?c__law_is_number ?k__law_is_number ?a__law_bl_far ?l__law_bl_far ?c__law_bl_far ?k__law_bl_far ?a__law_bl_top ?l__law_bl_top ?c__law_bl_top ?k__law_bl_top ?a__law_bl_rising ?l__law_bl_rising ?c__law_bl_rising ?k__law_bl_rising ?a__law_bl_parts ?l__law_bl_parts ?c__law_bl_parts ?k__law_bl_parts ?a__law_bl_is_size ?l__law_bl_is_size ?c__law_bl_is_size ?k__law_bl_is_size ?a__law_bl_rises ?l__law_bl_rises ?c__law_bl_rises ?k__law_bl_rises ?a__law_bl_wrong ?l__law_bl_wrong ?c__law_bl_wrong ?k__law_bl_wrong ?a__law_bl_is ?l__law_bl_is ?c__law_bl_is ?k__law_bl_is ?a__law_taken ?l__law_taken ?c__law_taken ?k__law_taken ?a__law_near ?l__law_near ?c__law_near ?k__law_near ?a__law_bounds_right ?l__law_bounds_right ?c__law_bounds_right ?k__law_bounds_right ?a_law ?l_law ?c_law ?k_law ?co_law ?co__law_bounds_right ?h_l ?h_b ?n_l ?n_b ?htt ?t_l ?t_b
    (case b_isinstance => k_is)
    (case b_len => k_is)
    (case b_list => k_is)
    (case b_tuple => k_is)
    (case b_int => k_is)
    (case b_range => k_is)
    (case b_bool => k_is)
    (case b_all => k_is)
    (case b_super => k_is)
    (case b_abs => k_is)
    (case b_zip => k_is)
    (case b_str => k_is)
    (case b_min => k_is)
    (case b_enumerate => k_is)
    (case b_dict => k_is)
    (case g_Line => k_is)
    (case g_Bent => k_is)
    (case g_BadLine => k_is)
    (case g_BentError => k_is)
    (case g_MP => k_is)
    (case g_MS => k_is)
    (case g_MV => k_is)
    (case mk1 => k_is)
    (case mk2 => k_is)
    (case mk3 => k_is)
    (case mk4 => k_is)
    (case cf1 => k_is)
    (case cf2 => k_is)
    (case cf3 => k_is)
    (case cl1 => k_is)
    (case cl2 => k_is)
    (case cl3 => k_is)
    (case cl4 => k_is)
    (case it1 => k_is)
    (case it2 => k_is)
    (case it3 => k_is)
    (case it4 => k_is)
    (case qL_non => first | k_is | rfl)
    (case qE_non => first | k_is | rfl)
    (case qL_bl => first | k_is | rfl)
    (case qE_bl => first | k_is | rfl)
    (case qL_int => first | k_is | rfl)
    (case qE_int => first | k_is | rfl)
    (case qL_str => first | k_is | rfl)
    (case qE_str => first | k_is | rfl)
    (case qL_tup => first | k_is | rfl)
    (case qE_tup => first | k_is | rfl)
    (case qL_lst => first | k_is | rfl)
    (case qE_lst => first | k_is | rfl)
    (case qL_dct => first | k_is | rfl)
    (case qE_dct => first | k_is | rfl)
    (case qL_ins => first | k_is | rfl)
    (case qE_exc => first | k_is | rfl)
    (case na_own_points => k_is)
    (case na_own_slopes => k_is)
    (case na_own_value => k_is)
    (case eq1 => k_is)
    (case eq2 => k_is)
    (case x1 => k_is)
    (case x2 => k_is)
    (case x3 => k_is)
    (case x4 => k_is)
    (case x5 => k_is)
    (case x6 => k_is)
    (case x7 => k_is)
    (case x8 => first | rfl | k_is)
    (case o1 => k_is)
    (case o2 => first | decide | decide +kernel | rfl)
    (case o3 => k_is)
    (case o4 => k_is)
    (case o5 => k_is)
    (case i1 => k_is)
    (case i2 => k_is)
    (case i3 => k_is)
    (case i4 => k_is)
    (case i5 => k_is)
    (case i6 => rfl)
    (case i7 => first | rfl | decide | decide +kernel)
    (case i8 => k_is)
    (case i9 => first | k_is | rfl)
    (case i10 => first | k_is | rfl)
    (case i11 => k_is)
    (case i12 => first | k_is | rfl)
    (case i13 => k_is)
    (case a__law_caught => k_is)
    (case l__law_caught => k_is)
    (case c__law_caught => k_is)
    (case k__law_caught => k_is)
    (case a_is_number => k_is)
    (case l_is_number => k_is)
    (case c_is_number => k_is)
    (case k_is_number => k_is)
    (case a_is_between => k_is)
    (case l_is_between => k_is)
    (case c_is_between => k_is)
    (case k_is_between => k_is)
    (case a_is_list => k_is)
    (case l_is_list => k_is)
    (case c_is_list => k_is)
    (case k_is_list => k_is)
    (case a_ascends => k_is)
    (case l_ascends => k_is)
    (case c_ascends => k_is)
    (case k_ascends => k_is)
    (case a_is_size => k_is)
    (case l_is_size => k_is)
    (case c_is_size => k_is)
    (case k_is_size => k_is)
    (case a_points_right => k_is)
    (case l_points_right => k_is)
    (case c_points_right => k_is)
    (case k_points_right => k_is)
    (case a_told_slopes => k_is)
    (case l_told_slopes => k_is)
    (case c_told_slopes => k_is)
    (case k_told_slopes => k_is)
    (case a_slopes_right => k_is)
    (case l_slopes_right => k_is)
    (case c_slopes_right => k_is)
    (case k_slopes_right => k_is)
    (case l_Bent___init__ => k_is)
    (case c_Bent___init__ => k_is)
    (case k_Bent___init__ => k_is)
    (case pr1_points => k_is)
    (case pr2_points => k_is)
    (case pr3_points => k_is)
    (case pr4_points => k_is)
    (case l_Bent_points => k_is)
    (case c_Bent_points => k_is)
    (case k_Bent_points => k_is)
    (case pr1_slopes => k_is)
    (case pr2_slopes => k_is)
    (case pr3_slopes => k_is)
    (case pr4_slopes => k_is)
    (case l_Bent_slopes => k_is)
    (case c_Bent_slopes => k_is)
    (case k_Bent_slopes => k_is)
    (case pr1_value => k_is)
    (case pr2_value => k_is)
    (case pr3_value => k_is)
    (case pr4_value => k_is)
    (case l_Bent_value => k_is)
    (case c_Bent_value => k_is)
    (case k_Bent_value => k_is)
    (case l_Line___init__ => k_is)
    (case c_Line___init__ => k_is)
    (case k_Line___init__ => k_is)
    (case l_Line___eq__ => k_is)
    (case c_Line___eq__ => k_is)
    (case k_Line___eq__ => k_is)
    (case a__law_begun => k_is)
    (case l__law_begun => k_is)
    (case c__law_begun => k_is)
    (case k__law_begun => k_is)
    (case a__law_blended => k_is)
    (case l__law_blended => k_is)
    (case c__law_blended => k_is)
    (case k__law_blended => k_is)
    (case a__law_draw => k_is)
    (case l__law_draw => k_is)
    (case c__law_draw => k_is)
    (case k__law_draw => k_is)
    (case a__law_pick => k_is)
    (case l__law_pick => k_is)
    (case c__law_pick => k_is)
    (case k__law_pick => k_is)
    (case a__law_is_truth => k_is)
    (case l__law_is_truth => k_is)
    (case c__law_is_truth => k_is)
    (case k__law_is_truth => k_is)
    (case a__law_same => k_is)
    (case l__law_same => k_is)
    (case c__law_same => k_is)
    (case k__law_same => k_is)
    (case a__law_is_number => k_is)
    (case l__law_is_number => k_is)
    (case c__law_is_number => k_is)
    (case k__law_is_number => k_is)
    (case a__law_bl_far => k_is)
    (case l__law_bl_far => k_is)
    (case c__law_bl_far => k_is)
    (case k__law_bl_far => k_is)
    (case a__law_bl_top => k_is)
    (case l__law_bl_top => k_is)
    (case c__law_bl_top => k_is)
    (case k__law_bl_top => k_is)
    (case a__law_bl_rising => k_is)
    (case l__law_bl_rising => k_is)
    (case c__law_bl_rising => k_is)
    (case k__law_bl_rising => k_is)
    (case a__law_bl_parts => k_is)
    (case l__law_bl_parts => k_is)
    (case c__law_bl_parts => k_is)
    (case k__law_bl_parts => k_is)
    (case a__law_bl_is_size => k_is)
    (case l__law_bl_is_size => k_is)
    (case c__law_bl_is_size => k_is)
    (case k__law_bl_is_size => k_is)
    (case a__law_bl_rises => k_is)
    (case l__law_bl_rises => k_is)
    (case c__law_bl_rises => k_is)
    (case k__law_bl_rises => k_is)
    (case a__law_bl_wrong => k_is)
    (case l__law_bl_wrong => k_is)
    (case c__law_bl_wrong => k_is)
    (case k__law_bl_wrong => k_is)
    (case a__law_bl_is => k_is)
    (case l__law_bl_is => k_is)
    (case c__law_bl_is => k_is)
    (case k__law_bl_is => k_is)
    (case a__law_taken => k_is)
    (case l__law_taken => k_is)
    (case c__law_taken => k_is)
    (case k__law_taken => k_is)
    (case a__law_near => k_is)
    (case l__law_near => k_is)
    (case c__law_near => k_is)
    (case k__law_near => k_is)
    (case a__law_bounds_right => k_is)
    (case l__law_bounds_right => k_is)
    (case c__law_bounds_right => k_is)
    (case k__law_bounds_right => k_is)
    (case a_law => k_is)
    (case l_law => k_is)
    (case c_law => k_is)
    (case k_law => k_is)
    (case co_law => rfl)
    (case co__law_bounds_right => rfl)
    (case h_l => rfl)
    (case h_b => rfl)
    (case n_l => rfl)
    (case n_b => rfl)
    (case htt => decide)
    (case t_l => exact PySem.W.km_tabs_of Y _ (by decide))
    (case t_b => exact PySem.W.km_tabs_of Y _ (by decide))
#print axioms PySem.Challenge.cw_bentcosts_k00_lines_and_what_is_none_holds
