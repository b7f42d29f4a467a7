import PyProof.Rows.All
import Wide.All
import OpenK.AllK
import Wide.FinOn
import HandS.ForMost
import HandS.TupAny
import HandS.Deep
import HandS.Wide
import HandS.Flow
import HandS.Style
import HandS.IsInst
import HandS.Codes
import HandS.WordsDict
import HandS.Small
import HandS.More
import KE.SortData
import HandS.Conv
import HandS.DeepEq
import KE.KDictDisplayH
import HandS.Ends
import HandS.Zip
import KE.GoesMore
import KE.GoesEnum
import PySem.Challenge.RW_wherewritten_k06_whole_resolution
set_option Elab.async false
set_option linter.all false
set_option maxRecDepth 100000
set_option maxHeartbeats 4000000
namespace Y
open PySem PySem.Spec L2

/-- data that nobody changes any more -/
inductive D where
  | non | bl (b : Bool) | int (i : Int) | str (x : Str) | tup (ds : List D) | lst (ds : List D) | raw (v : V)
/-- a label: a slot of the body, a temporary, a slot whose object is walked now, another's -/
inductive Lb where
  | s (i : Nat) | t (j : Nat) | h (i : Nat) | x
  deriving DecidableEq
abbrev Own := Addr → Option Lb
/-- what a slot holds: data, or an object that it alone owns; sq: a list that is only read -/
inductive M where
  | im (d : D) | ls (ds : List D) | sq (ds : List D) | rd (ds : List D) | dk (kvs : List (Key × D)) | dt (kvs : List (List Key × D))
inductive Sl where
  | no | lo (m : M) | pa (m : M) | hd (p : Bool) (v : V) (m : M)
inductive R where
  | im (d : D) | tm (m : M) | sl (i : Nat)

def Tp (_K : PySem.W.Frag) (o : Own) (H : Hp) (a : Addr) (xs : List V) : Prop := o a = none ∧ H a = some (.tup xs)
def Lq (K : PySem.W.Frag) (o : Own) (H : Hp) (a : Addr) (xs : List V) : Prop :=
  ((o a = none ∨ o a = some .x) ∧ Rd H a (.lst xs)) ∨
    ∃ (u : Obj) (its : Array Value) (n : Nat), K.lookup a = some u ∧ u.cls = .type "list" ∧ u.dict = none ∧ u.data = .seq its n ∧ its.size ≤ sizeLine ∧ Vals xs its.toList
mutual
inductive Dat (K : PySem.W.Frag) (o : Own) (H : Hp) : V → D → Prop
  | non : Dat K o H .non .non
  | bl (b : Bool) : Dat K o H (.bl b) (.bl b)
  | int (i : Int) : Dat K o H (.int i) (.int i)
  | str (x : Str) : Dat K o H (.str x) (.str x)
  | raw (v : V) : Dat K o H v (.raw v)
  | tup {a : Addr} {xs : List V} {ds : List D} : Tp K o H a xs → Dats K o H xs ds → Dat K o H (.ref a) (.tup ds)
  | lst {a : Addr} {xs : List V} {ds : List D} : o a = none → H a = some (.lst xs) → Dats K o H xs ds → Dat K o H (.ref a) (.lst ds)
inductive Dats (K : PySem.W.Frag) (o : Own) (H : Hp) : List V → List D → Prop
  | nil : Dats K o H [] []
  | cons {v : V} {vs : List V} {d : D} {ds : List D} : Dat K o H v d → Dats K o H vs ds → Dats K o H (v :: vs) (d :: ds)
end
abbrev Kvs {κ : Type} (K : PySem.W.Frag) (o : Own) (H : Hp) : List (κ × V) → List (κ × D) → Prop := Paired fun (p : κ × V) (q : κ × D) => p.1 = q.1 ∧ Dat K o H p.2 q.2

def IsM (K : PySem.W.Frag) (o : Own) (H : Hp) (l : Lb) (v : V) : M → Prop
  | .im d => Dat K o H v d
  | .ls ds => ∃ a xs, v = .ref a ∧ o a = some l ∧ H a = some (.lst xs) ∧ Dats K o H xs ds
  | .sq ds => ∃ a xs, v = .ref a ∧ Lq K o H a xs ∧ Dats K o H xs ds
  | .rd ds => ∃ a xs, v = .ref a ∧ o a = some l ∧ H a = some (.lst xs) ∧ Dats K o H xs ds
  | .dk kvs => ∃ a ks, v = .ref a ∧ o a = some l ∧ H a = some (.dK ks) ∧ Kvs K o H ks kvs
  | .dt kvs => ∃ a ks, v = .ref a ∧ o a = some l ∧ H a = some (.dT ks) ∧ Kvs K o H ks kvs
def Vw (K : PySem.W.Frag) (o : Own) (H : Hp) (v : V) (m : M) : Prop := ∃ l, IsM K o H l v m
def M.own : M → Bool
  | .ls _ => true | .dk _ => true | .dt _ => true | .rd _ => true | _ => false
def M.res : M → R
  | .im d => .im d
  | m => .tm m
def Sl.m? : Sl → Option M
  | .no => none | .lo m => some m | .pa m => some m
  | .hd _ _ (.ls ds) => some (.rd ds)
  | .hd _ _ _ => none

/-- what is not labelled stays; what is another's stays -/
structure Le (o : Own) (H : Hp) (o' : Own) (H' : Hp) : Prop where
  keep : ∀ b u, o b = none → H b = some u → o' b = none ∧ H' b = some u
  ext : ∀ b, o b = some .x → o' b = some .x ∧ H' b = H b
theorem Le.refl {o : Own} {H : Hp} : Le o H o H := ⟨fun _ _ a b => ⟨a, b⟩, fun _ a => ⟨a, rfl⟩⟩
theorem Le.trans {o o1 o2 : Own} {H H1 H2 : Hp} (a : Le o H o1 H1) (b : Le o1 H1 o2 H2) : Le o H o2 H2 :=
  ⟨fun c u e f => let ⟨e1, f1⟩ := a.keep c u e f; b.keep c u e1 f1, fun c e => let ⟨e1, f1⟩ := a.ext c e; let ⟨e2, f2⟩ := b.ext c e1; ⟨e2, f2.trans f1⟩⟩
section
variable {K : PySem.W.Frag} {o o' : Own} {H H' : Hp} {l l' : Lb} {v : V}
theorem Tp.mono (L : Le o H o' H') {a : Addr} {xs : List V} (h : Tp K o H a xs) : Tp K o' H' a xs := L.keep _ _ h.1 h.2
theorem Lq.mono (L : Le o H o' H') {a : Addr} {xs : List V} (h : Lq K o H a xs) : Lq K o' H' a xs := by
  rcases h with ⟨e | e, h⟩ | h
  · rcases h with h | ⟨u, h⟩
    · exact .inl ⟨.inl (L.keep _ _ e h).1, .inl (L.keep _ _ e h).2⟩
    · exact .inl ⟨.inl (L.keep _ _ e h).1, .inr ⟨u, (L.keep _ _ e h).2⟩⟩
  · obtain ⟨e1, e2⟩ := L.ext _ e
    refine .inl ⟨.inr e1, ?_⟩
    unfold Rd at h ⊢
    rw [e2]; exact h
  · exact .inr h
theorem Tp.sq {a : Addr} {xs : List V} (h : Tp K o H a xs) : SqT K H a xs := SqT.of h.2
theorem Lq.sq {a : Addr} {xs : List V} (h : Lq K o H a xs) : SqL K H a xs := by
  rcases h with ⟨_, h⟩ | h
  · exact .inl h
  · exact .inr h
mutual
theorem Dat.mono (L : Le o H o' H') : ∀ {v : V} {d : D}, Dat K o H v d → Dat K o' H' v d
  | _, _, .non => .non
  | _, _, .bl b => .bl b
  | _, _, .int b => .int b
  | _, _, .str b => .str b
  | _, _, .raw b => .raw b
  | _, _, .tup h r => .tup (h.mono L) (Dats.mono L r)
  | _, _, .lst e h r => .lst (L.keep _ _ e h).1 (L.keep _ _ e h).2 (Dats.mono L r)
theorem Dats.mono (L : Le o H o' H') : ∀ {v : List V} {d : List D}, Dats K o H v d → Dats K o' H' v d
  | _, _, .nil => .nil
  | _, _, .cons a r => .cons (Dat.mono L a) (Dats.mono L r)
end
theorem Kvs.mono {κ : Type} (L : Le o H o' H') {ks : List (κ × V)} {kvs : List (κ × D)} (h : Kvs K o H ks kvs) : Kvs K o' H' ks kvs :=
  Paired.mapP h fun _ _ z => ⟨z.1, z.2.mono L⟩
theorem IsM.mono (L : Le o H o' H') (h : ∀ a, o a = some l → o' a = some l' ∧ H' a = H a) : ∀ {m : M}, IsM K o H l v m → IsM K o' H' l' v m
  | .im _, q => Dat.mono L q
  | .ls _, ⟨a, xs, e, f, g, q⟩ => ⟨a, xs, e, (h a f).1, (h a f).2.trans g, q.mono L⟩
  | .sq _, ⟨a, xs, e, f, q⟩ => ⟨a, xs, e, f.mono L, q.mono L⟩
  | .rd _, ⟨a, xs, e, f, g, q⟩ => ⟨a, xs, e, (h a f).1, (h a f).2.trans g, q.mono L⟩
  | .dk _, ⟨a, xs, e, f, g, q⟩ => ⟨a, xs, e, (h a f).1, (h a f).2.trans g, Kvs.mono L q⟩
  | .dt _, ⟨a, xs, e, f, g, q⟩ => ⟨a, xs, e, (h a f).1, (h a f).2.trans g, Kvs.mono L q⟩
theorem Dats.length : ∀ {v : List V} {d : List D}, Dats K o H v d → v.length = d.length
  | _, _, .nil => rfl
  | _, _, .cons _ r => congrArg (· + 1) r.length
theorem Dats.append : ∀ {v w : List V} {d e : List D}, Dats K o H v d → Dats K o H w e → Dats K o H (v ++ w) (d ++ e)
  | _, _, _, _, .nil, s => s
  | _, _, _, _, .cons a r, s => .cons a (r.append s)
theorem Dats.get : ∀ {v : List V} {d : List D} {i : Nat} {x : D}, Dats K o H v d → d[i]? = some x → ∃ u, v[i]? = some u ∧ Dat K o H u x
  | _, _, 0, _, .cons a _, rfl => ⟨_, rfl, a⟩
  | _, _, _ + 1, _, .cons _ r, e => r.get e
theorem Dats.getV : ∀ {v : List V} {d : List D} {i : Nat} {u : V}, Dats K o H v d → v[i]? = some u → ∃ x, d[i]? = some x ∧ Dat K o H u x
  | _, _, 0, _, .cons a _, rfl => ⟨_, rfl, a⟩
  | _, _, _ + 1, _, .cons _ r, e => r.getV e
theorem Dats.take : ∀ {v : List V} {d : List D} (n : Nat), Dats K o H v d → Dats K o H (v.take n) (d.take n)
  | _, _, 0, _ => .nil
  | _, _, _ + 1, .nil => .nil
  | _, _, n + 1, .cons a r => .cons a (r.take n)
theorem Dats.drop : ∀ {v : List V} {d : List D} (n : Nat), Dats K o H v d → Dats K o H (v.drop n) (d.drop n)
  | _, _, 0, r => r
  | _, _, _ + 1, .nil => .nil
  | _, _, n + 1, .cons _ r => r.drop n
theorem Dats.set {u : V} {x : D} (q : Dat K o H u x) : ∀ {v : List V} {d : List D} (i : Nat), Dats K o H v d → Dats K o H (v.set i u) (d.set i x)
  | _, _, _, .nil => .nil
  | _, _, 0, .cons _ r => .cons q r
  | _, _, i + 1, .cons a r => .cons a (r.set q i)
theorem Dats.reverse {v : List V} {d : List D} (h : Dats K o H v d) : Dats K o H v.reverse d.reverse := by
  induction v generalizing d with
  | nil => cases h; exact .nil
  | cons x r ih =>
    cases h with
    | cons a t => rw [List.reverse_cons, List.reverse_cons]; exact (ih t).append (.cons a .nil)
theorem Dats.dropLast {v : List V} {d : List D} (h : Dats K o H v d) : Dats K o H v.dropLast d.dropLast := by
  rw [List.dropLast_eq_take, List.dropLast_eq_take, h.length]; exact h.take _
theorem Dats.ints : ∀ {v : List V} {ns : List Int}, Dats K o H v (ns.map D.int) → v = ns.map V.int
  | _, [], h => by cases h; rfl
  | _, n :: ns, h => by
    cases h with
    | cons a r => cases a; rw [Dats.ints r]; rfl
theorem Dats.of_ints : ∀ (ns : List Int), Dats K o H (ns.map V.int) (ns.map D.int)
  | [] => .nil
  | n :: ns => .cons (.int n) (Dats.of_ints ns)
theorem Dats.bls : ∀ {v : List V} {ns : List Bool}, Dats K o H v (ns.map D.bl) → v = ns.map V.bl
  | _, [], h => by cases h; rfl
  | _, n :: ns, h => by
    cases h with
    | cons a r => cases a; rw [Dats.bls r]; rfl
end

/-! ### the state of a body -/
structure Cc where
  o0 : Own
  H0 : Hp
  pv : List V
def SlOk (K : PySem.W.Frag) (c : Cc) (o : Own) (σ : St) (H : Hp) (i : Nat) : Sl → Prop
  | .no => True
  | .lo m => ∃ v, σ[i]? = some (some v) ∧ IsM K o H (.s i) v m
  | .pa m => ∃ v, σ[i]? = some (some v) ∧ c.pv[i]? = some v ∧ IsM K o H (.s i) v m
  | .hd p v m => σ[i]? = some (some v) ∧ (p = true → c.pv[i]? = some v) ∧ IsM K o H (.h i) v m
abbrev Env := List Sl
structure Rep (K : PySem.W.Frag) (c : Cc) (o : Own) (σ : St) (H : Hp) (ρ : Env) (τ : List (V × M)) : Prop where
  sl : ∀ i s, ρ[i]? = some s → SlOk K c o σ H i s
  tm : ∀ j v m, τ[j]? = some (v, m) → IsM K o H (.t j) v m ∧ m.own = true
  mu : ∀ a l, o a = some l → Mut (H a)
  le : Le c.o0 c.H0 o H
  ln : ρ.length = σ.length
def vw (ρ : Env) : R → Option M
  | .im d => some (.im d)
  | .tm m => some m
  | .sl i => match ρ[i]? with
    | some s => s.m?
    | none => none
def RelR (K : PySem.W.Frag) (o : Own) (H : Hp) (σ : St) (v : V) (r : R) (τ τ' : List (V × M)) : Prop :=
  match r with
  | .im d => τ' = τ ∧ Dat K o H v d
  | .tm m => τ' = τ ++ [(v, m)]
  | .sl i => τ' = τ ∧ σ[i]? = some (some v)

section
variable {K : PySem.W.Frag} {c : Cc} {o o' : Own} {σ : St} {H H' : Hp} {ρ : Env} {τ τ' τ0 τ1 : List (V × M)} {v : V} {r : R} {m : M}
theorem SlOk.mono (L : Le o H o' H') {i : Nat} (h : ∀ a, o a = some (.s i) → o' a = some (.s i) ∧ H' a = H a) (hh : ∀ a, o a = some (.h i) → o' a = some (.h i) ∧ H' a = H a) : ∀ {s : Sl}, SlOk K c o σ H i s → SlOk K c o' σ H' i s
  | .no, _ => trivial
  | .lo _, ⟨v, e, q⟩ => ⟨v, e, q.mono L h⟩
  | .pa _, ⟨v, e, f, q⟩ => ⟨v, e, f, q.mono L h⟩
  | .hd _ _ _, ⟨e, f, q⟩ => ⟨e, f, q.mono L hh⟩
theorem SlOk.of {i : Nat} {s : Sl} (h : SlOk K c o σ H i s) (e : s.m? = some m) : ∃ v, σ[i]? = some (some v) ∧ Vw K o H v m := by
  cases s with
  | no => cases e
  | lo z => cases e; obtain ⟨v, a, q⟩ := h; exact ⟨v, a, _, q⟩
  | pa z => cases e; obtain ⟨v, a, _, q⟩ := h; exact ⟨v, a, _, q⟩
  | hd p v z =>
    obtain ⟨a, _, q⟩ := h
    cases z with
    | ls ds => cases e; exact ⟨v, a, _, q⟩
    | _ => cases e
theorem Rep.vw_ok (R0 : Rep K c o σ H ρ τ) (h : RelR K o H σ v r τ0 τ1) (p : τ1 <+: τ) (e : vw ρ r = some m) : Vw K o H v m := by
  cases r with
  | im d => cases e; exact ⟨.x, h.2⟩
  | tm z =>
    cases e
    have q : τ1 = τ0 ++ [(v, m)] := h
    subst q
    obtain ⟨t, rfl⟩ := p
    exact ⟨_, (R0.tm τ0.length v m (by simp)).1⟩
  | sl i =>
    obtain ⟨_, hs⟩ := h
    unfold vw at e
    cases q : ρ[i]? with
    | none => simp only [q] at e; cases e
    | some s =>
      simp only [q] at e
      obtain ⟨w, hw, z⟩ := (R0.sl i s q).of e
      rw [hs] at hw; cases hw
      exact z
theorem RelR.mono (L : Le o H o' H') (h : RelR K o H σ v r τ τ') : RelR K o' H' σ v r τ τ' := by
  cases r with
  | im d => exact ⟨h.1, h.2.mono L⟩
  | tm z => exact h
  | sl i => exact h
theorem RelR.pre (h : RelR K o H σ v r τ τ') : τ <+: τ' := by
  cases r with
  | im d => rw [h.1]; exact List.prefix_rfl
  | tm z =>
    have q : τ' = τ ++ [(v, z)] := h
    rw [q]; exact List.prefix_append _ _
  | sl i => rw [h.1]; exact List.prefix_rfl
/-- only objects are added -/
def Grow (H H' : Hp) : Prop := ∀ b u, H b = some u → H' b = some u
theorem Grow.refl : Grow H H := fun _ _ h => h
theorem Grow.new {p : Addr} {u : HO} (h : H p = none) : Grow H (upd H p u) := fun b w e => by rw [upd_ne (ne_of_none e h)]; exact e
theorem mut_some (h : Mut (H v1)) : ∃ u, H v1 = some u := by
  cases e : H v1 with
  | none => rw [e] at h; exact h.elim
  | some u => exact ⟨u, rfl⟩
theorem Grow.le (g : Grow H H') (mu : ∀ a l, o a = some l → Mut (H a)) : Le o H o H' :=
  ⟨fun b u e f => ⟨e, g b u f⟩, fun b e => ⟨e, by obtain ⟨u, q⟩ := mut_some (mu b _ e); rw [q]; exact g b u q⟩⟩
theorem Grow.mu (g : Grow H H') (mu : ∀ a l, o a = some l → Mut (H a)) : ∀ a l, o a = some l → Mut (H' a) := fun a l e => by
  obtain ⟨u, q⟩ := mut_some (mu a l e)
  have := mu a l e
  rw [g a u q, ← q]; exact this
theorem Grow.at (g : Grow H H') (mu : ∀ a l, o a = some l → Mut (H a)) : ∀ a l, o a = some l → H' a = H a := fun a l e => by
  obtain ⟨u, q⟩ := mut_some (mu a l e)
  rw [g a u q, q]
theorem Rep.grow (R0 : Rep K c o σ H ρ τ) (g : Grow H H') : Rep K c o σ H' ρ τ :=
  ⟨fun i s e => (R0.sl i s e).mono (g.le R0.mu) (fun a q => ⟨q, g.at R0.mu a _ q⟩) fun a q => ⟨q, g.at R0.mu a _ q⟩, fun j v m e => ⟨(R0.tm j v m e).1.mono (g.le R0.mu) fun a q => ⟨q, g.at R0.mu a _ q⟩, (R0.tm j v m e).2⟩, g.mu R0.mu,
    R0.le.trans (g.le R0.mu), R0.ln⟩
theorem Rep.fresh (R0 : Rep K c o σ H ρ τ) {p : Addr} (h : H p = none) : o p = none := by
  cases e : o p with
  | none => rfl
  | some l => have := R0.mu p l e; rw [h] at this; exact this.elim
/-- the temporaries from n on are let go: their objects are data now -/
def dropT (n : Nat) (o : Own) : Own := fun a => match o a with
  | some (.t j) => if j < n then some (.t j) else none
  | l => l
theorem dropT_le (n : Nat) : Le o H (dropT n o) H :=
  ⟨fun b u e f => ⟨by unfold dropT; rw [e], f⟩, fun b e => ⟨by unfold dropT; rw [e], rfl⟩⟩
theorem dropT_s {n i : Nat} {a : Addr} (h : o a = some (.s i)) : dropT n o a = some (.s i) := by unfold dropT; rw [h]
theorem dropT_h {n i : Nat} {a : Addr} (h : o a = some (.h i)) : dropT n o a = some (.h i) := by unfold dropT; rw [h]
theorem dropT_t {n j : Nat} {a : Addr} (h : o a = some (.t j)) (k : j < n) : dropT n o a = some (.t j) := by unfold dropT; rw [h]; simp [k]
theorem dropT_some {n : Nat} {a : Addr} {l : Lb} (h : dropT n o a = some l) : o a = some l := by
  unfold dropT at h
  split at h
  · rename_i j e
    split at h
    · rw [e]; exact h
    · cases h
  · exact h
theorem Rep.drop (R0 : Rep K c o σ H ρ τ) (p : τ0 <+: τ) : Rep K c (dropT τ0.length o) σ H ρ τ0 := by
  obtain ⟨t, rfl⟩ := p
  refine ⟨fun i s e => (R0.sl i s e).mono (dropT_le _) (fun a q => ⟨dropT_s q, rfl⟩) fun a q => ⟨dropT_h q, rfl⟩, fun j v m e => ?_, fun a l e => R0.mu a l (dropT_some e), R0.le.trans (dropT_le _), R0.ln⟩
  have hj : j < τ0.length := (List.getElem?_eq_some_iff.mp e).1
  have q := R0.tm j v m (by rw [List.getElem?_append_left hj]; exact e)
  exact ⟨q.1.mono (dropT_le _) fun a z => ⟨dropT_t z hj, rfl⟩, q.2⟩
/-- one more temporary -/
theorem Rep.push (R0 : Rep K c o σ H ρ τ) {p : Addr} {u : HO} (hp : H p = none) (hu : Mut (some u)) (hm : m.own = true)
    (h : IsM K (fun b => if b = p then some (.t τ.length) else o b) (upd H p u) (.t τ.length) (.ref p) m) :
    Rep K c (fun b => if b = p then some (.t τ.length) else o b) σ (upd H p u) ρ (τ ++ [(.ref p, m)]) ∧ Le o H (fun b => if b = p then some (.t τ.length) else o b) (upd H p u) := by
  have ne : ∀ b w, H b = some w → b ≠ p := fun b w e => ne_of_none e hp
  have neo : ∀ b l, o b = some l → b ≠ p := fun b l e => by obtain ⟨w, q⟩ := mut_some (R0.mu b l e); exact ne b w q
  have L : Le o H (fun b => if b = p then some (.t τ.length) else o b) (upd H p u) :=
    ⟨fun b w e f => ⟨by show (if b = p then _ else o b) = none; rw [if_neg (ne b w f)]; exact e, by rw [upd_ne (ne b w f)]; exact f⟩,
     fun b e => ⟨by show (if b = p then _ else o b) = _; rw [if_neg (neo b _ e)]; exact e, upd_ne (neo b _ e)⟩⟩
  have kp : ∀ l a, o a = some l → (if a = p then some (.t τ.length) else o a) = some l ∧ upd H p u a = H a := fun l a e => ⟨by rw [if_neg (neo a _ e)]; exact e, upd_ne (neo a _ e)⟩
  refine ⟨⟨fun i s e => (R0.sl i s e).mono L (kp _) (kp _), fun j v m' e => ?_, fun a l e => ?_, R0.le.trans L, R0.ln⟩, L⟩
  · by_cases hj : j < τ.length
    · rw [List.getElem?_append_left hj] at e
      exact ⟨(R0.tm j v m' e).1.mono L (kp _), (R0.tm j v m' e).2⟩
    · rw [List.getElem?_append_right (by omega)] at e
      have hz : j - τ.length = 0 := by
        cases q : j - τ.length with
        | zero => rfl
        | succ n => rw [q] at e; simp at e
      rw [hz] at e
      have e2 : j = τ.length := by omega
      subst e2
      simp at e
      obtain ⟨rfl, rfl⟩ := e
      exact ⟨h, hm⟩
  · by_cases q : a = p
    · subst q; rw [upd_same]; exact hu
    · have e : (if a = p then some (.t τ.length) else o a) = some l := e
      rw [if_neg q] at e
      rw [upd_ne q]
      exact R0.mu a l e
/-- a result: data, or a new object -/
def NewM (K : PySem.W.Frag) (o : Own) (H H' : Hp) (v : V) : M → Prop
  | .im d => Dat K o H' v d
  | .ls ds => ∃ p xs, v = .ref p ∧ H p = none ∧ H' = upd H p (.lst xs) ∧ Dats K o H xs ds
  | .dk kvs => ∃ p ks, v = .ref p ∧ H p = none ∧ H' = upd H p (.dK ks) ∧ Kvs K o H ks kvs
  | .dt kvs => ∃ p ks, v = .ref p ∧ H p = none ∧ H' = upd H p (.dT ks) ∧ Kvs K o H ks kvs
  | .sq _ => False
  | .rd _ => False
/-- behind an operation that only makes: temporaries of the operands are let go -/
theorem Rep.made (R0 : Rep K c o σ H ρ τ) (p : τ0 <+: τ) (g : Grow H H') (h : NewM K o H H' v m) :
    ∃ o' τ', Le o H o' H' ∧ Rep K c o' σ H' ρ τ' ∧ RelR K o' H' σ v m.res τ0 τ' := by
  have R1 := R0.drop p
  have L1 : Le o H (dropT τ0.length o) H := dropT_le _
  cases m with
  | im d =>
    have h : Dat K o H' v d := h
    refine ⟨dropT τ0.length o, τ0, L1.trans (g.le R1.mu), R1.grow g, rfl, h.mono (dropT_le _)⟩
  | sq ds => exact h.elim
  | rd ds => exact h.elim
  | ls ds =>
    obtain ⟨a, xs, rfl, ha, rfl, q⟩ := h
    have ne : ∀ b w, H b = some w → b ≠ a := fun b w e => ne_of_none e ha
    have neo : ∀ b l, dropT τ0.length o b = some l → b ≠ a := fun b l e => by obtain ⟨w, q⟩ := mut_some (R1.mu b l e); exact ne b w q
    have L : Le (dropT τ0.length o) H (fun b => if b = a then some (.t τ0.length) else dropT τ0.length o b) (upd H a (.lst xs)) :=
      ⟨fun b w e f => ⟨by show (if b = a then _ else _) = none; rw [if_neg (ne b w f)]; exact e, by rw [upd_ne (ne b w f)]; exact f⟩,
       fun b e => ⟨by show (if b = a then _ else _) = _; rw [if_neg (neo b _ e)]; exact e, upd_ne (neo b _ e)⟩⟩
    obtain ⟨R2, _⟩ := R1.push (m := .ls ds) (u := .lst xs) ha trivial rfl ⟨a, xs, rfl, by simp, upd_same, (q.mono L1).mono L⟩
    exact ⟨_, _, L1.trans L, R2, rfl⟩
  | dk kvs =>
    obtain ⟨a, xs, rfl, ha, rfl, q⟩ := h
    have ne : ∀ b w, H b = some w → b ≠ a := fun b w e => ne_of_none e ha
    have neo : ∀ b l, dropT τ0.length o b = some l → b ≠ a := fun b l e => by obtain ⟨w, q⟩ := mut_some (R1.mu b l e); exact ne b w q
    have L : Le (dropT τ0.length o) H (fun b => if b = a then some (.t τ0.length) else dropT τ0.length o b) (upd H a (.dK xs)) :=
      ⟨fun b w e f => ⟨by show (if b = a then _ else _) = none; rw [if_neg (ne b w f)]; exact e, by rw [upd_ne (ne b w f)]; exact f⟩,
       fun b e => ⟨by show (if b = a then _ else _) = _; rw [if_neg (neo b _ e)]; exact e, upd_ne (neo b _ e)⟩⟩
    obtain ⟨R2, _⟩ := R1.push (m := .dk kvs) (u := .dK xs) ha trivial rfl ⟨a, xs, rfl, by simp, upd_same, Kvs.mono L (Kvs.mono L1 q)⟩
    exact ⟨_, _, L1.trans L, R2, rfl⟩
  | dt kvs =>
    obtain ⟨a, xs, rfl, ha, rfl, q⟩ := h
    have ne : ∀ b w, H b = some w → b ≠ a := fun b w e => ne_of_none e ha
    have neo : ∀ b l, dropT τ0.length o b = some l → b ≠ a := fun b l e => by obtain ⟨w, q⟩ := mut_some (R1.mu b l e); exact ne b w q
    have L : Le (dropT τ0.length o) H (fun b => if b = a then some (.t τ0.length) else dropT τ0.length o b) (upd H a (.dT xs)) :=
      ⟨fun b w e f => ⟨by show (if b = a then _ else _) = none; rw [if_neg (ne b w f)]; exact e, by rw [upd_ne (ne b w f)]; exact f⟩,
       fun b e => ⟨by show (if b = a then _ else _) = _; rw [if_neg (neo b _ e)]; exact e, upd_ne (neo b _ e)⟩⟩
    obtain ⟨R2, _⟩ := R1.push (m := .dt kvs) (u := .dT xs) ha trivial rfl ⟨a, xs, rfl, by simp, upd_same, Kvs.mono L (Kvs.mono L1 q)⟩
    exact ⟨_, _, L1.trans L, R2, rfl⟩
end
end Y
namespace Y
open PySem PySem.Spec L2

/-! ### data as the library's -/
mutual
def D.py : D → PyData
  | .non => .none
  | .bl b => .bool b
  | .int i => .int i
  | .str x => .str x
  | .tup ds => .tuple (D.pys ds)
  | .lst ds => .list (D.pys ds)
  | .raw _ => .dict []
def D.pys : List D → List PyData
  | [] => []
  | d :: ds => d.py :: D.pys ds
end
mutual
def D.ok : Nat → D → Bool
  | _, .non => true
  | _, .bl _ => true
  | _, .int _ => true
  | _, .str x => PyData.strOk x
  | 0, .tup _ => false
  | n + 1, .tup ds => D.oks n ds
  | 0, .lst _ => false
  | n + 1, .lst ds => D.oks n ds
  | _, .raw _ => false
def D.oks : Nat → List D → Bool
  | _, [] => true
  | n, d :: ds => D.ok n d && D.oks n ds
end
theorem D.pys_map : ∀ ds : List D, D.pys ds = ds.map D.py
  | [] => rfl
  | d :: ds => by simp only [D.pys, List.map_cons]; rw [D.pys_map ds]
theorem D.oks_all (n : Nat) : ∀ ds : List D, D.oks n ds = ds.all (D.ok n)
  | [] => rfl
  | d :: ds => by simp only [D.oks, List.all_cons]; rw [D.oks_all n ds]
mutual
theorem D.ok_lay : ∀ (n : Nat) (d : D), D.ok n d = true → d.py.canLay0 = true ∧ d.py.depth ≤ n
  | n, .non, _ => by simp [D.py, PyData.canLay0, PyData.depth]
  | n, .bl _, _ => by simp [D.py, PyData.canLay0, PyData.depth]
  | n, .int _, _ => by simp [D.py, PyData.canLay0, PyData.depth]
  | n, .str x, h => by
    have h : PyData.strOk x = true := by simpa [D.ok] using h
    simp [D.py, PyData.canLay0, PyData.depth, h]
  | 0, .tup _, h => by simp [D.ok] at h
  | n + 1, .tup ds, h => by
    have h : D.oks n ds = true := by simpa [D.ok] using h
    have q := D.oks_lay n ds h
    simp only [D.py, PyData.canLay0, PyData.depth]
    exact ⟨q.1, by omega⟩
  | 0, .lst _, h => by simp [D.ok] at h
  | n + 1, .lst ds, h => by
    have h : D.oks n ds = true := by simpa [D.ok] using h
    have q := D.oks_lay n ds h
    simp only [D.py, PyData.canLay0, PyData.depth]
    exact ⟨q.1, by omega⟩
  | n, .raw _, h => by simp [D.ok] at h
theorem D.oks_lay : ∀ (n : Nat) (ds : List D), D.oks n ds = true → PyData.canLayAll0 (D.pys ds) = true ∧ PyData.depthAll (D.pys ds) ≤ n
  | n, [], _ => by simp [D.pys, PyData.canLayAll0, PyData.depthAll]
  | n, d :: ds, h => by
    simp only [D.oks, Bool.and_eq_true] at h
    have a := D.ok_lay n d h.1
    have b := D.oks_lay n ds h.2
    simp only [D.pys, PyData.canLayAll0, PyData.depthAll, Bool.and_eq_true]
    exact ⟨⟨a.1, b.1⟩, by omega⟩
end
theorem D.ok_shaped {d : D} (h : D.ok 64 d = true) : SeqAt.shaped d.py = true := by
  have q := D.ok_lay 64 d h
  unfold SeqAt.shaped
  rw [q.1, decide_eq_true q.2]; rfl
def D.eqv (d e : D) : Bool := PyData.eqv d.py e.py

section
variable {K : PySem.W.Frag} {o o' : Own} {H H' : Hp} {l l' : Lb} {v : V}
mutual
theorem Dat.dp : ∀ {n : Nat} {v : V} {d : D}, Dat K o H v d → D.ok n d = true → Dp K H v d.py
  | _, _, _, .non, _ => by simp only [D.py]; exact .non
  | _, _, _, .bl b, _ => by simp only [D.py]; exact .bl b
  | _, _, _, .int b, _ => by simp only [D.py]; exact .int b
  | _, _, _, .str b, _ => by simp only [D.py]; exact .str b
  | _, _, _, .raw b, h => by simp [D.ok] at h
  | 0, _, _, .tup _ _, h => by simp [D.ok] at h
  | n + 1, _, _, .tup h r, q => by
    simp only [D.py]
    exact .tup h.sq (Dats.dp r (by simpa [D.ok] using q))
  | 0, _, _, .lst _ _ _, h => by simp [D.ok] at h
  | n + 1, _, _, .lst e h r, q => by
    simp only [D.py]
    exact .lst (SqL.of h) (Dats.dp r (by simpa [D.ok] using q))
theorem Dats.dp : ∀ {n : Nat} {v : List V} {d : List D}, Dats K o H v d → D.oks n d = true → DpAll K H v (D.pys d)
  | _, _, _, .nil, _ => by simp only [D.pys]; exact .nil
  | n, _, _, .cons a r, h => by
    simp only [D.oks, Bool.and_eq_true] at h
    simp only [D.pys]
    exact .cons (Dat.dp a h.1) (Dats.dp r h.2)
end
def M.dat? : M → Option D
  | .im d => some d
  | .ls ds => some (.lst ds)
  | .sq ds => some (.lst ds)
  | .rd ds => some (.lst ds)
  | _ => none
theorem Vw.dp {m : M} {d : D} (h : Vw K o H v m) (e : m.dat? = some d) (k : D.ok 64 d = true) : Dp K H v d.py := by
  obtain ⟨l, h⟩ := h
  cases m with
  | im x => cases e; exact Dat.dp h k
  | ls ds =>
    cases e
    obtain ⟨a, xs, rfl, _, g, q⟩ := h
    simp only [D.py]
    exact .lst (SqL.of g) (Dats.dp (n := 63) q (by simpa [D.ok] using k))
  | sq ds =>
    cases e
    obtain ⟨a, xs, rfl, g, q⟩ := h
    simp only [D.py]
    exact .lst g.sq (Dats.dp (n := 63) q (by simpa [D.ok] using k))
  | rd ds =>
    cases e
    obtain ⟨a, xs, rfl, _, g, q⟩ := h
    simp only [D.py]
    exact .lst (SqL.of g) (Dats.dp (n := 63) q (by simpa [D.ok] using k))
  | dk _ => cases e
  | dt _ => cases e
/-- a list, by its items -/
def M.lst? : M → Option (List D)
  | .ls ds => some ds
  | .rd ds => some ds
  | .im (.lst ds) => some ds
  | _ => none
theorem Vw.lst {m : M} {ds : List D} (h : Vw K o H v m) (e : m.lst? = some ds) : ∃ a xs, v = .ref a ∧ H a = some (.lst xs) ∧ Dats K o H xs ds := by
  obtain ⟨l, h⟩ := h
  cases m with
  | im x =>
    cases x with
    | lst es => cases e; cases (show Dat K o H v (.lst ds) from h) with | lst e h' r => exact ⟨_, _, rfl, h', r⟩
    | _ => cases e
  | ls es => cases e; obtain ⟨a, xs, rfl, _, g, q⟩ := h; exact ⟨a, xs, rfl, g, q⟩
  | rd es => cases e; obtain ⟨a, xs, rfl, _, g, q⟩ := h; exact ⟨a, xs, rfl, g, q⟩
  | _ => cases e
/-- .. that is only read -/
def M.lq? : M → Option (List D)
  | .ls ds => some ds
  | .sq ds => some ds
  | .rd ds => some ds
  | .im (.lst ds) => some ds
  | _ => none
theorem Vw.lq {m : M} {ds : List D} (h : Vw K o H v m) (e : m.lq? = some ds) : ∃ a xs, v = .ref a ∧ SqL K H a xs ∧ Dats K o H xs ds := by
  cases m with
  | im x =>
    obtain ⟨a, xs, e1, e2, e3⟩ := Vw.lst (m := .im x) (ds := ds) h (by cases x <;> first | exact e | cases e)
    exact ⟨a, xs, e1, SqL.of e2, e3⟩
  | ls es => cases e; obtain ⟨l, a, xs, rfl, _, g, q⟩ := h; exact ⟨a, xs, rfl, SqL.of g, q⟩
  | sq es => cases e; obtain ⟨l, a, xs, rfl, g, q⟩ := h; exact ⟨a, xs, rfl, g.sq, q⟩
  | rd es => cases e; obtain ⟨l, a, xs, rfl, _, g, q⟩ := h; exact ⟨a, xs, rfl, SqL.of g, q⟩
  | _ => cases e
theorem Vw.tup {ds : List D} (h : Vw K o H v (.im (.tup ds))) : ∃ a xs, v = .ref a ∧ Tp K o H a xs ∧ Dats K o H xs ds := by
  obtain ⟨l, h⟩ := h
  cases (show Dat K o H v (.tup ds) from h) with
  | tup a r => exact ⟨_, _, rfl, a, r⟩
theorem Vw.int {i : Int} (h : Vw K o H v (.im (.int i))) : v = .int i := by
  obtain ⟨l, h⟩ := h; cases (show Dat K o H v (.int i) from h); rfl
theorem Vw.bl {i : Bool} (h : Vw K o H v (.im (.bl i))) : v = .bl i := by
  obtain ⟨l, h⟩ := h; cases (show Dat K o H v (.bl i) from h); rfl
theorem Vw.str {i : Str} (h : Vw K o H v (.im (.str i))) : v = .str i := by
  obtain ⟨l, h⟩ := h; cases (show Dat K o H v (.str i) from h); rfl
theorem Vw.non (h : Vw K o H v (.im .non)) : v = .non := by
  obtain ⟨l, h⟩ := h; cases (show Dat K o H v .non from h); rfl
theorem Vw.mono (L : Le o H o' H') (h : ∀ a l, o a = some l → o' a = some l ∧ H' a = H a) {m : M} (q : Vw K o H v m) : Vw K o' H' v m :=
  let ⟨l, z⟩ := q; ⟨l, z.mono L fun a e => h a l e⟩
end

/-! ### the judgements over data -/
abbrev TX := Env → (R → Env → Prop) → Prop
abbrev TQ := Env → (Bool → Env → Prop) → Prop
abbrev TL := Env → (List R → Env → Prop) → Prop
def TEo (K : PySem.W.Frag) (c : Cc) (t : TX) : TE := fun σ H k => ∃ o ρ τ Q, Rep K c o σ H ρ τ ∧ t ρ Q ∧
  ∀ v H' o' r ρ' τ', Le o H o' H' → Rep K c o' σ H' ρ' τ' → RelR K o' H' σ v r τ τ' → Q r ρ' → k v H'
def TTo (K : PySem.W.Frag) (c : Cc) (t : TQ) : TT := fun σ H k => ∃ o ρ τ Q, Rep K c o σ H ρ τ ∧ t ρ Q ∧
  ∀ b H' o' ρ', Le o H o' H' → Rep K c o' σ H' ρ' τ → Q b ρ' → k b H'
inductive RelRs (K : PySem.W.Frag) (o : Own) (H : Hp) (σ : St) : List V → List R → List (V × M) → List (V × M) → Prop
  | nil {τ} : RelRs K o H σ [] [] τ τ
  | cons {v vs r rs τ τ1 τ'} : RelR K o H σ v r τ τ1 → RelRs K o H σ vs rs τ1 τ' → RelRs K o H σ (v :: vs) (r :: rs) τ τ'
def TAo (K : PySem.W.Frag) (c : Cc) (t : TL) : TA := fun σ H k => ∃ o ρ τ Q, Rep K c o σ H ρ τ ∧ t ρ Q ∧
  ∀ vs H' o' rs ρ' τ', Le o H o' H' → Rep K c o' σ H' ρ' τ' → RelRs K o' H' σ vs rs τ τ' → Q rs ρ' → k vs H'
def DE (X : Cx) (c : Cc) (e : Expr) (t : TX) : Prop := PE X e (TEo X.K c t)
def DT (X : Cx) (c : Cc) (e : Expr) (t : TQ) : Prop := PT X e (TTo X.K c t)
def DW (X : Cx) (c : Cc) (e : Expr) (t : TQ) : Prop := PW X e (TTo X.K c t)
def DA (X : Cx) (c : Cc) (es : List Expr) (t : TL) : Prop := PA X es (TAo X.K c t)
theorem peImp {X : Cx} {e : Expr} {t t' : TE} (h : PE X e t) (f : ∀ σ H k, t' σ H k → t σ H k) : PE X e t' := ⟨fun pins s σ H Q I q => h.run pins s σ H Q I (f _ _ _ q)⟩
theorem ptImp {X : Cx} {e : Expr} {t t' : TT} (h : PT X e t) (f : ∀ σ H k, t' σ H k → t σ H k) : PT X e t' := ⟨fun pins s σ H Q I q => h.run pins s σ H Q I (f _ _ _ q)⟩
theorem pwImp {X : Cx} {e : Expr} {t t' : TT} (h : PW X e t) (f : ∀ σ H k, t' σ H k → t σ H k) : PW X e t' := ⟨fun wh pins s σ H Q I q => h.run wh pins s σ H Q I (f _ _ _ q)⟩
theorem paImp {X : Cx} {e : List Expr} {t t' : TA} (h : PA X e t) (f : ∀ σ H k, t' σ H k → t σ H k) : PA X e t' := ⟨fun pos pins s σ H Q I q => h.run pos pins s σ H Q I (f _ _ _ q)⟩

section
variable {K : PySem.W.Frag} {c : Cc} {o o' : Own} {σ : St} {H H' : Hp} {ρ : Env} {τ τ' τ0 τ1 : List (V × M)}
theorem RelRs.mono (L : Le o H o' H') : ∀ {vs rs τ τ'}, RelRs K o H σ vs rs τ τ' → RelRs K o' H' σ vs rs τ τ'
  | _, _, _, _, .nil => .nil
  | _, _, _, _, .cons a r => .cons (a.mono L) (RelRs.mono L r)
theorem RelRs.pre : ∀ {vs rs τ τ'}, RelRs K o H σ vs rs τ τ' → τ <+: τ'
  | _, _, _, _, .nil => List.prefix_rfl
  | _, _, _, _, .cons a r => a.pre.trans r.pre
theorem RelRs.length : ∀ {vs rs τ τ'}, RelRs K o H σ vs rs τ τ' → vs.length = rs.length
  | _, _, _, _, .nil => rfl
  | _, _, _, _, .cons _ r => congrArg (· + 1) r.length
end

/-! ### names and constants -/
section
variable {X : Cx} {c : Cc} {e a b : Expr} {es : List Expr} {pos : Pos} {t ta tb : TX}
def tIm (d : D) : TX := fun ρ Q => Q (.im d) ρ
def tNm (i : Nat) : TX := fun ρ Q => match ρ[i]? with
  | some s => match s.m? with
    | some (.im d) => Q (.im d) ρ
    | some _ => Q (.sl i) ρ
    | none => False
  | none => False
theorem de_var (i : Nat) {x : Str} (hN : X.N[i]? = some x := by rfl) (hv : Vis X.env.scope x := by first | exact Or.inl rfl | exact Or.inr (Or.inl rfl) | exact Or.inr (Or.inr rfl)) (hd : (x == ("__debug__" : Str)) = false := by decide)
    (hcd : (x == ("__classdict__" : Str)) = false := by decide) : DE X c (.Name x pos) (tNm i) := by
  refine peImp (pe_var (i := i) hN hv hd hcd) fun σ H k h => ?_
  obtain ⟨o, ρ, τ, Q, R0, h, q⟩ := h
  unfold tNm at h
  split at h
  · rename_i s hs
    split at h
    · rename_i d hm
      obtain ⟨v, e, _, z⟩ := (R0.sl i s hs).of hm
      exact ⟨v, e, q v H o (.im d) ρ τ .refl R0 ⟨rfl, z⟩ h⟩
    · rename_i m _ hm
      obtain ⟨v, e, z⟩ := (R0.sl i s hs).of hm
      exact ⟨v, e, q v H o (.sl i) ρ τ .refl R0 ⟨rfl, e⟩ h⟩
    · exact h.elim
  · exact h.elim
theorem de_c {d : D} {v : V} (h : PE X e (tC v)) (hd : ∀ o H, Dat X.K o H v d) : DE X c e (tIm d) := peImp h fun σ H k ⟨o, ρ, τ, Q, R0, h, q⟩ => q v H o (.im d) ρ τ .refl R0 ⟨rfl, hd o H⟩ h
theorem de_int {i j pos} : DE X c (.Constant (.int i) j pos) (tIm (.int i)) := de_c pe_int fun _ _ => .int i
theorem de_bl {i j pos} : DE X c (.Constant (.bool i) j pos) (tIm (.bl i)) := de_c pe_bl fun _ _ => .bl i
theorem de_non {j pos} : DE X c (.Constant .none j pos) (tIm .non) := de_c pe_non fun _ _ => .non
theorem de_str {i j pos} : DE X c (.Constant (.str i) j pos) (tIm (.str i)) := de_c pe_str fun _ _ => .str i
/-- a global name: an int, a text, a def, a class -/
theorem de_glob {x : Str} {v : V} {u : Value} {d : D} (hg : Gl X x) (hm : X.mg x = some u) (r : RelV v u) (hd : ∀ o H, Dat X.K o H v d) (hdb : (x == ("__debug__" : Str)) = false := by decide) : DE X c (.Name x pos) (tIm d) :=
  de_c (pe_glob hg hm r hdb) hd
theorem de_bltn {x : Str} {v : V} {u : Value} (hg : Gl X x) (hm : X.mg x = none) (hv : bootBuiltins x = some u) (r : RelV v u) (hn : x ≠ "__name__" := by decide) (hdb : (x == ("__debug__" : Str)) = false := by decide) : DE X c (.Name x pos) (tIm (.raw v)) :=
  de_c (pe_bltn hg hm hv r hn hdb) fun _ _ => .raw v

/-! ### operations on two values -/
abbrev G2 := M → M → (M → Prop) → Prop
def rOp (K : PySem.W.Frag) (g : G2) : R2 := fun x y H k => ∃ o m1 m2 G, (∀ a l, o a = some l → Mut (H a)) ∧ Vw K o H x m1 ∧ Vw K o H y m2 ∧ g m1 m2 G ∧ ∀ v H' m, Grow H H' → NewM K o H H' v m → G m → k v H'
def w2 (ρ : Env) (r1 r2 : R) (f : M → M → Prop) : Prop := match vw ρ r1, vw ρ r2 with
  | some m1, some m2 => f m1 m2
  | _, _ => False
def tBin (g : G2) (ta tb : TX) : TX := fun ρ Q => ta ρ fun r1 ρ1 => tb ρ1 fun r2 ρ2 => w2 ρ2 r1 r2 fun m1 m2 => g m1 m2 fun m => Q m.res ρ2
theorem tBin_of {K : PySem.W.Frag} {g : G2} {σ : St} {H : Hp} {k : VK} (h : TEo K c (tBin g ta tb) σ H k) : tOp (rOp K g) (TEo K c ta) (TEo K c tb) σ H k := by
  obtain ⟨o, ρ, τ, Q, R0, h, q⟩ := h
  refine ⟨o, ρ, τ, _, R0, h, fun v1 H1 o1 r1 ρ1 τ1 L1 R1 z1 h1 => ?_⟩
  refine ⟨o1, ρ1, τ1, _, R1, h1, fun v2 H2 o2 r2 ρ2 τ2 L2 R2 z2 h2 => ?_⟩
  unfold w2 at h2
  split at h2
  · rename_i m1 m2 e1 e2
    have y1 := R2.vw_ok (z1.mono L2) z2.pre e1
    have y2 := R2.vw_ok z2 List.prefix_rfl e2
    refine ⟨o2, m1, m2, _, R2.mu, y1, y2, h2, fun v H' m g1 nm hm => ?_⟩
    obtain ⟨o', τ', L, R', z⟩ := R2.made (z1.pre.trans z2.pre) g1 nm
    exact q v H' o' _ ρ2 τ' (L1.trans (L2.trans L)) R' z hm
  · exact h2.elim
def OpG (X : Cx) (f : Value → Value → Sem Value) (g : G2) : Prop := OpR X f (rOp X.K g)
theorem opG {f : Value → Value → Sem Value} {g : G2} {r : R2} (h : OpR X f r) (i : ∀ x y H k, rOp X.K g x y H k → r x y H k) : OpG X f g := fun pins s σ H x y v u Q I rx ry q => h pins s σ H x y v u Q I rx ry (i _ _ _ _ q)
theorem de_op {op : Operator} {g : G2} (ho : OpG X (binaryOp op) g) (ha : DE X c a ta) (hb : DE X c b tb) : DE X c (.BinOp a op b pos) (tBin g ta tb) :=
  peImp (pe_op ho ha hb) fun _ _ _ h => tBin_of h
theorem de_cmp {op : CmpOp} {g : G2} (ho : OpG X (compareOp op) g) (ha : DE X c a ta) (hb : DE X c b tb) (hm : behindInMarks op b = false := by first | exact nomark _ | rfl) : DE X c (.Compare a [op] [b] pos) (tBin g ta tb) :=
  peImp (pe_cmpR ho ha hb hm) fun _ _ _ h => tBin_of h
/-- a value that is a bool, as a test -/
def tTst (t : TX) : TQ := fun ρ Q => t ρ fun r ρ1 => match r with
  | .im (.bl b) => Q b ρ1
  | _ => False
theorem tTst_of {K : PySem.W.Frag} {σ : St} {H : Hp} {k : Bool → Hp → Prop} (h : TTo K c (tTst t) σ H k) : tTest (TEo K c t) σ H k := by
  obtain ⟨o, ρ, τ, Q, R0, h, q⟩ := h
  refine ⟨o, ρ, τ, _, R0, h, fun v1 H1 o1 r1 ρ1 τ1 L1 R1 z1 h1 => ?_⟩
  split at h1
  · rename_i b
    obtain ⟨rfl, z⟩ := z1
    cases z
    exact ⟨b, rfl, q b H1 o1 ρ1 L1 R1 h1⟩
  · exact h1.elim
theorem dt_cmp {op : CmpOp} {g : G2} (ho : OpG X (compareOp op) g) (ha : DE X c a ta) (hb : DE X c b tb) (hm : behindInMarks op b = false := by first | exact nomark _ | rfl) : DT X c (.Compare a [op] [b] pos) (tTst (tBin g ta tb)) :=
  ptImp (pt_cmpR ho ha hb hm) fun σ H k h => by
    obtain ⟨o, ρ, τ, Q, R0, h, q⟩ := h
    refine tBin_of ⟨o, ρ, τ, _, R0, h, fun v1 H1 o1 r1 ρ1 τ1 L1 R1 z1 h1 => ?_⟩
    split at h1
    · rename_i b
      obtain ⟨rfl, z⟩ := z1
      cases z
      exact ⟨b, rfl, q b H1 o1 ρ1 L1 R1 h1⟩
    · exact h1.elim
theorem dt_val (h : DE X c e t) (he : ∀ whole, isTrue e X.env whole = (do let v ← whole; standAt e.pos; holding [v] (truthy v)) := by intro _; rfl) : DT X c e (tTst t) := ptImp (pt_val h he) fun _ _ _ h => tTst_of h

/-! ### truth -/
def M.tru : M → Option Bool
  | .im .non => some false
  | .im (.bl b) => some b
  | .im (.int i) => some (i != 0)
  | .im (.tup ds) => some (!ds.isEmpty)
  | .im (.lst ds) => some (!ds.isEmpty)
  | .ls ds => some (!ds.isEmpty)
  | .sq ds => some (!ds.isEmpty)
  | .rd ds => some (!ds.isEmpty)
  | .dk kvs => some (!kvs.isEmpty)
  | _ => none
theorem Dats.empty {K : PySem.W.Frag} {o : Own} {H : Hp} {xs : List V} {ds : List D} (h : Dats K o H xs ds) : ds.isEmpty = xs.isEmpty := by cases h <;> rfl
theorem Vw.tru {K : PySem.W.Frag} {o : Own} {H : Hp} {v : V} {m : M} {b : Bool} (h : Vw K o H v m) (e : m.tru = some b) : TruV K v H b := by
  cases m with
  | im d =>
    cases d with
    | non => cases e; rw [h.non]; rfl
    | bl b => cases e; rw [h.bl]; rfl
    | int b => cases e; rw [h.int]; rfl
    | str b => cases e
    | raw b => cases e
    | tup ds => cases e; obtain ⟨a, xs, rfl, g, q⟩ := h.tup; exact .inr (.inl ⟨xs, g.sq, by rw [q.empty]⟩)
    | lst ds => cases e; obtain ⟨a, xs, rfl, g, q⟩ := h.lst rfl; exact .inl ⟨xs, SqL.of g, by rw [q.empty]⟩
  | ls ds => cases e; obtain ⟨a, xs, rfl, g, q⟩ := h.lq rfl; exact .inl ⟨xs, g, by rw [q.empty]⟩
  | sq ds => cases e; obtain ⟨a, xs, rfl, g, q⟩ := h.lq rfl; exact .inl ⟨xs, g, by rw [q.empty]⟩
  | rd ds => cases e; obtain ⟨a, xs, rfl, g, q⟩ := h.lq rfl; exact .inl ⟨xs, g, by rw [q.empty]⟩
  | dk kvs => cases e; obtain ⟨l, a, ks, rfl, _, g, q⟩ := h; exact .inr (.inr ⟨ks, g, by cases q <;> rfl⟩)
  | dt kvs => cases e
def tTru (t : TX) : TQ := fun ρ Q => t ρ fun r ρ1 => match vw ρ1 r with
  | some m => match m.tru with
    | some b => Q b ρ1
    | none => False
  | none => False
theorem dt_tru (h : DE X c e t) (he : ∀ whole, isTrue e X.env whole = (do let v ← whole; standAt e.pos; holding [v] (truthy v)) := by intro _; rfl) : DT X c e (tTru t) :=
  ptImp (pt_truth h he) fun σ H k h => by
    obtain ⟨o, ρ, τ, Q, R0, h, q⟩ := h
    refine ⟨o, ρ, τ, _, R0, h, fun v1 H1 o1 r1 ρ1 τ1 L1 R1 z1 h1 => ?_⟩
    split at h1
    · rename_i m hm
      split at h1
      · rename_i b hb
        have R2 := R1.drop z1.pre
        exact ⟨b, Vw.tru (R1.vw_ok z1 List.prefix_rfl hm) hb, q b H1 _ ρ1 (L1.trans (dropT_le _)) R2 h1⟩
      · exact h1.elim
    · exact h1.elim

/-! ### and, or, not, if else -/
variable {tq tr : TQ} {rest : List Expr} {tc : TX}
def tAndQ (t u : TQ) : TQ := fun ρ Q => t ρ fun b ρ1 => if b = true then u ρ1 Q else Q false ρ1
def tOrQ (t u : TQ) : TQ := fun ρ Q => t ρ fun b ρ1 => if b = true then Q true ρ1 else u ρ1 Q
def tNotQ (t : TQ) : TQ := fun ρ Q => t ρ fun b ρ1 => Q (!b) ρ1
theorem dw_pt (h : DW X c e tq) : DT X c e tq := PW.pt h
theorem dw_and1 (h : DT X c a tq) : DW X c (.BoolOp .And [a] pos) tq := pw_and1 h
theorem dw_or1 (h : DT X c a tq) : DW X c (.BoolOp .Or [a] pos) tq := pw_or1 h
theorem dw_and (h : DT X c a tq) (h2 : DW X c (.BoolOp .And (b :: rest) pos) tr) : DW X c (.BoolOp .And (a :: b :: rest) pos) (tAndQ tq tr) :=
  pwImp (pw_and h h2) fun σ H k h => by
    obtain ⟨o, ρ, τ, Q, R0, h, q⟩ := h
    refine ⟨o, ρ, τ, _, R0, h, fun b1 H1 o1 ρ1 L1 R1 h1 => ?_⟩
    cases b1 with
    | true => exact ⟨o1, ρ1, τ, _, R1, h1, fun b2 H2 o2 ρ2 L2 R2 h2 => q b2 H2 o2 ρ2 (L1.trans L2) R2 h2⟩
    | false => exact q false H1 o1 ρ1 L1 R1 h1
theorem dw_or (h : DT X c a tq) (h2 : DW X c (.BoolOp .Or (b :: rest) pos) tr) : DW X c (.BoolOp .Or (a :: b :: rest) pos) (tOrQ tq tr) :=
  pwImp (pw_or h h2) fun σ H k h => by
    obtain ⟨o, ρ, τ, Q, R0, h, q⟩ := h
    refine ⟨o, ρ, τ, _, R0, h, fun b1 H1 o1 ρ1 L1 R1 h1 => ?_⟩
    cases b1 with
    | false => exact ⟨o1, ρ1, τ, _, R1, h1, fun b2 H2 o2 ρ2 L2 R2 h2 => q b2 H2 o2 ρ2 (L1.trans L2) R2 h2⟩
    | true => exact q true H1 o1 ρ1 L1 R1 h1
theorem dt_not (h : DT X c a tq) : DT X c (.UnaryOp .Not a pos) (tNotQ tq) :=
  ptImp (pt_not h) fun σ H k h => by
    obtain ⟨o, ρ, τ, Q, R0, h, q⟩ := h
    exact ⟨o, ρ, τ, _, R0, h, fun b1 H1 o1 ρ1 L1 R1 h1 => q _ H1 o1 ρ1 L1 R1 h1⟩
/-- as values: bools but the last -/
def tAndX (t u : TX) : TX := fun ρ Q => tTst t ρ fun b ρ1 => if b = true then u ρ1 Q else Q (.im (.bl false)) ρ1
def tOrX (t u : TX) : TX := fun ρ Q => tTst t ρ fun b ρ1 => if b = true then Q (.im (.bl true)) ρ1 else u ρ1 Q
def tNotX (t : TX) : TX := fun ρ Q => tTst t ρ fun b ρ1 => Q (.im (.bl (!b))) ρ1
theorem de_one {op : BoolOp} (h : DE X c a t) : DE X c (.BoolOp op [a] pos) t := pe_one h
theorem de_and (h : DE X c a t) (h2 : DE X c (.BoolOp .And (b :: rest) pos) tc) : DE X c (.BoolOp .And (a :: b :: rest) pos) (tAndX t tc) :=
  peImp (pe_and h h2) fun σ H k h => by
    obtain ⟨o, ρ, τ, Q, R0, h, q⟩ := h
    refine ⟨o, ρ, τ, _, R0, h, fun v1 H1 o1 r1 ρ1 τ1 L1 R1 z1 h1 => ?_⟩
    split at h1
    · rename_i b1
      obtain ⟨rfl, z⟩ := z1
      cases z
      refine ⟨b1, rfl, ?_⟩
      cases b1 with
      | true => exact ⟨o1, ρ1, _, _, R1, h1, fun v2 H2 o2 r2 ρ2 τ2 L2 R2 z2 h2 => q v2 H2 o2 r2 ρ2 τ2 (L1.trans L2) R2 z2 h2⟩
      | false => exact q _ H1 o1 (.im (.bl false)) ρ1 _ L1 R1 ⟨rfl, .bl false⟩ h1
    · exact h1.elim
theorem de_or (h : DE X c a t) (h2 : DE X c (.BoolOp .Or (b :: rest) pos) tc) : DE X c (.BoolOp .Or (a :: b :: rest) pos) (tOrX t tc) :=
  peImp (pe_or h h2) fun σ H k h => by
    obtain ⟨o, ρ, τ, Q, R0, h, q⟩ := h
    refine ⟨o, ρ, τ, _, R0, h, fun v1 H1 o1 r1 ρ1 τ1 L1 R1 z1 h1 => ?_⟩
    split at h1
    · rename_i b1
      obtain ⟨rfl, z⟩ := z1
      cases z
      refine ⟨b1, rfl, ?_⟩
      cases b1 with
      | false => exact ⟨o1, ρ1, _, _, R1, h1, fun v2 H2 o2 r2 ρ2 τ2 L2 R2 z2 h2 => q v2 H2 o2 r2 ρ2 τ2 (L1.trans L2) R2 z2 h2⟩
      | true => exact q _ H1 o1 (.im (.bl true)) ρ1 _ L1 R1 ⟨rfl, .bl true⟩ h1
    · exact h1.elim
theorem de_not (h : DE X c a t) : DE X c (.UnaryOp .Not a pos) (tNotX t) :=
  peImp (pe_not h) fun σ H k h => by
    obtain ⟨o, ρ, τ, Q, R0, h, q⟩ := h
    refine ⟨o, ρ, τ, _, R0, h, fun v1 H1 o1 r1 ρ1 τ1 L1 R1 z1 h1 => ?_⟩
    split at h1
    · rename_i b1
      obtain ⟨rfl, z⟩ := z1
      cases z
      exact ⟨b1, rfl, q _ H1 o1 (.im (.bl (!b1))) ρ1 _ L1 R1 ⟨rfl, .bl _⟩ h1⟩
    · exact h1.elim
def tIfX (q : TQ) (t u : TX) : TX := fun ρ Q => q ρ fun b ρ1 => if b = true then t ρ1 Q else u ρ1 Q
theorem de_if (hq : DT X c e tq) (ha : DE X c a ta) (hb : DE X c b tb) : DE X c (.IfExp e a b pos) (tIfX tq ta tb) :=
  peImp (pe_ifExp hq ha hb) fun σ H k h => by
    obtain ⟨o, ρ, τ, Q, R0, h, q⟩ := h
    refine ⟨o, ρ, τ, _, R0, h, fun b1 H1 o1 ρ1 L1 R1 h1 => ?_⟩
    cases b1 with
    | true => exact ⟨o1, ρ1, τ, _, R1, h1, fun v2 H2 o2 r2 ρ2 τ2 L2 R2 z2 h2 => q v2 H2 o2 r2 ρ2 τ2 (L1.trans L2) R2 z2 h2⟩
    | false => exact ⟨o1, ρ1, τ, _, R1, h1, fun v2 H2 o2 r2 ρ2 τ2 L2 R2 z2 h2 => q v2 H2 o2 r2 ρ2 τ2 (L1.trans L2) R2 z2 h2⟩

/-! ### argument lists -/
def lNil : TL := fun ρ Q => Q [] ρ
def lCons (t : TX) (u : TL) : TL := fun ρ Q => t ρ fun r ρ1 => u ρ1 fun rs ρ2 => Q (r :: rs) ρ2
theorem da_nil : DA X c [] lNil := paImp pa_nil fun σ H k ⟨o, ρ, τ, Q, R0, h, q⟩ => q [] H o [] ρ τ .refl R0 .nil h
theorem da_cons {u : TL} (ha : DE X c e t) (hr : DA X c es u) (hs : starEach (e :: es) X.env = (false, eval e X.env) :: starEach es X.env := by rfl) : DA X c (e :: es) (lCons t u) :=
  paImp (pa_cons ha hr hs) fun σ H k ⟨o, ρ, τ, Q, R0, h, q⟩ =>
    ⟨o, ρ, τ, _, R0, h, fun v1 H1 o1 r1 ρ1 τ1 L1 R1 z1 h1 => ⟨o1, ρ1, τ1, _, R1, h1, fun vs H2 o2 rs ρ2 τ2 L2 R2 z2 h2 => q _ H2 o2 _ ρ2 τ2 (L1.trans L2) R2 (.cons (z1.mono L2) z2) h2⟩⟩
end
end Y
namespace Y
open PySem PySem.Spec L2

section
variable {K : PySem.W.Frag} {c : Cc} {o o' : Own} {σ : St} {H H' : Hp} {ρ : Env} {τ τ' τ0 τ1 : List (V × M)} {X : Cx}
theorem own_none (mu : ∀ a l, o a = some l → Mut (H a)) {p : Addr} (h : H p = none) : o p = none := by
  cases e : o p with
  | none => rfl
  | some l => have := mu p l e; rw [h] at this; exact this.elim
theorem newTup (mu : ∀ a l, o a = some l → Mut (H a)) {p : Addr} {xs : List V} {ds : List D} (h : H p = none) (d : Dats K o H xs ds) : Dat K o (upd H p (.tup xs)) (.ref p) (.tup ds) :=
  .tup ⟨own_none mu h, upd_same⟩ (d.mono ((Grow.new h).le mu))

theorem qim {k : VK} {G : M → Prop} (q : ∀ v H' m, Grow H H' → NewM K o H H' v m → G m → k v H') {v : V} {d : D} (a : Dat K o H v d) (b : G (.im d)) : k v H := q v H (.im d) .refl a b
/-! ### + -/
def gAdd : G2 := fun m n G => match m, n with
  | .im (.int i), .im (.int j) => G (.im (.int (i + j)))
  | .im (.str x), .im (.str y) => x.length + y.length ≤ sizeLine ∧ G (.im (.str (x ++ y)))
  | .im (.tup a), .im (.tup b) => a.length + b.length ≤ sizeLine ∧ G (.im (.tup (a ++ b)))
  | m, n => match m.lst?, n.lst? with
    | some a, some b => a.length + b.length ≤ sizeLine ∧ G (.ls (a ++ b))
    | _, _ => False
theorem add_ok : OpG X (binaryOp .Add) gAdd := by
  refine opG ((op_add.or op_add_str).or (op_catA.or op_cat)) fun x y H k h => ?_
  obtain ⟨o, m1, m2, G, mu, v1, v2, h, q⟩ := h
  unfold gAdd at h
  split at h
  · rename_i i j
    exact .inl (.inl ⟨i, j, v1.int, v2.int, qim q (.int _) h⟩)
  · rename_i i j
    exact .inl (.inr ⟨i, j, v1.str, v2.str, h.1, qim q (.str _) h.2⟩)
  · rename_i as bs
    obtain ⟨a, xs, rfl, ta, da⟩ := v1.tup
    obtain ⟨b, ys, rfl, tb, db⟩ := v2.tup
    refine .inr (.inl ⟨a, b, xs, ys, rfl, rfl, ta.sq, tb.sq, by rw [da.length, db.length]; exact h.1, fun e => ?_, fun e1 e2 => ?_, fun _ _ p hp => ?_⟩)
    · subst e; cases da
      exact q (.ref b) H (.im (.tup bs)) .refl (.tup tb db) h.2
    · subst e2; cases db
      refine q (.ref a) H (.im (.tup as)) .refl (.tup ta da) (by have := h.2; rwa [List.append_nil] at this)
    · exact q (.ref p) _ (.im (.tup (as ++ bs))) (.new hp) (newTup mu hp (da.append db)) h.2
  · split at h
    · rename_i as bs e1 e2
      obtain ⟨a, xs, rfl, ta, da⟩ := v1.lst e1
      obtain ⟨b, ys, rfl, tb, db⟩ := v2.lst e2
      refine .inr (.inr ⟨a, b, xs, ys, rfl, rfl, ta, tb, by rw [da.length, db.length]; exact h.1, fun p hp => ?_⟩)
      exact q (.ref p) _ (.ls (as ++ bs)) (.new hp) ⟨p, _, rfl, hp, rfl, da.append db⟩ h.2
    · exact h.elim
/-! ### other arithmetic -/
def gII (C : Int → Int → Prop) (f : Int → Int → D) : G2 := fun m n G => match m, n with
  | .im (.int i), .im (.int j) => C i j ∧ G (.im (f i j))
  | _, _ => False
def gI0 (f : Int → Int → D) : G2 := fun m n G => match m, n with
  | .im (.int i), .im (.int j) => G (.im (f i j))
  | _, _ => False
theorem opII {f : Value → Value → Sem Value} {C : Int → Int → Prop} {g : Int → Int → Int} (h : OpR X f (rI C fun i j => .int (g i j))) : OpG X f (gII C fun i j => .int (g i j)) := by
  refine opG h fun x y H k h => ?_
  obtain ⟨o, m1, m2, G, mu, v1, v2, h, q⟩ := h
  unfold gII at h
  split at h
  · rename_i i j
    exact ⟨i, j, v1.int, v2.int, h.1, qim q (.int _) h.2⟩
  · exact h.elim
theorem opI0' {f : Value → Value → Sem Value} {g : Int → Int → Int} (h : OpR X f (rI0 fun i j => .int (g i j))) : OpG X f (gI0 fun i j => .int (g i j)) := by
  refine opG h fun x y H k h => ?_
  obtain ⟨o, m1, m2, G, mu, v1, v2, h, q⟩ := h
  unfold gI0 at h
  split at h
  · rename_i i j
    exact ⟨i, j, v1.int, v2.int, qim q (.int _) h⟩
  · exact h.elim
theorem opIB {f : Value → Value → Sem Value} {g : Int → Int → Bool} (h : OpR X f (rI0 fun i j => .bl (g i j))) : OpG X f (gI0 fun i j => .bl (g i j)) := by
  refine opG h fun x y H k h => ?_
  obtain ⟨o, m1, m2, G, mu, v1, v2, h, q⟩ := h
  unfold gI0 at h
  split at h
  · rename_i i j
    exact ⟨i, j, v1.int, v2.int, qim q (.bl _) h⟩
  · exact h.elim
def gSub : G2 := gI0 fun i j => .int (i - j)
def gMul : G2 := gII CMulW fun i j => .int (i * j)
def gDiv : G2 := gII CDivW fun i j => .int (i / j)
def gMod : G2 := gII (fun _ j => 0 < j) fun i j => .int (i % j)
def gPow : G2 := gII CPow fun i j => .int (i ^ j.toNat)
def gLt : G2 := gI0 fun i j => .bl (decide (i < j))
def gLe : G2 := gI0 fun i j => .bl (decide (i ≤ j))
def gGt : G2 := gI0 fun i j => .bl (decide (j < i))
def gGe : G2 := gI0 fun i j => .bl (decide (j ≤ i))
theorem sub_ok : OpG X (binaryOp .Sub) gSub := opI0' op_sub
theorem mul_ok : OpG X (binaryOp .Mult) gMul := opII op_mulW
theorem div_ok : OpG X (binaryOp .FloorDiv) gDiv := opII op_fdivW
theorem mod_ok : OpG X (binaryOp .Mod) gMod := opII op_mod
theorem pow_ok : OpG X (binaryOp .Pow) gPow := opII op_pow
theorem lt_ok : OpG X (compareOp .Lt) gLt := opIB op_lt
theorem le_ok : OpG X (compareOp .LtE) gLe := opIB op_le
theorem gt_ok : OpG X (compareOp .Gt) gGt := opIB op_gt
theorem ge_ok : OpG X (compareOp .GtE) gGe := opIB op_ge

/-! ### == and != -/
def gEqs (neg : Bool) : G2 := fun m n G => match m, n with
  | .im (.int i), .im (.int j) => G (.im (.bl (neg ^^ decide (i = j))))
  | .im (.str i), .im (.str j) => G (.im (.bl (neg ^^ decide (i = j))))
  | m, n => match m.dat?, n.dat? with
    | some d, some e => D.ok 64 d = true ∧ D.ok 64 e = true ∧ G (.im (.bl (neg ^^ D.eqv d e)))
    | _, _ => False
theorem eq_ok (hu : X.A.units + 64 < cLine) : OpG X (compareOp .Eq) (gEqs false) := by
  refine opG (op_eq.or (op_eqD hu)) fun x y H k h => ?_
  obtain ⟨o, m1, m2, G, mu, v1, v2, h, q⟩ := h
  unfold gEqs at h
  split at h
  · rename_i i j
    refine .inl ?_
    rw [v1.int, v2.int]
    refine ⟨rfl, ?_⟩
    rw [show decide (V.int i = V.int j) = decide (i = j) by rw [dec_int]; exact Bool.beq_eq_decide_eq _ _]
    exact qim q (.bl _) (by simpa using h)
  · rename_i i j
    refine .inl ?_
    rw [v1.str, v2.str]
    refine ⟨rfl, ?_⟩
    rw [show decide (V.str i = V.str j) = decide (i = j) by rw [dec_str]; exact Bool.beq_eq_decide_eq _ _]
    exact qim q (.bl _) (by simpa using h)
  · split at h
    · rename_i d e e1 e2
      refine .inr ⟨d.py, e.py, v1.dp e1 h.1, v2.dp e2 h.2.1, D.ok_shaped h.1, D.ok_shaped h.2.1, ?_⟩
      exact qim q (.bl _) (by have := h.2.2; rwa [Bool.false_xor] at this)
    · exact h.elim
theorem ne_ok (hu : X.A.units + 64 < cLine) : OpG X (compareOp .NotEq) (gEqs true) := by
  refine opG (op_ne.or (op_neD hu)) fun x y H k h => ?_
  obtain ⟨o, m1, m2, G, mu, v1, v2, h, q⟩ := h
  unfold gEqs at h
  split at h
  · rename_i i j
    refine .inl ?_
    rw [v1.int, v2.int]
    refine ⟨rfl, ?_⟩
    rw [show decide (V.int i = V.int j) = decide (i = j) by rw [dec_int]; exact Bool.beq_eq_decide_eq _ _]
    exact qim q (.bl _) (by simpa using h)
  · rename_i i j
    refine .inl ?_
    rw [v1.str, v2.str]
    refine ⟨rfl, ?_⟩
    rw [show decide (V.str i = V.str j) = decide (i = j) by rw [dec_str]; exact Bool.beq_eq_decide_eq _ _]
    exact qim q (.bl _) (by simpa using h)
  · split at h
    · rename_i d e e1 e2
      refine .inr ⟨d.py, e.py, v1.dp e1 h.1, v2.dp e2 h.2.1, D.ok_shaped h.1, D.ok_shaped h.2.1, ?_⟩
      exact qim q (.bl _) (by have := h.2.2; rwa [Bool.true_xor] at this)
    · exact h.elim

/-! ### is None, is True -/
def M.isNon : M → Option Bool
  | .im .non => some true
  | .im (.raw _) => none
  | _ => some false
theorem Vw.isNon {v : V} {m : M} {b : Bool} (h : Vw K o H v m) (e : m.isNon = some b) : decide (v = .non) = b := by
  cases m with
  | im d =>
    cases d with
    | non => cases e; rw [h.non]; rfl
    | bl z => cases e; rw [h.bl]; rfl
    | int z => cases e; rw [h.int]; rfl
    | str z => cases e; rw [h.str]; rfl
    | raw _ => cases e
    | tup ds => cases e; obtain ⟨a, xs, rfl, _⟩ := h.tup; rfl
    | lst ds => cases e; obtain ⟨a, xs, rfl, _⟩ := h.lst rfl; rfl
  | ls ds => cases e; obtain ⟨a, xs, rfl, _⟩ := h.lq rfl; rfl
  | sq ds => cases e; obtain ⟨a, xs, rfl, _⟩ := h.lq rfl; rfl
  | rd ds => cases e; obtain ⟨a, xs, rfl, _⟩ := h.lq rfl; rfl
  | dk kvs => cases e; obtain ⟨l, a, ks, rfl, _⟩ := h; rfl
  | dt kvs => cases e; obtain ⟨l, a, ks, rfl, _⟩ := h; rfl
def gIs (neg : Bool) : G2 := fun m n G => match m, n with
  | .im (.bl i), .im (.bl j) => G (.im (.bl (neg ^^ decide (i = j))))
  | m, .im .non => match m.isNon with
    | some b => G (.im (.bl (neg ^^ b)))
    | none => False
  | _, _ => False
theorem is_ok : OpG X (compareOp .Is) (gIs false) := by
  refine opG (op_isN.or op_isBl) fun x y H k h => ?_
  obtain ⟨o, m1, m2, G, mu, v1, v2, h, q⟩ := h
  unfold gIs at h
  split at h
  · rename_i i j
    exact .inr ⟨i, j, v1.bl, v2.bl, qim q (.bl _) (by rwa [Bool.false_xor] at h)⟩
  · split at h
    · rename_i b e
      refine .inl ⟨v2.non, ?_⟩
      rw [v1.isNon e]
      exact qim q (.bl _) (by rwa [Bool.false_xor] at h)
    · exact h.elim
  · exact h.elim
theorem isnot_ok : OpG X (compareOp .IsNot) (gIs true) := by
  refine opG (op_notN.or op_notBl) fun x y H k h => ?_
  obtain ⟨o, m1, m2, G, mu, v1, v2, h, q⟩ := h
  unfold gIs at h
  split at h
  · rename_i i j
    exact .inr ⟨i, j, v1.bl, v2.bl, qim q (.bl _) (by rwa [Bool.true_xor] at h)⟩
  · split at h
    · rename_i b e
      refine .inl ⟨v2.non, ?_⟩
      rw [v1.isNon e]
      exact qim q (.bl _) (by rwa [Bool.true_xor] at h)
    · exact h.elim
  · exact h.elim

/-! ### dicts: keys -/
def D.key? : D → Option Key
  | .int i => some (.inl i)
  | .str x => some (.inr x)
  | _ => none
def D.keys? : List D → Option (List Key)
  | [] => some []
  | d :: ds => match d.key?, D.keys? ds with
    | some k, some ks => some (k :: ks)
    | _, _ => none
theorem Dat.key {v : V} {d : D} {k : Key} (h : Dat K o H v d) (e : d.key? = some k) : v = kV k := by
  cases d with
  | int i => cases e; cases h; rfl
  | str i => cases e; cases h; rfl
  | _ => cases e
theorem Dats.keys : ∀ {vs : List V} {ds : List D} {ks : List Key}, Dats K o H vs ds → D.keys? ds = some ks → vs = ks.map kV
  | _, _, _, .nil, e => by simp [D.keys?] at e; subst e; rfl
  | _, _, _, .cons a r, e => by
    unfold D.keys? at e
    split at e
    · rename_i k ks e1 e2
      cases e
      rw [a.key e1, Dats.keys r e2]; rfl
    · cases e
section
variable {κ : Type} [DecidableEq κ]
def getK (kvs : List (κ × D)) (k : κ) : Option D := (kvs.find? fun kv => decide (kv.1 = k)).map (·.2)
def putD (kvs : List (κ × D)) (k : κ) (d : D) : List (κ × D) := if (kvs.any fun kv => decide (kv.1 = k)) = true then kvs.map (fun kv => if kv.1 = k then (kv.1, d) else kv) else kvs ++ [(k, d)]
def RelD (K : PySem.W.Frag) (o : Own) (H : Hp) : Option V → Option D → Prop
  | some v, some d => Dat K o H v d
  | none, none => True
  | _, _ => False
theorem Kvs.val {ks : List (κ × V)} {kvs : List (κ × D)} (h : Kvs K o H ks kvs) (k : κ) : RelD K o H (valV ks k) (getK kvs k) := by
  unfold Kvs at h
  induction h with
  | nil => exact trivial
  | @cons p q ps qs a t ih =>
    by_cases e : p.1 = k
    · have e2 : q.1 = k := a.1 ▸ e
      simp only [valV, getK, List.find?_cons, e, e2, decide_true, Option.map_some]
      exact a.2
    · have e2 : ¬ q.1 = k := a.1 ▸ e
      simp only [valV, getK, List.find?_cons, e, e2, decide_false] at ih ⊢
      exact ih
theorem Kvs.any {ks : List (κ × V)} {kvs : List (κ × D)} (h : Kvs K o H ks kvs) (k : κ) : (ks.any fun kv => decide (kv.1 = k)) = kvs.any fun kv => decide (kv.1 = k) := by
  unfold Kvs at h
  induction h with
  | nil => rfl
  | @cons p q ps qs a t ih => rw [List.any_cons, List.any_cons, ih, a.1]
theorem Kvs.append {ks ls : List (κ × V)} {kvs lvs : List (κ × D)} (h : Kvs K o H ks kvs) (g : Kvs K o H ls lvs) : Kvs K o H (ks ++ ls) (kvs ++ lvs) := by
  unfold Kvs at h
  induction h with
  | nil => exact g
  | cons a t ih => exact .cons a ih
theorem Kvs.put {ks : List (κ × V)} {kvs : List (κ × D)} (h : Kvs K o H ks kvs) (k : κ) {v : V} {d : D} (r : Dat K o H v d) : Kvs K o H (putK ks k v) (putD kvs k d) := by
  unfold putK putD
  rw [h.any k]
  split
  · rename_i hh
    clear hh
    unfold Kvs at h
    induction h with
    | nil => exact .nil
    | @cons p q ps qs a t ih =>
      refine .cons ?_ ih
      show (if p.1 = k then (p.1, v) else p).1 = (if q.1 = k then (q.1, d) else q).1 ∧ Dat K o H (if p.1 = k then (p.1, v) else p).2 (if q.1 = k then (q.1, d) else q).2
      rw [← a.1]
      by_cases e : p.1 = k
      · rw [if_pos e, if_pos e]; exact ⟨rfl, r⟩
      · rw [if_neg e, if_neg e]; exact a
  · exact h.append (.cons ⟨rfl, r⟩ .nil)
theorem Kvs.length {ks : List (κ × V)} {kvs : List (κ × D)} (h : Kvs K o H ks kvs) : ks.length = kvs.length := Paired.length h
end
/-- a dict at a key: what it holds -/
def dGet (m : M) (d : D) : Option (Option D) := match m, d with
  | .dk kvs, d => match d.key? with
    | some k => some (getK kvs k)
    | none => none
  | .dt kvs, .tup ds => match D.keys? ds with
    | some k => some (getK kvs k)
    | none => none
  | _, _ => none
theorem dGet_ok {x y : V} {m : M} {d : D} {r : Option D} (h : Vw K o H x m) (g : Dat K o H y d) (e : dGet m d = some r) : ∃ a w, x = .ref a ∧ DGet H a y w ∧ RelD K o H w r := by
  unfold dGet at e
  split at e
  · rename_i kvs
    split at e
    · rename_i k ek
      cases e
      obtain ⟨l, a, ks, rfl, _, ha, q⟩ := h
      rw [g.key ek]
      exact ⟨a, _, rfl, DGet.k ha, q.val k⟩
    · cases e
  · rename_i kvs ds
    split at e
    · rename_i k ek
      cases e
      obtain ⟨l, a, ks, rfl, _, ha, q⟩ := h
      cases g with
      | tup t r =>
        have z := r.keys ek
        subst z
        exact ⟨a, _, rfl, DGet.t ha t.2, q.val k⟩
    · cases e
  · cases e
end

/-! ### in -/
def gIns (neg : Bool) : G2 := fun m n G => match n with
  | .dk kvs => match m with
    | .im d => match dGet (.dk kvs) d with
      | some r => G (.im (.bl (neg ^^ r.isSome)))
      | none => False
    | _ => False
  | .dt kvs => match m with
    | .im d => match dGet (.dt kvs) d with
      | some r => G (.im (.bl (neg ^^ r.isSome)))
      | none => False
    | _ => False
  | .im (.str x) => match m with
    | .im (.str y) => G (.im (.bl (neg ^^ !(Builtin.Str.occurrences x y 0 x.length 1).isEmpty)))
    | _ => False
  | .im (.tup ds) => match m with
    | .im d => D.ok 64 d = true ∧ D.oks 63 ds = true ∧ G (.im (.bl (neg ^^ ds.any fun z => z.eqv d)))
    | _ => False
  | n => match n.lq? with
    | some ds => match m with
      | .im d => D.ok 64 d = true ∧ D.oks 63 ds = true ∧ G (.im (.bl (neg ^^ ds.any fun z => z.eqv d)))
      | _ => False
    | none => False
section
variable {X : Cx}
def rInT (K : PySem.W.Frag) (neg : Bool) : R2 := fun x y H Q => ∃ d ds, Dp K H x d ∧ Dp K H y (.tuple ds) ∧ SeqAt.shaped d = true ∧ SeqAt.shaped (.tuple ds) = true ∧ Q (.bl (neg ^^ ds.any fun z => PyData.eqv z d)) H
theorem op_inT (hu : X.A.units + 65 < cLine) : OpR X (compareOp .In) (rInT X.K false) := fun _ _ _ H _ _ _ _ _ I rx ry ⟨d, ds, hd, he, sd, se, q⟩ =>
  let ⟨_, e1⟩ := Dp.reads I (.tuple ds) _ _ he ry
  let ⟨_, e2⟩ := Dp.reads I d _ _ hd rx
  SeqAt.in_tuple_reads e1 e2 (SeqAt.canLay_of_shaped se) (SeqAt.canLay_of_shaped sd) (PyProof.Rows.room_in_shaped sd hu) ⟨.bl _, H, I, rfl, by rwa [Bool.false_xor] at q⟩
theorem op_notInT (hu : X.A.units + 65 < cLine) : OpR X (compareOp .NotIn) (rInT X.K true) := fun _ _ _ H _ _ _ _ _ I rx ry ⟨d, ds, hd, he, sd, se, q⟩ =>
  let ⟨_, e1⟩ := Dp.reads I (.tuple ds) _ _ he ry
  let ⟨_, e2⟩ := Dp.reads I d _ _ hd rx
  SeqAt.notIn_tuple_reads e1 e2 (SeqAt.canLay_of_shaped se) (SeqAt.canLay_of_shaped sd) (PyProof.Rows.room_in_shaped sd hu) ⟨.bl _, H, I, rfl, by rwa [Bool.true_xor] at q⟩
def rDin (neg : Bool) : R2 := fun y x H Q => ∃ a w, x = .ref a ∧ DGet H a y w ∧ Q (.bl (neg ^^ w.isSome)) H
theorem op_din (hu : X.A.units + 1 < cLine) : OpR X (compareOp .In) (rDin false) := by
  rintro pins s σ H x _ v _ Q I rx ry ⟨a, w, rfl, g, q⟩
  obtain rfl := ry
  exact d_in hu I g rx fun s3 I3 => ⟨.bl w.isSome, H, I3, rfl, by rwa [Bool.false_xor] at q⟩
theorem op_dnotin (hu : X.A.units + 1 < cLine) : OpR X (compareOp .NotIn) (rDin true) := by
  rintro pins s σ H x _ v _ Q I rx ry ⟨a, w, rfl, g, q⟩
  obtain rfl := ry
  exact d_notIn hu I g rx fun s3 I3 => ⟨.bl (!w.isSome), H, I3, rfl, by rwa [Bool.true_xor] at q⟩
theorem any_eqv {d : D} : ∀ ds : List D, ((D.pys ds).any fun z => PyData.eqv z d.py) = ds.any fun z => z.eqv d
  | [] => rfl
  | e :: ds => by simp only [D.pys, List.any_cons, D.eqv]; rw [any_eqv ds]; rfl
theorem RelD.some_eq {K : PySem.W.Frag} {o : Own} {H : Hp} {w : Option V} {r : Option D} (h : RelD K o H w r) : w.isSome = r.isSome := by
  cases w <;> cases r <;> first | rfl | exact h.elim
theorem ins_ok {neg : Bool} {op : CmpOp} (h1 : OpR X (compareOp op) (rDin neg)) (h2 : OpR X (compareOp op) (fun x y H Q => ∃ i j, x = .str i ∧ y = .str j ∧ Q (.bl (neg ^^ !(Builtin.Str.occurrences j i 0 j.length 1).isEmpty)) H))
    (h3 : OpR X (compareOp op) (rInT X.K neg)) (h4 : OpR X (compareOp op) (fun x y H Q => ∃ d ds, Dp X.K H x d ∧ Dp X.K H y (.list ds) ∧ SeqAt.shaped d = true ∧ SeqAt.shaped (.list ds) = true ∧ Q (.bl (neg ^^ ds.any fun z => PyData.eqv z d)) H)) :
    OpG X (compareOp op) (gIns neg) := by
  refine opG ((h1.or h2).or (h3.or h4)) fun x y H k h => ?_
  obtain ⟨o, m1, m2, G, mu, v1, v2, h, q⟩ := h
  unfold gIns at h
  split at h
  · split at h
    · split at h
      · rename_i r e
        obtain ⟨l, g⟩ := v1
        obtain ⟨a, w, rfl, z, rd⟩ := dGet_ok v2 g e
        refine .inl (.inl ⟨a, w, rfl, z, ?_⟩)
        rw [rd.some_eq]
        exact qim q (.bl _) h
      · exact h.elim
    · exact h.elim
  · split at h
    · split at h
      · rename_i r e
        obtain ⟨l, g⟩ := v1
        obtain ⟨a, w, rfl, z, rd⟩ := dGet_ok v2 g e
        refine .inl (.inl ⟨a, w, rfl, z, ?_⟩)
        rw [rd.some_eq]
        exact qim q (.bl _) h
      · exact h.elim
    · exact h.elim
  · split at h
    · rename_i x' y'
      exact .inl (.inr ⟨_, _, v1.str, v2.str, qim q (.bl _) h⟩)
    · exact h.elim
  · rename_i ds
    split at h
    · rename_i d
      obtain ⟨h1, h2, h⟩ := h
      have e2 : D.ok 64 (.tup ds) = true := by simp only [D.ok]; exact h2
      have p2 := v2.dp (d := .tup ds) rfl e2
      simp only [D.py] at p2
      refine .inr (.inl ⟨d.py, D.pys ds, v1.dp rfl h1, p2, D.ok_shaped h1, by have := D.ok_shaped e2; simpa only [D.py] using this, ?_⟩)
      rw [any_eqv]
      exact qim q (.bl _) h
    · exact h.elim
  · split at h
    · rename_i ds e
      split at h
      · rename_i d
        obtain ⟨h1, h2, h⟩ := h
        have e2 : D.ok 64 (.lst ds) = true := by simp only [D.ok]; exact h2
        obtain ⟨a, xs, rfl, g, r⟩ := v2.lq e
        have p2 : Dp X.K H (.ref a) (D.lst ds).py := by simp only [D.py]; exact .lst g (r.dp h2)
        simp only [D.py] at p2
        refine .inr (.inr ⟨d.py, D.pys ds, v1.dp rfl h1, p2, D.ok_shaped h1, by have := D.ok_shaped e2; simpa only [D.py] using this, ?_⟩)
        rw [any_eqv]
        exact qim q (.bl _) h
      · exact h.elim
    · exact h.elim
theorem in_ok (hu : X.A.units + 65 < cLine) : OpG X (compareOp .In) (gIns false) := by
  refine ins_ok (op_din (by omega)) ?_ (op_inT hu) ?_
  · intro pins s σ H x y v u Q I rx ry ⟨i, j, a, b, q⟩
    exact op_in_str pins s σ H x y v u Q I rx ry ⟨i, j, a, b, by rwa [Bool.false_xor] at q⟩
  · intro pins s σ H x y v u Q I rx ry ⟨i, j, a, b, c, d, q⟩
    exact op_inD hu pins s σ H x y v u Q I rx ry ⟨i, j, a, b, c, d, by rwa [Bool.false_xor] at q⟩
theorem notin_ok (hu : X.A.units + 65 < cLine) : OpG X (compareOp .NotIn) (gIns true) := by
  refine ins_ok (op_dnotin (by omega)) ?_ (op_notInT hu) ?_
  · intro pins s σ H x y v u Q I rx ry ⟨i, j, a, b, q⟩
    exact op_notIn_str pins s σ H x y v u Q I rx ry ⟨i, j, a, b, by rwa [Bool.true_xor] at q⟩
  · intro pins s σ H x y v u Q I rx ry ⟨i, j, a, b, c, d, q⟩
    exact op_notInD hu pins s σ H x y v u Q I rx ry ⟨i, j, a, b, c, d, by rwa [Bool.true_xor] at q⟩
end
end Y
namespace Y
open PySem PySem.Spec L2

section
variable {K : PySem.W.Frag} {c : Cc} {o o' : Own} {σ : St} {H H' : Hp} {ρ ρ' : Env} {τ τ' τ0 τ1 : List (V × M)} {X : Cx} {e a b : Expr} {es : List Expr} {pos : Pos} {t ta tb : TX}
/-! ### what is put into a tuple or a list becomes data -/
def froz : Env → List R → Option (List D × Env)
  | ρ, [] => some ([], ρ)
  | ρ, .im d :: rs => match froz ρ rs with
    | some (ds, ρ') => some (d :: ds, ρ')
    | none => none
  | ρ, .tm (.ls es) :: rs => match froz ρ rs with
    | some (ds, ρ') => some (.lst es :: ds, ρ')
    | none => none
  | ρ, .sl i :: rs => match ρ[i]? with
    | some s => match s.m? with
      | some (.ls es) => match froz (ρ.set i .no) rs with
        | some (ds, ρ') => some (.lst es :: ds, ρ')
        | none => none
      | _ => none
    | none => none
  | _, _ => none
/-- an item once the temporaries are let go -/
def ElR (K : PySem.W.Frag) (o : Own) (H : Hp) (σ : St) (v : V) : R → Prop
  | .im d => Dat K o H v d
  | .tm (.ls es) => Dat K o H v (.lst es)
  | .tm _ => True
  | .sl i => σ[i]? = some (some v)
theorem ElR.mono (L : Le o H o' H') {v : V} : ∀ {r : R}, ElR K o H σ v r → ElR K o' H' σ v r
  | .im _, h => Dat.mono L h
  | .tm (.ls _), h => Dat.mono L h
  | .tm (.im _), _ => trivial
  | .tm (.sq _), _ => trivial
  | .tm (.rd _), _ => trivial
  | .tm (.dk _), _ => trivial
  | .tm (.dt _), _ => trivial
  | .sl _, h => h
theorem RelRs.els {ρ0 : Env} {base : Nat} : ∀ {vs rs τ τ1}, RelRs K o H σ vs rs τ τ1 → base ≤ τ.length → (∀ j v m, τ1[j]? = some (v, m) → IsM K o H (.t j) v m) → Paired (ElR K (dropT base o) H σ) vs rs
  | _, _, _, _, .nil, _, _ => .nil
  | _, _, _, _, .cons (v := v) (r := r) (τ := τ) (τ1 := τ1) a t, hb, h => by
    have hb2 : base ≤ τ1.length := Nat.le_trans hb a.pre.length_le
    refine .cons ?_ (RelRs.els (ρ0 := ρ0) t hb2 h)
    cases r with
    | im d => exact a.2.mono (dropT_le _)
    | sl i => exact a.2
    | tm m =>
      have e : τ1 = τ ++ [(v, m)] := a
      obtain ⟨w, hw⟩ := t.pre
      have q : IsM K o H (.t τ.length) v m := h τ.length v m (by rw [← hw, e]; simp)
      cases m with
      | ls ds =>
        obtain ⟨ad, xs, rfl, ho, hH, dd⟩ := q
        refine Dat.lst ?_ hH (dd.mono (dropT_le _))
        unfold dropT
        rw [ho]
        show (if τ.length < base then _ else none) = none
        rw [if_neg (by omega)]
      | im _ => trivial
      | sq _ => trivial
      | rd _ => trivial
      | dk _ => trivial
      | dt _ => trivial
theorem SlOk.ofS {i : Nat} {s : Sl} {es : List D} (h : SlOk K c o σ H i s) (e : s.m? = some (.ls es)) : ∃ v, σ[i]? = some (some v) ∧ IsM K o H (.s i) v (.ls es) := by
  cases s with
  | no => cases e
  | lo z => cases e; obtain ⟨v, a, q⟩ := h; exact ⟨v, a, q⟩
  | pa z => cases e; obtain ⟨v, a, _, q⟩ := h; exact ⟨v, a, q⟩
  | hd p v z =>
    cases z with
    | ls ds => cases e
    | _ => cases e
/-- a slot's object is let go -/
def unS (i : Nat) (o : Own) : Own := fun a => if o a = some (.s i) then none else o a
theorem unS_le (i : Nat) : Le o H (unS i o) H := ⟨fun b u e f => ⟨by unfold unS; rw [e]; simp, f⟩, fun b e => ⟨by unfold unS; rw [e]; simp, rfl⟩⟩
theorem Rep.unslot (R0 : Rep K c o σ H ρ τ) (i : Nat) : Rep K c (unS i o) σ H (ρ.set i .no) τ := by
  refine ⟨fun j s e => ?_, fun j v m e => ⟨(R0.tm j v m e).1.mono (unS_le i) fun a q => ⟨by unfold unS; rw [q]; simp, rfl⟩, (R0.tm j v m e).2⟩, fun a l e => ?_, R0.le.trans (unS_le i), by rw [List.length_set]; exact R0.ln⟩
  · by_cases hj : i = j
    · subst hj
      by_cases hl : i < ρ.length
      · rw [List.getElem?_set_self hl] at e; cases e; exact trivial
      · rw [List.getElem?_eq_none (by simpa using hl)] at e; cases e
    · rw [List.getElem?_set_ne hj] at e
      refine (R0.sl j s e).mono (unS_le i) (fun a q => ⟨?_, rfl⟩) fun a q => ⟨by unfold unS; rw [q]; simp, rfl⟩
      unfold unS; rw [q]
      rw [if_neg (by intro z; injection z with z; injection z with z; exact hj z.symm)]
  · unfold unS at e
    split at e
    · cases e
    · exact R0.mu a l e
theorem froz_ok : ∀ {vs : List V} {rs : List R} {o : Own} {ρ ρ' : Env} {ds : List D}, Rep K c o σ H ρ τ → Paired (ElR K o H σ) vs rs → froz ρ rs = some (ds, ρ') →
    ∃ o', Le o H o' H ∧ Rep K c o' σ H ρ' τ ∧ Dats K o' H vs ds
  | _, _, o, ρ, _, _, R0, .nil, e => by simp [froz] at e; obtain ⟨rfl, rfl⟩ := e; exact ⟨o, .refl, R0, .nil⟩
  | _, r :: rs, o, ρ, _, _, R0, .cons a t, e => by
    unfold froz at e
    split at e
    · rename_i hh; cases hh
    · rename_i ρ0 d rs' hh
      cases hh
      split at e
      · rename_i ds' ρ1 e1
        cases e
        obtain ⟨o', L, R1, dd⟩ := froz_ok R0 t e1
        exact ⟨o', L, R1, .cons (Dat.mono L a) dd⟩
      · cases e
    · rename_i ρ0 es' rs' hh
      cases hh
      split at e
      · rename_i ds' ρ1 e1
        cases e
        obtain ⟨o', L, R1, dd⟩ := froz_ok R0 t e1
        exact ⟨o', L, R1, .cons (Dat.mono L (show Dat K o H _ (.lst es') from a)) dd⟩
      · cases e
    · rename_i ρ0 i rs' hh
      cases hh
      split at e
      · rename_i s hs
        split at e
        · rename_i es' hm
          split at e
          · rename_i ds' ρ1 e1
            cases e
            obtain ⟨v, hv, z⟩ := (R0.sl i s hs).ofS hm
            have hv2 : σ[i]? = some (some _) := a
            rw [hv2] at hv; cases hv
            have R1 := R0.unslot i
            have L1 : Le o H (unS i o) H := unS_le i
            obtain ⟨o', L, R2, dd⟩ := froz_ok R1 (Paired.mapP t fun _ _ q => q.mono L1) e1
            obtain ⟨ad, xs, rfl, ho, hH, dz⟩ := z
            refine ⟨o', L1.trans L, R2, .cons ?_ dd⟩
            refine Dat.mono L (.lst ?_ hH (dz.mono L1))
            unfold unS
            rw [ho]; simp
          · cases e
        · cases e
      · cases e
    · cases e
def tFrz (ta : TL) (f : List D → Env → Prop) : Env → Prop := fun ρ => ta ρ fun rs ρ1 => match froz ρ1 rs with
  | some (ds, ρ2) => f ds ρ2
  | none => False
def tTp (ta : TL) : TX := fun ρ Q => tFrz ta (fun ds ρ2 => ds.length ≤ sizeLine ∧ Q (.im (.tup ds)) ρ2) ρ
def tLs (ta : TL) : TX := fun ρ Q => tFrz ta (fun ds ρ2 => ds.length ≤ sizeLine ∧ Q (.tm (.ls ds)) ρ2) ρ
theorem tFrz_of {ta : TL} {f : List D → Env → Prop} {k : List V → Hp → Prop} (R0 : Rep K c o σ H ρ τ) (h : tFrz ta f ρ)
    (q : ∀ vs H' o' ds ρ', Le o H o' H' → Rep K c o' σ H' ρ' τ → Dats K o' H' vs ds → f ds ρ' → k vs H') : TAo K c ta σ H k := by
  refine ⟨o, ρ, τ, _, R0, h, fun vs H1 o1 rs ρ1 τ1 L1 R1 z1 h1 => ?_⟩
  split at h1
  · rename_i ds ρ2 e
    have R2 := R1.drop z1.pre
    have els := z1.els (ρ0 := ρ1) (base := τ.length) (Nat.le_refl _) (fun j v m e => (R1.tm j v m e).1)
    obtain ⟨o', L, R3, dd⟩ := froz_ok R2 els e
    exact q vs H1 o' ds ρ2 (L1.trans ((dropT_le _).trans L)) R3 dd h1
  · exact h1.elim
theorem de_tup {x1} {ta : TL} (h : DA X c es ta) : DE X c (.Tuple es x1 pos) (tTp ta) := peImp (pe_tup h) fun σ H k h => by
  obtain ⟨o, ρ, τ, Q, R0, h, q⟩ := h
  refine tFrz_of R0 h fun vs H1 o1 ds ρ1 L1 R1 dd h1 => ?_
  refine ⟨by rw [dd.length]; exact h1.1, fun p hp => ?_⟩
  exact q _ _ o1 (.im (.tup ds)) ρ1 τ (L1.trans ((Grow.new hp).le R1.mu)) (R1.grow (.new hp)) ⟨rfl, newTup R1.mu hp dd⟩ h1.2
theorem de_lst {ta : TL} (h : DA X c es ta) : DE X c (.List es pos) (tLs ta) := peImp (pe_lst h) fun σ H k h => by
  obtain ⟨o, ρ, τ, Q, R0, h, q⟩ := h
  refine tFrz_of R0 h fun vs H1 o1 ds ρ1 L1 R1 dd h1 => ?_
  refine ⟨by rw [dd.length]; exact h1.1, fun p hp => ?_⟩
  obtain ⟨o', τ', L, R', z⟩ := R1.made (m := .ls ds) List.prefix_rfl (.new hp) ⟨p, vs, rfl, hp, rfl, dd⟩
  exact q _ _ o' _ ρ1 τ' (L1.trans L) R' z h1.2

/-! ### subscripts -/
def atD {α : Type} (xs : List α) (i : Int) : Option α := atI xs i
theorem atI_D {vs : List V} {ds : List D} {i : Int} {d : D} (h : Dats K o H vs ds) (e : atI ds i = some d) : ∃ v, atI vs i = some v ∧ Dat K o H v d := by
  unfold atI at e ⊢
  rw [h.length]
  cases q : ixN ds.length i with
  | none => rw [q] at e; cases e
  | some j => rw [q] at e; exact h.get e
def gIx : G2 := fun m n G => match m, n with
  | .dk kvs, .im d => match dGet (.dk kvs) d with
    | some (some r) => G (.im r)
    | _ => False
  | .dt kvs, .im d => match dGet (.dt kvs) d with
    | some (some r) => G (.im r)
    | _ => False
  | .im (.tup ds), .im (.int i) => match atI ds i with
    | some d => G (.im d)
    | none => False
  | .im (.str x), .im (.int i) => x.length ≤ sizeLine ∧ match atI x.cps.toList i with
    | some ch => G (.im (.str ⟨#[ch]⟩))
    | none => False
  | m, .im (.int i) => match m.lq? with
    | some ds => match atI ds i with
      | some d => G (.im d)
      | none => False
    | none => False
  | _, _ => False
def rDgt : R2 := fun x y H Q => ∃ a v, x = .ref a ∧ DGet H a y (some v) ∧ Q v H
theorem ix_dict (hu : X.A.units + 1 < cLine) : IxR X rDgt := by
  rintro value slice pins s σ H _ y _ u Q I rx ry ⟨a, w, rfl, g, q⟩ hs
  obtain rfl := rx
  exact PyProof.Rows.tail_any (dict_typeIs I g) PySem.F.slot_dict_getitem.lookup (d_getItem hu I g ry fun w' s3 I3 rw' => ⟨w, H, I3, rw', q⟩) hs
theorem RelD.get {w : Option V} {d : D} (h : RelD K o H w (some d)) : ∃ v, w = some v ∧ Dat K o H v d := by
  cases w with
  | none => exact h.elim
  | some v => exact ⟨v, rfl, h⟩
theorem ix_ok (hu : X.A.units + 1 < cLine) : IxR X (rOp X.K gIx) := by
  have B := (ix_dict hu).or (ix_list.or (ix_tup.or ix_str))
  refine fun value slice pins s σ H x y v u Q I rx ry h hs => B value slice pins s σ H x y v u Q I rx ry ?_ hs
  obtain ⟨o, m1, m2, G, mu, v1, v2, h, q⟩ := h
  unfold gIx at h
  split at h
  · split at h
    · rename_i r e
      obtain ⟨l, g⟩ := v2
      obtain ⟨a, w, rfl, z, rd⟩ := dGet_ok v1 g e
      obtain ⟨w', rfl, dw⟩ := rd.get
      exact .inl ⟨a, w', rfl, z, qim q dw h⟩
    · exact h.elim
  · split at h
    · rename_i r e
      obtain ⟨l, g⟩ := v2
      obtain ⟨a, w, rfl, z, rd⟩ := dGet_ok v1 g e
      obtain ⟨w', rfl, dw⟩ := rd.get
      exact .inl ⟨a, w', rfl, z, qim q dw h⟩
    · exact h.elim
  · split at h
    · rename_i d e
      obtain ⟨a, xs, rfl, ht, dd⟩ := v1.tup
      obtain ⟨w, ew, dw⟩ := atI_D dd e
      exact .inr (.inr (.inl ⟨a, xs, _, w, rfl, v2.int, ht.sq, ew, qim q dw h⟩))
    · exact h.elim
  · obtain ⟨h0, h⟩ := h
    split at h
    · rename_i d e
      exact .inr (.inr (.inr ⟨_, _, _, v1.str, v2.int, h0, e, qim q (.str _) h⟩))
    · exact h.elim
  · split at h
    · rename_i ds el
      split at h
      · rename_i d e
        obtain ⟨a, xs, rfl, ht, dd⟩ := v1.lq el
        obtain ⟨w, ew, dw⟩ := atI_D dd e
        exact .inr (.inl ⟨a, xs, _, w, rfl, v2.int, ht, ew, qim q dw h⟩)
      · exact h.elim
    · exact h.elim
  · exact h.elim
theorem de_ix (hu : X.A.units + 1 < cLine) (ha : DE X c a ta) (hb : DE X c b tb) (hs : PlainIx b := by intro _ _; rfl) : DE X c (.Subscript a b pos) (tBin gIx ta tb) :=
  peImp (pe_ix (ix_ok hu) ha hb hs) fun _ _ _ h => tBin_of h

/-! ### slices -/
abbrev TP' := Env → (Option Int → Env → Prop) → Prop
def TOo (K : PySem.W.Frag) (c : Cc) (t : TP') : TO := fun σ H k => ∃ o ρ τ Q, Rep K c o σ H ρ τ ∧ t ρ Q ∧ ∀ i H' o' ρ', Le o H o' H' → Rep K c o' σ H' ρ' τ → Q i ρ' → k i H'
def DO (X : Cx) (c : Cc) (e : Option Expr) (t : TP') : Prop := PO X e (TOo X.K c t)
theorem poImp {e : Option Expr} {t t' : TO} (h : PO X e t) (f : ∀ σ H k, t' σ H k → t σ H k) : PO X e t' := ⟨fun pins s σ H Q I q => h.run pins s σ H Q I (f _ _ _ q)⟩
def pNo : TP' := fun ρ Q => Q none ρ
def pSo (t : TX) : TP' := fun ρ Q => t ρ fun r ρ1 => match r with
  | .im (.int i) => Q (some i) ρ1
  | _ => False
theorem do_no : DO X c none pNo := poImp po_none fun σ H k ⟨o, ρ, τ, Q, R0, h, q⟩ => q none H o ρ .refl R0 h
theorem do_so (h : DE X c e t) : DO X c (some e) (pSo t) := poImp (po_some h) fun σ H k h => by
  obtain ⟨o, ρ, τ, Q, R0, h, q⟩ := h
  refine ⟨o, ρ, τ, _, R0, h, fun v1 H1 o1 r1 ρ1 τ1 L1 R1 z1 h1 => ?_⟩
  split at h1
  · obtain ⟨rfl, z⟩ := z1
    cases z
    exact ⟨_, rfl, q _ H1 o1 ρ1 L1 R1 h1⟩
  · exact h1.elim
def cutD {α : Type} (xs : List α) (lo hi : Option Int) : List α := (xs.drop (HT.sIx xs.length 0 lo)).take (HT.sIx xs.length xs.length hi - HT.sIx xs.length 0 lo)
theorem Dats.cut {vs : List V} {ds : List D} (h : Dats K o H vs ds) (lo hi : Option Int) : Dats K o H (cutV vs lo hi) (cutD ds lo hi) := by
  unfold cutV cutD
  rw [h.length]
  exact (h.drop _).take _
abbrev G3 := M → Option Int → Option Int → (M → Prop) → Prop
def gSl : G3 := fun m lo hi G => match m with
  | .im (.tup ds) => G (.im (.tup (cutD ds lo hi)))
  | .im (.str x) => x.length ≤ sizeLine ∧ G (.im (.str (Txt.slice x lo hi)))
  | m => match m.lq? with
    | some ds => G (.ls (cutD ds lo hi))
    | none => False
def rSlO (K : PySem.W.Frag) (g : G3) : V → Option Int → Option Int → Hp → VK → Prop := fun x lo hi H k => ∃ o m G, (∀ a l, o a = some l → Mut (H a)) ∧ Vw K o H x m ∧ g m lo hi G ∧ ∀ v H' m', Grow H H' → NewM K o H H' v m' → G m' → k v H'
theorem cut_whole {α : Type} {xs : List α} {lo hi : Option Int} (h : HT.sIx xs.length 0 lo = 0 ∧ HT.sIx xs.length xs.length hi = xs.length) : cutD xs lo hi = xs := by
  unfold cutD
  rw [h.1, h.2]
  simp
theorem sl_ok : SlR X (rSlO X.K gSl) := by
  have B := (sl_tupA (X := X)).or (sl_list.or C8.sl_txt)
  intro pins s σ H x v vl vu lo hi sl Q I rx hs pl pu h
  refine B pins s σ H x v vl vu lo hi sl Q I rx hs pl pu ?_
  obtain ⟨o, m, G, mu, v1, h, q⟩ := h
  unfold gSl at h
  split at h
  · rename_i ds
    obtain ⟨a, xs, rfl, ht, dd⟩ := v1.tup
    refine .inl ⟨a, xs, rfl, ht.sq, fun w => ?_, fun _ p hp => ?_⟩
    · refine qim q (d := .tup ds) (.tup ht dd) ?_
      rw [dd.length] at w
      rwa [cut_whole w] at h
    · exact q _ _ (.im (.tup (cutD ds lo hi))) (.new hp) (newTup mu hp (dd.cut lo hi)) h
  · exact .inr (.inr ⟨_, v1.str, h.1, qim q (.str _) h.2⟩)
  · split at h
    · rename_i ds e
      obtain ⟨a, xs, rfl, ht, dd⟩ := v1.lq e
      exact .inr (.inl ⟨a, xs, rfl, ht, fun p hp => q _ _ (.ls (cutD ds lo hi)) (.new hp) ⟨p, _, rfl, hp, rfl, dd.cut lo hi⟩ h⟩)
    · exact h.elim
def tSlc (t : TX) (tl th : TP') : TX := fun ρ Q => t ρ fun r ρ1 => tl ρ1 fun lo ρ2 => th ρ2 fun hi ρ3 => match vw ρ3 r with
  | some m => gSl m lo hi fun m' => Q m'.res ρ3
  | none => False
theorem de_slice {lo hi : Option Expr} {tl th : TP'} {p2 : Pos} (h : DE X c e t) (hl : DO X c lo tl) (hh : DO X c hi th) : DE X c (.Subscript e (.Slice lo hi none p2) pos) (tSlc t tl th) :=
  peImp (pe_slice sl_ok h hl hh) fun σ H k h => by
    obtain ⟨o, ρ, τ, Q, R0, h, q⟩ := h
    refine ⟨o, ρ, τ, _, R0, h, fun v1 H1 o1 r1 ρ1 τ1 L1 R1 z1 h1 => ?_⟩
    refine ⟨o1, ρ1, τ1, _, R1, h1, fun i H2 o2 ρ2 L2 R2 h2 => ?_⟩
    refine ⟨o2, ρ2, τ1, _, R2, h2, fun j H3 o3 ρ3 L3 R3 h3 => ?_⟩
    split at h3
    · rename_i m e
      have y1 := R3.vw_ok (z1.mono (L2.trans L3)) List.prefix_rfl e
      refine ⟨o3, m, _, R3.mu, y1, h3, fun v H' m' g nm hm => ?_⟩
      obtain ⟨o', τ', L, R', z⟩ := R3.made z1.pre g nm
      exact q v H' o' _ ρ3 τ' (L1.trans (L2.trans (L3.trans L))) R' z hm
    · exact h3.elim

/-! ### calls of built-ins -/
def vws (ρ : Env) : List R → Option (List M)
  | [] => some []
  | r :: rs => match vw ρ r, vws ρ rs with
    | some m, some ms => some (m :: ms)
    | _, _ => none
theorem RelRs.vws (R0 : Rep K c o σ H ρ τ) : ∀ {vs rs τ0 τ1 ms}, RelRs K o H σ vs rs τ0 τ1 → τ1 <+: τ → Y.vws ρ rs = some ms → Paired (Vw K o H) vs ms
  | _, _, _, _, _, .nil, _, e => by simp [Y.vws] at e; subst e; exact .nil
  | _, _, _, _, _, .cons a t, p, e => by
    unfold Y.vws at e
    split at e
    · rename_i m ms e1 e2
      cases e
      exact .cons (R0.vw_ok a (t.pre.trans p) e1) (RelRs.vws R0 t p e2)
    · cases e
abbrev GC := List M → (M → Prop) → Prop
def rCl (K : PySem.W.Frag) (g : GC) : List V → Hp → VK → Prop := fun vs H k => ∃ o ms G, (∀ a l, o a = some l → Mut (H a)) ∧ Paired (Vw K o H) vs ms ∧ g ms G ∧ ∀ v H' m, Grow H H' → NewM K o H H' v m → G m → k v H'
def tCl (g : GC) (ta : TL) : TX := fun ρ Q => ta ρ fun rs ρ1 => match vws ρ1 rs with
  | some ms => g ms fun m => Q m.res ρ1
  | none => False
def CallG (X : Cx) (f : Value) (g : GC) : Prop := CallR X f (rCl X.K g)
theorem callG {f : Value} {g : GC} {r : List V → Hp → VK → Prop} (h : CallR X f r) (i : ∀ vs H k, rCl X.K g vs H k → r vs H k) : CallG X f g := fun pins s σ H xs us Q I rs q => h pins s σ H xs us Q I rs (i _ _ _ q)
theorem tCl_of {g : GC} {ta : TL} {k : VK} (h : TEo K c (tCl g ta) σ H k) : tCB (rCl K g) (TAo K c ta) σ H k := by
  obtain ⟨o, ρ, τ, Q, R0, h, q⟩ := h
  refine ⟨o, ρ, τ, _, R0, h, fun vs H1 o1 rs ρ1 τ1 L1 R1 z1 h1 => ?_⟩
  split at h1
  · rename_i ms e
    refine ⟨o1, ms, _, R1.mu, RelRs.vws R1 z1 List.prefix_rfl e, h1, fun v H' m g nm hm => ?_⟩
    obtain ⟨o', τ', L, R', z⟩ := R1.made z1.pre g nm
    exact q v H' o' _ ρ1 τ' (L1.trans L) R' z hm
  · exact h1.elim
section
variable {x : Str} {p : Pos} {id T : String} {g : GC} {tl : TL}
theorem de_callB (hc : CallG X (.builtin id) g) (hg : Gl X x) (hm : X.mg x = none) (hv : bootBuiltins x = some (.builtin id)) (ha : DA X c (e :: es) tl) (hn : x ≠ "__name__" := by decide) (hdb : (x == ("__debug__" : Str)) = false := by decide)
    (he : starEach (e :: es) X.env = (false, eval e X.env) :: starEach es X.env := by rfl) (hpl : (backTo pos (starEach es X.env)).any (·.1) = false := by rfl) : DE X c (.Call (.Name x p) (e :: es) [] pos) (tCl g tl) :=
  peImp (pe_callB hc hg hm hv ha hn hdb he hpl) fun _ _ _ h => tCl_of h
theorem de_callT (hc : CallG X (.type T) g) (hg : Gl X x) (hm : X.mg x = none) (hv : bootBuiltins x = some (.type T)) (ha : DA X c (e :: es) tl) (hn : x ≠ "__name__" := by decide) (hdb : (x == ("__debug__" : Str)) = false := by decide)
    (he : starEach (e :: es) X.env = (false, eval e X.env) :: starEach es X.env := by rfl) (hpl : (backTo pos (starEach es X.env)).any (·.1) = false := by rfl) : DE X c (.Call (.Name x p) (e :: es) [] pos) (tCl g tl) :=
  peImp (pe_callTy hc hg hm hv ha hn hdb he hpl) fun _ _ _ h => tCl_of h
end
theorem pv1 {vs : List V} {m : M} (h : Paired (Vw K o H) vs [m]) : ∃ v, vs = [v] ∧ Vw K o H v m := by
  cases h with | cons a t => cases t; exact ⟨_, rfl, a⟩
theorem pv2 {vs : List V} {m n : M} (h : Paired (Vw K o H) vs [m, n]) : ∃ v w, vs = [v, w] ∧ Vw K o H v m ∧ Vw K o H w n := by
  cases h with | cons a t => cases t with | cons b t => cases t; exact ⟨_, _, rfl, a, b⟩

/-- len -/
def gLen : GC := fun ms G => match ms with
  | [.im (.tup ds)] => G (.im (.int ds.length))
  | [.im (.str x)] => x.length ≤ sizeLine ∧ G (.im (.int x.length))
  | [.dk kvs] => G (.im (.int kvs.length))
  | [m] => match m.lq? with
    | some ds => G (.im (.int ds.length))
    | none => False
  | _ => False
theorem len_ok : CallG X (.builtin "len") gLen := by
  refine callG (call_len_seq.or (call_len_str.or call_lenD)) fun vs H k h => ?_
  obtain ⟨o, ms, G, mu, v1, h, q⟩ := h
  unfold gLen at h
  split at h
  · obtain ⟨v, rfl, w1⟩ := pv1 v1
    obtain ⟨a, xs, rfl, ht, dd⟩ := w1.tup
    exact .inl ⟨a, xs, rfl, .inr ht.sq, qim q (.int _) (by rw [dd.length]; exact h)⟩
  · obtain ⟨v, rfl, w1⟩ := pv1 v1
    exact .inr (.inl ⟨_, by rw [w1.str], h.1, qim q (.int _) h.2⟩)
  · obtain ⟨v, rfl, w1⟩ := pv1 v1
    obtain ⟨l, a, ks, rfl, _, ha, kv⟩ := w1
    exact .inr (.inr ⟨a, ks, rfl, ha, qim q (.int _) (by rw [kv.length]; exact h)⟩)
  · obtain ⟨v, rfl, w1⟩ := pv1 v1
    split at h
    · rename_i ds e
      obtain ⟨a, xs, rfl, ht, dd⟩ := w1.lq e
      exact .inl ⟨a, xs, rfl, .inl ht, qim q (.int _) (by rw [dd.length]; exact h)⟩
    · exact h.elim
  · exact h.elim
/-- int(n), abs(n) -/
def gInt : GC := fun ms G => match ms with
  | [.im (.int i)] => G (.im (.int i))
  | [.im (.bl b)] => G (.im (.int (if b then 1 else 0)))
  | _ => False
theorem int_ok : CallG X (.type "int") gInt := by
  refine callG call_int1 fun vs H k h => ?_
  obtain ⟨o, ms, G, mu, v1, h, q⟩ := h
  unfold gInt at h
  split at h
  · obtain ⟨v, rfl, w1⟩ := pv1 v1
    exact .inl ⟨_, by rw [w1.int], qim q (.int _) h⟩
  · obtain ⟨v, rfl, w1⟩ := pv1 v1
    exact .inr ⟨_, by rw [w1.bl], qim q (.int _) h⟩
  · exact h.elim
def gAbs : GC := fun ms G => match ms with
  | [.im (.int i)] => G (.im (.int (if i < 0 then -i else i)))
  | _ => False
theorem abs_ok : CallG X (.builtin "abs") gAbs := by
  refine callG call_abs fun vs H k h => ?_
  obtain ⟨o, ms, G, mu, v1, h, q⟩ := h
  unfold gAbs at h
  split at h
  · obtain ⟨v, rfl, w1⟩ := pv1 v1
    exact ⟨_, by rw [w1.int], qim q (.int _) h⟩
  · exact h.elim
/-- list(x), tuple(x) -/
def M.sq? : M → Option (List D)
  | .im (.tup ds) => some ds
  | m => m.lq?
def gList : GC := fun ms G => match ms with
  | [m] => match m.sq? with
    | some ds => G (.ls ds)
    | none => False
  | _ => False
theorem Vw.sq {v : V} {m : M} {ds : List D} (h : Vw K o H v m) (e : m.sq? = some ds) : ∃ a xs, v = .ref a ∧ (SqL K H a xs ∨ SqT K H a xs) ∧ Dats K o H xs ds := by
  unfold M.sq? at e
  split at e
  · cases e
    obtain ⟨a, xs, rfl, ht, dd⟩ := h.tup
    exact ⟨a, xs, rfl, .inr ht.sq, dd⟩
  · obtain ⟨a, xs, rfl, ht, dd⟩ := h.lq e
    exact ⟨a, xs, rfl, .inl ht, dd⟩
theorem list_ok : CallG X (.type "list") gList := by
  refine callG call_list_of fun vs H k h => ?_
  obtain ⟨o, ms, G, mu, v1, h, q⟩ := h
  unfold gList at h
  split at h
  · obtain ⟨v, rfl, w1⟩ := pv1 v1
    split at h
    · rename_i ds e
      obtain ⟨a, xs, rfl, ht, dd⟩ := w1.sq e
      exact ⟨a, xs, rfl, ht, fun l hl => q _ _ (.ls ds) (.new hl) ⟨l, xs, rfl, hl, rfl, dd⟩ h⟩
    · exact h.elim
  · exact h.elim
def gTuple : GC := fun ms G => match ms with
  | [m] => match m.sq? with
    | some ds => G (.im (.tup ds))
    | none => False
  | _ => False
theorem tuple_ok : CallG X (.type "tuple") gTuple := by
  refine callG call_tuple_of fun vs H k h => ?_
  obtain ⟨o, ms, G, mu, v1, h, q⟩ := h
  unfold gTuple at h
  split at h
  · obtain ⟨v, rfl, w1⟩ := pv1 v1
    split at h
    · rename_i ds e
      unfold M.sq? at e
      split at e
      · cases e
        obtain ⟨a, xs, rfl, ht, dd⟩ := w1.tup
        exact ⟨a, xs, rfl, .inr ⟨ht.sq, qim q (.tup ht dd) h⟩⟩
      · obtain ⟨a, xs, rfl, ht, dd⟩ := w1.lq e
        exact ⟨a, xs, rfl, .inl ⟨ht, fun l hl => q _ _ (.im (.tup ds)) (.new hl) (newTup mu hl dd) h⟩⟩
    · exact h.elim
  · exact h.elim
/-- all, any -/
def D.bls? : List D → Option (List Bool)
  | [] => some []
  | .bl b :: ds => (D.bls? ds).map (b :: ·)
  | _ => none
theorem D.bls_eq : ∀ {ds : List D} {bs : List Bool}, D.bls? ds = some bs → ds = bs.map D.bl
  | [], _, e => by cases e; rfl
  | d :: ds, bs, e => by
    unfold D.bls? at e
    split at e
    · rename_i hh; cases hh
    · rename_i b ds' hh
      cases hh
      cases q : D.bls? ds with
      | none => rw [q] at e; cases e
      | some cs => rw [q] at e; cases e; rw [D.bls_eq q]; rfl
    · cases e
theorem D.bls_map : ∀ bs : List Bool, D.bls? (bs.map D.bl) = some bs
  | [] => rfl
  | b :: bs => by simp only [List.map_cons, D.bls?]; rw [D.bls_map bs]; rfl
def gAll (f : List Bool → Bool) : GC := fun ms G => match ms with
  | [m] => match m.lq? with
    | some ds => match D.bls? ds with
      | some bs => G (.im (.bl (f bs)))
      | none => False
    | none => False
  | _ => False
theorem all_ok (hc : X.calm = true) : CallG X (.builtin "all") (gAll fun bs => bs.all id) := by
  refine callG (cr_all hc) fun vs H k h => ?_
  obtain ⟨o, ms, G, mu, v1, h, q⟩ := h
  unfold gAll at h
  split at h
  · obtain ⟨v, rfl, w1⟩ := pv1 v1
    split at h
    · rename_i ds e
      split at h
      · rename_i bs eb
        obtain ⟨a, xs, rfl, ht, dd⟩ := w1.lq e
        have e2 := D.bls_eq eb
        subst e2
        have e3 := dd.bls
        subst e3
        exact ⟨a, bs, rfl, ht, qim q (.bl _) h⟩
      · exact h.elim
    · exact h.elim
  · exact h.elim
theorem any_ok (hc : X.calm = true) : CallG X (.builtin "any") (gAll fun bs => bs.any id) := by
  refine callG (cr_any hc) fun vs H k h => ?_
  obtain ⟨o, ms, G, mu, v1, h, q⟩ := h
  unfold gAll at h
  split at h
  · obtain ⟨v, rfl, w1⟩ := pv1 v1
    split at h
    · rename_i ds e
      split at h
      · rename_i bs eb
        obtain ⟨a, xs, rfl, ht, dd⟩ := w1.lq e
        have e2 := D.bls_eq eb
        subst e2
        have e3 := dd.bls
        subst e3
        exact ⟨a, bs, rfl, ht, qim q (.bl _) h⟩
      · exact h.elim
    · exact h.elim
  · exact h.elim
/-- isinstance(x, T), T a built-in class -/
def tyNames : List String := ["NoneType", "bool", "int", "str", "tuple", "list", "dict"]
def isiT (a b : String) : Bool := a == b || (a == "bool" && b == "int")
theorem isi_kit : ∀ a ∈ tyNames, ∀ b ∈ ["bool", "int", "str", "tuple", "list", "dict"], kitB a b = some (isiT a b) := by decide +kernel
def M.ty : M → Option String
  | .im .non => some "NoneType"
  | .im (.bl _) => some "bool"
  | .im (.int _) => some "int"
  | .im (.str _) => some "str"
  | .im (.tup _) => some "tuple"
  | .im (.lst _) => some "list"
  | .ls _ => some "list"
  | .rd _ => some "list"
  | .dk _ => some "dict"
  | .dt _ => some "dict"
  | _ => none
theorem Vw.ty {v : V} {m : M} {n : String} (h : Vw K o H v m) (e : m.ty = some n) : TyX K H v (.type n) ∧ n ∈ tyNames := by
  cases m with
  | im d =>
    cases d with
    | non => cases e; rw [h.non]; exact ⟨.base .non, by decide⟩
    | bl z => cases e; rw [h.bl]; exact ⟨.base (.bl _), by decide⟩
    | int z => cases e; rw [h.int]; exact ⟨.base (.int _), by decide⟩
    | str z => cases e; rw [h.str]; exact ⟨.base (.str _), by decide⟩
    | raw _ => cases e
    | tup ds => cases e; obtain ⟨a, xs, rfl, ht, _⟩ := h.tup; exact ⟨.base (.tup ht.2), by decide⟩
    | lst ds => cases e; obtain ⟨a, xs, rfl, ht, _⟩ := h.lst rfl; exact ⟨.base (.lst ht), by decide⟩
  | ls ds => cases e; obtain ⟨a, xs, rfl, ht, _⟩ := h.lst rfl; exact ⟨.base (.lst ht), by decide⟩
  | sq ds => cases e
  | rd ds => cases e; obtain ⟨a, xs, rfl, ht, _⟩ := h.lst rfl; exact ⟨.base (.lst ht), by decide⟩
  | dk kvs => cases e; obtain ⟨l, a, ks, rfl, _, ha, _⟩ := h; exact ⟨.base (.dK ha), by decide⟩
  | dt kvs => cases e; obtain ⟨l, a, ks, rfl, _, ha, _⟩ := h; exact ⟨.base (.dT ha), by decide⟩
def gIsi : GC := fun ms G => match ms with
  | [m, .im (.raw (.ty n))] => match m.ty with
    | some a => n ∈ ["bool", "int", "str", "tuple", "list", "dict"] ∧ G (.im (.bl (isiT a n)))
    | none => False
  | _ => False
theorem isi_ok : CallG X (.builtin "isinstance") gIsi := by
  refine callG call_isi fun vs H k h => ?_
  obtain ⟨o, ms, G, mu, v1, h, q⟩ := h
  unfold gIsi at h
  split at h
  · obtain ⟨v, w, rfl, w1, w2⟩ := pv2 v1
    split at h
    · rename_i a e
      obtain ⟨t1, t2⟩ := w1.ty e
      obtain ⟨l, w2⟩ := w2
      cases (show Dat X.K o H w (.raw _) from w2)
      exact ⟨v, _, _, _, _, rfl, .ty _, t1, isi_kit a t2 _ h.1, qim q (.bl _) h.2⟩
    · exact h.elim
  · exact h.elim
end
end Y
namespace Y
open PySem PySem.Spec L2

/-! ### statements -/
structure EndP where
  nx : Env → Prop
  rt : M → Env → Prop
  bk : Env → Prop := fun _ => False
  ct : Env → Prop := fun _ => False
abbrev TSX := EndP → Env → Prop
/-- the way on: from a state that is wanted to what the statement is to reach -/
def Way (K : PySem.W.Frag) (c : Cc) (o : Own) (H : Hp) (f : Env → Prop) (g : St → Hp → Prop) : Prop :=
  ∀ σ' H' o' ρ', Le o H o' H' → Rep K c o' σ' H' ρ' [] → f ρ' → g σ' H'
def WayR (K : PySem.W.Frag) (c : Cc) (o : Own) (H : Hp) (f : M → Env → Prop) (g : VK) : Prop :=
  ∀ v σ' H' o' ρ' m, Le o H o' H' → Rep K c o' σ' H' ρ' [] → IsM K o' H' (.t 0) v m → f m ρ' → g v H'
structure Ways (K : PySem.W.Frag) (c : Cc) (o : Own) (H : Hp) (P : EndP) (D : Ends) : Prop where
  nx : Way K c o H P.nx D.nx
  rt : WayR K c o H P.rt D.rt
  bk : Way K c o H P.bk D.bk
  ct : Way K c o H P.ct D.ct
def TSo (K : PySem.W.Frag) (c : Cc) (t : TSX) : TS := fun D σ H => ∃ o ρ P, Rep K c o σ H ρ [] ∧ t P ρ ∧ Ways K c o H P D
def DS (X : Cx) (c : Cc) (st : Stmt) (t : TSX) : Prop := PS X st (TSo X.K c t)
def DSs (X : Cx) (c : Cc) (st : List Stmt) (t : TSX) : Prop := PSs X st (TSo X.K c t)
theorem psImp {X : Cx} {st : Stmt} {t t' : TS} (h : PS X st t) (f : ∀ D σ H, t' D σ H → t D σ H) : PS X st t' := ⟨fun pins s σ H D I q => h.run pins s σ H D I (f _ _ _ q)⟩
theorem pssImp {X : Cx} {st : List Stmt} {t t' : TS} (h : PSs X st t) (f : ∀ D σ H, t' D σ H → t D σ H) : PSs X st t' := ⟨fun pins s σ H D I q => h.run pins s σ H D I (f _ _ _ q)⟩

section
variable {K : PySem.W.Frag} {c : Cc} {o o' : Own} {σ σ' : St} {H H' : Hp} {ρ ρ' : Env} {τ τ' τ0 τ1 : List (V × M)} {X : Cx} {e a b : Expr} {es : List Expr} {pos : Pos} {t u : TX} {P : EndP} {D : Ends}
theorem Way.le {f : Env → Prop} {g : St → Hp → Prop} (w : Way K c o H f g) (L : Le o H o' H') : Way K c o' H' f g := fun σ2 H2 o2 ρ2 L2 R q => w σ2 H2 o2 ρ2 (L.trans L2) R q
theorem WayR.le {f : M → Env → Prop} {g : VK} (w : WayR K c o H f g) (L : Le o H o' H') : WayR K c o' H' f g := fun v σ2 H2 o2 ρ2 m L2 R i q => w v σ2 H2 o2 ρ2 m (L.trans L2) R i q
theorem Ways.le (w : Ways K c o H P D) (L : Le o H o' H') : Ways K c o' H' P D := ⟨w.nx.le L, w.rt.le L, w.bk.le L, w.ct.le L⟩
theorem Rep.forget (R0 : Rep K c o σ H ρ τ) : Rep K c o σ H ρ [] := ⟨R0.sl, fun j v m e => by simp at e, R0.mu, R0.le, R0.ln⟩

def sNil : TSX := fun P ρ => P.nx ρ
def sSeq (t u : TSX) : TSX := fun P ρ => t { P with nx := u P } ρ
theorem ds_nil : DSs X c [] sNil := pssImp pss_nil fun D σ H ⟨o, ρ, P, R0, h, w⟩ => w.nx σ H o ρ .refl R0 h
theorem ds_cons {s : Stmt} {ss : List Stmt} {t u : TSX} (h1 : DS X c s t) (h2 : DSs X c ss u) : DSs X c (s :: ss) (sSeq t u) :=
  pssImp (pss_cons h1 h2) fun D σ H ⟨o, ρ, P, R0, h, w⟩ =>
    ⟨o, ρ, _, R0, h, ⟨fun σ' H' o' ρ' L R q => ⟨o', ρ', P, R, q, w.le L⟩, w.rt, w.bk, w.ct⟩⟩
theorem ds_one {s : Stmt} {t : TSX} (h1 : DS X c s t) : DSs X c [s] t := pss_one h1
def sBk : TSX := fun P ρ => P.bk ρ
def sCt : TSX := fun P ρ => P.ct ρ
theorem ds_pass : DS X c (.Pass pos) sNil := psImp ps_pass fun D σ H ⟨o, ρ, P, R0, h, w⟩ => w.nx σ H o ρ .refl R0 h
theorem ds_break : DS X c (.Break pos) sBk := psImp ps_break fun D σ H ⟨o, ρ, P, R0, h, w⟩ => w.bk σ H o ρ .refl R0 h
theorem ds_continue : DS X c (.Continue pos) sCt := psImp ps_continue fun D σ H ⟨o, ρ, P, R0, h, w⟩ => w.ct σ H o ρ .refl R0 h
def sDrop (t : TX) : TSX := fun P ρ => t ρ fun _ ρ1 => P.nx ρ1
theorem ds_expr (h : DE X c e t) (hs : swapsWith e none pos.line X.env = pure false := by rfl) : DS X c (.Expr e pos) (sDrop t) :=
  psImp (ps_expr h hs) fun D σ H ⟨o, ρ, P, R0, h, w⟩ => ⟨o, ρ, [], _, R0, h, fun v H' o' r ρ' τ' L R z q => w.nx σ H' o' ρ' L R.forget q⟩
def sIf (q : TQ) (t u : TSX) : TSX := fun P ρ => q ρ fun b ρ1 => if b = true then t P ρ1 else u P ρ1
theorem ds_if {cond : Expr} {as bs : List Stmt} {q : TQ} {t u : TSX} (hc : DT X c cond q) (ha : DSs X c as t) (hb : DSs X c bs u) : DS X c (.If cond as bs pos) (sIf q t u) :=
  psImp (ps_if hc ha hb) fun D σ H ⟨o, ρ, P, R0, h, w⟩ => ⟨o, ρ, [], _, R0, h, fun b H' o' ρ' L R q => by
    cases b with
    | true => exact ⟨o', ρ', P, R, q, w.le L⟩
    | false => exact ⟨o', ρ', P, R, q, w.le L⟩⟩

/-! ### labels changed -/
def relL (l l' : Lb) (o : Own) : Own := fun a => if o a = some l then some l' else o a
theorem relL_le {l l' : Lb} (h : l ≠ .x) : Le o H (relL l l' o) H :=
  ⟨fun b u e f => ⟨by unfold relL; rw [e]; simp, f⟩, fun b e => ⟨by unfold relL; rw [e, if_neg (by intro z; cases z; exact h rfl)], rfl⟩⟩
theorem relL_other {l l' k : Lb} (h : k ≠ l) {a : Addr} (e : o a = some k) : relL l l' o a = some k := by
  unfold relL; rw [e, if_neg (by intro z; cases z; exact h rfl)]
theorem relL_same {l l' : Lb} {a : Addr} (e : o a = some l) : relL l l' o a = some l' := by unfold relL; rw [if_pos e]
theorem relL_mu {l l' : Lb} (mu : ∀ a l, o a = some l → Mut (H a)) : ∀ a k, relL l l' o a = some k → Mut (H a) := fun a k e => by
  unfold relL at e
  split at e
  · rename_i q; exact mu a _ q
  · exact mu a _ e
/-- a slot's object goes to another label; the slot is empty -/
theorem Rep.move (R0 : Rep K c o σ H ρ τ) (i : Nat) (l' : Lb) : Rep K c (relL (.s i) l' o) σ H (ρ.set i .no) τ := by
  have L : Le o H (relL (.s i) l' o) H := relL_le (by intro z; cases z)
  refine ⟨fun j s e => ?_, fun j v m e => ⟨(R0.tm j v m e).1.mono L fun a q => ⟨relL_other (by intro z; cases z) q, rfl⟩, (R0.tm j v m e).2⟩, relL_mu R0.mu, R0.le.trans L, by rw [List.length_set]; exact R0.ln⟩
  by_cases hj : i = j
  · subst hj
    by_cases hl : i < ρ.length
    · rw [List.getElem?_set_self hl] at e; cases e; exact trivial
    · rw [List.getElem?_eq_none (by simpa using hl)] at e; cases e
  · rw [List.getElem?_set_ne hj] at e
    exact (R0.sl j s e).mono L (fun a q => ⟨relL_other (by intro z; injection z with z; exact hj z.symm) q, rfl⟩) fun a q => ⟨relL_other (by intro z; cases z) q, rfl⟩
/-- the last temporary's object goes to a label of a slot -/
theorem Rep.takeT (R0 : Rep K c o σ H ρ (τ ++ [(v, m)])) (l' : Lb) : Rep K c (relL (.t τ.length) l' o) σ H ρ τ ∧ IsM K (relL (.t τ.length) l' o) H l' v m := by
  have L : Le o H (relL (.t τ.length) l' o) H := relL_le (by intro z; cases z)
  refine ⟨⟨fun j s e => (R0.sl j s e).mono L (fun a q => ⟨relL_other (by intro z; cases z) q, rfl⟩) fun a q => ⟨relL_other (by intro z; cases z) q, rfl⟩, fun j w m' e => ?_, relL_mu R0.mu, R0.le.trans L, R0.ln⟩, ?_⟩
  · have hj : j < τ.length := (List.getElem?_eq_some_iff.mp e).1
    have q := R0.tm j w m' (by rw [List.getElem?_append_left hj]; exact e)
    exact ⟨q.1.mono L fun a z => ⟨relL_other (by intro w; injection w with w; omega) z, rfl⟩, q.2⟩
  · exact (R0.tm τ.length v m (by simp)).1.mono L fun a z => ⟨relL_same z, rfl⟩
/-- a slot is set -/
theorem Rep.set (R0 : Rep K c o σ H ρ τ) {i : Nat} {v : V} {s : Sl} (h : SlOk K c o (σ.set i (some v)) H i s ∨ ¬ i < ρ.length) : Rep K c o (σ.set i (some v)) H (ρ.set i s) τ := by
  refine ⟨fun j s' e => ?_, R0.tm, R0.mu, R0.le, by rw [List.length_set, List.length_set]; exact R0.ln⟩
  by_cases hj : i = j
  · subst hj
    rcases h with h | h
    · by_cases hl : i < ρ.length
      · rw [List.getElem?_set_self hl] at e; cases e; exact h
      · rw [List.getElem?_eq_none (by simpa using hl)] at e; cases e
    · rw [List.getElem?_eq_none (by simpa using h)] at e; cases e
  · rw [List.getElem?_set_ne hj] at e
    have q := R0.sl j s' e
    have es : (σ.set i (some v))[j]? = σ[j]? := List.getElem?_set_ne hj
    cases s' with
    | no => exact trivial
    | lo m => obtain ⟨w, e1, z⟩ := q; exact ⟨w, by rw [es]; exact e1, z⟩
    | pa m => obtain ⟨w, e1, e2, z⟩ := q; exact ⟨w, by rw [es]; exact e1, e2, z⟩
    | hd p w m => obtain ⟨e1, e2, z⟩ := q; exact ⟨by rw [es]; exact e1, e2, z⟩
theorem set_at {i : Nat} {v w : V} (h : σ[i]? = some (some w)) : (σ.set i (some v))[i]? = some (some v) := by
  have hl : i < σ.length := (List.getElem?_eq_some_iff.mp h).1
  rw [List.getElem?_set_self hl]
/-- a slot that holds something stands within the frame's slots -/
theorem Rep.asg (R0 : Rep K c o σ H ρ τ) {i : Nat} {v : V} {m : M} (h : IsM K o H (.s i) v m) : Rep K c o (σ.set i (some v)) H (ρ.set i (.lo m)) τ := by
  refine R0.set ?_
  by_cases q : i < ρ.length
  · exact .inl ⟨v, by rw [List.getElem?_set_self (by rw [← R0.ln]; exact q)], h⟩
  · exact .inr q
/-- a name is given a value: data; a new object; another name's object, which that name loses -/
def asg (i : Nat) (r : R) (ρ : Env) (k : Env → Prop) : Prop := match r with
  | .im d => k (ρ.set i (.lo (.im d)))
  | .tm m => k (ρ.set i (.lo m))
  | .sl j => match ρ[j]? with
    | some (.lo (.sq ds)) => k (ρ.set i (.lo (.sq ds)))
    | some (.pa (.sq ds)) => k (ρ.set i (.lo (.sq ds)))
    | some (.lo m) => k ((ρ.set j .no).set i (.lo m))
    | some (.pa m) => k ((ρ.set j .no).set i (.lo m))
    | _ => False
theorem asg_ok (R0 : Rep K c o σ H ρ τ') {i : Nat} {v : V} {r : R} {f : Env → Prop} (z : RelR K o H σ v r τ τ') (h : asg i r ρ f) (q : ∀ o' ρ', Le o H o' H → Rep K c o' (σ.set i (some v)) H ρ' τ → f ρ' → D.nx (σ.set i (some v)) H) : D.nx (σ.set i (some v)) H := by
  unfold asg at h
  split at h
  · obtain ⟨rfl, z⟩ := z
    exact q o _ .refl (R0.asg (m := .im _) z) h
  · have z : τ' = τ ++ [(v, _)] := z
    subst z
    obtain ⟨R1, i1⟩ := R0.takeT (.s i)
    exact q _ _ (relL_le (by intro z; cases z)) (R1.asg i1) h
  · rename_i j
    obtain ⟨rfl, z⟩ := z
    split at h
    · rename_i ds e
      obtain ⟨w, e1, q1⟩ := R0.sl _ _ e
      rw [z] at e1; cases e1
      exact q o _ .refl (R0.asg (m := .sq ds) q1) h
    · rename_i ds e
      obtain ⟨w, e1, e2, q1⟩ := R0.sl _ _ e
      rw [z] at e1; cases e1
      exact q o _ .refl (R0.asg (m := .sq ds) q1) h
    · rename_i m _ e
      obtain ⟨w, e1, q1⟩ := R0.sl _ _ e
      rw [z] at e1; cases e1
      refine q _ _ (relL_le (l := .s j) (l' := .s i) (by intro z; cases z)) ((R0.move j (.s i)).asg (m := m) (q1.mono (relL_le (by intro z; cases z)) fun a y => ⟨relL_same y, rfl⟩)) h
    · rename_i m _ e
      obtain ⟨w, e1, e2, q1⟩ := R0.sl _ _ e
      rw [z] at e1; cases e1
      refine q _ _ (relL_le (l := .s j) (l' := .s i) (by intro z; cases z)) ((R0.move j (.s i)).asg (m := m) (q1.mono (relL_le (by intro z; cases z)) fun a y => ⟨relL_same y, rfl⟩)) h
    · exact h.elim
def sAsg (i : Nat) (t : TX) : TSX := fun P ρ => t ρ fun r ρ1 => asg i r ρ1 P.nx
theorem sAsg_of {i : Nat} {t : TX} (h : TSo K c (sAsg i t) D σ H) : tAsg (TEo K c t) (gName i) D σ H := by
  obtain ⟨o, ρ, P, R0, h, w⟩ := h
  refine ⟨o, ρ, [], _, R0, h, fun v H1 o1 r1 ρ1 τ1 L1 R1 z1 h1 => ?_⟩
  exact asg_ok R1 z1 h1 fun o' ρ' L R q => w.nx _ _ o' ρ' (L1.trans L) R q
theorem ds_set {i : Nat} {x : Str} {pos' : Pos} (hN : X.N.Nodup) (h : DE X c e t) (hi : X.N[i]? = some x := by rfl) (hx : Loc X.env.scope x := by first | exact Or.inl rfl | exact Or.inr rfl) (hs : swapsWith e (some (.Name x pos')) pos.line X.env = pure false := by rfl)
    (hf : X.fn x = true ∨ X.env.scope.names.lookup x = some .local := by first | exact .inl rfl | exact .inr rfl | assumption) : DS X c (.Assign [.Name x pos'] e pos) (sAsg i t) :=
  psImp (ps_set hN hi hx h hs hf) fun _ _ _ h => sAsg_of h
def sRet (t : TX) : TSX := fun P ρ => t ρ fun r ρ1 => match r with
  | .im d => P.rt (.im d) ρ1
  | .tm m => P.rt m ρ1
  | .sl j => match ρ1[j]? with
    | some (.lo m) => P.rt m (ρ1.set j .no)
    | some (.pa m) => P.rt m (ρ1.set j .no)
    | _ => False
theorem ds_ret (h : DE X c e t) : DS X c (.Return (some e) pos) (sRet t) := psImp (ps_ret h) fun D σ H h => by
  obtain ⟨o, ρ, P, R0, h, w⟩ := h
  refine ⟨o, ρ, [], _, R0, h, fun v H1 o1 r1 ρ1 τ1 L1 R1 z1 h1 => ?_⟩
  split at h1
  · obtain ⟨rfl, z⟩ := z1
    exact w.rt v σ H1 o1 ρ1 (.im _) L1 R1 z h1
  · rename_i m
    have z : τ1 = [] ++ [(v, m)] := z1
    subst z
    exact w.rt v σ H1 o1 ρ1 m L1 R1.forget (R1.tm 0 v m rfl).1 h1
  · rename_i j
    obtain ⟨rfl, z⟩ := z1
    split at h1
    · rename_i m e
      obtain ⟨w', e1, q1⟩ := R1.sl _ _ e
      rw [z] at e1; cases e1
      exact w.rt v σ H1 _ _ m (L1.trans (relL_le (l := .s j) (l' := .t 0) (by intro z; cases z))) (R1.move j (.t 0)) (q1.mono (relL_le (by intro z; cases z)) fun a y => ⟨relL_same y, rfl⟩) h1
    · rename_i m e
      obtain ⟨w', e1, e2, q1⟩ := R1.sl _ _ e
      rw [z] at e1; cases e1
      exact w.rt v σ H1 _ _ m (L1.trans (relL_le (l := .s j) (l' := .t 0) (by intro z; cases z))) (R1.move j (.t 0)) (q1.mono (relL_le (by intro z; cases z)) fun a y => ⟨relL_same y, rfl⟩) h1
    · exact h1.elim
def sRetN : TSX := fun P ρ => P.rt (.im .non) ρ
theorem ds_retN : DS X c (.Return none pos) sRetN := psImp ps_retN fun D σ H ⟨o, ρ, P, R0, h, w⟩ => w.rt .non σ H o ρ (.im .non) .refl R0 .non h
end
end Y
namespace Y
open PySem PySem.Spec L2

section
variable {K : PySem.W.Frag} {c : Cc} {o o' : Own} {σ σ' : St} {H H' : Hp} {ρ ρ' : Env} {τ τ' τ0 τ1 : List (V × M)} {X : Cx} {e a b : Expr} {es : List Expr} {pos : Pos} {t u : TX} {P : EndP} {D' : Ends}
/-! ### a slot's object is changed -/
def Sl.up : Sl → M → Sl
  | .pa _, m => .pa m
  | _, m => .lo m
/-- what a slot owns -/
def Sl.m! : Sl → Option M
  | .lo m => some m
  | .pa m => some m
  | _ => none
theorem SlOk.of! {i : Nat} {s : Sl} {m : M} (h : SlOk K c o σ H i s) (e : s.m! = some m) : ∃ v, σ[i]? = some (some v) ∧ IsM K o H (.s i) v m := by
  cases s with
  | no => cases e
  | lo z => cases e; exact h
  | pa z => cases e; obtain ⟨v, a, _, q⟩ := h; exact ⟨v, a, q⟩
  | hd p v z => cases e
theorem Rep.mut1 (R0 : Rep K c o σ H ρ τ) {i : Nat} {s : Sl} {m0 m : M} {a : Addr} {u : HO} (e : ρ[i]? = some s) (hs : s.m! = some m0) (hv : σ[i]? = some (some (.ref a))) (ho : o a = some (.s i)) (hu : Mut (some u))
    (h : IsM K o (upd H a u) (.s i) (.ref a) m) : Rep K c o σ (upd H a u) (ρ.set i (s.up m)) τ ∧ Le o H o (upd H a u) := by
  have ne : ∀ b l, o b = some l → l ≠ .s i → b ≠ a := fun b l q z w => by subst w; rw [ho] at q; cases q; exact z rfl
  have L : Le o H o (upd H a u) := ⟨fun b w q f => ⟨q, by rw [upd_ne (fun z => by subst z; rw [ho] at q; cases q)]; exact f⟩, fun b q => ⟨q, upd_ne (ne b _ q (by intro z; cases z))⟩⟩
  have kp : ∀ l, l ≠ .s i → ∀ b, o b = some l → o b = some l ∧ upd H a u b = H b := fun l z b q => ⟨q, upd_ne (ne b l q z)⟩
  refine ⟨⟨fun j s' q => ?_, fun j v m' q => ⟨(R0.tm j v m' q).1.mono L (kp _ (by intro z; cases z)), (R0.tm j v m' q).2⟩, fun b l q => ?_, R0.le.trans L, by rw [List.length_set]; exact R0.ln⟩, L⟩
  · by_cases hj : i = j
    · subst hj
      have hl : i < ρ.length := (List.getElem?_eq_some_iff.mp e).1
      rw [List.getElem?_set_self hl] at q; cases q
      have k := R0.sl i s e
      cases s with
      | no => cases hs
      | lo z => exact ⟨_, hv, h⟩
      | pa z => obtain ⟨v, a1, a2, _⟩ := k; rw [hv] at a1; cases a1; exact ⟨_, hv, a2, h⟩
      | hd p v z => cases hs
    · rw [List.getElem?_set_ne hj] at q
      exact (R0.sl j s' q).mono L (kp _ (by intro z; injection z with z; exact hj z.symm)) (kp _ (by intro z; cases z))
  · by_cases z : b = a
    · subst z; rw [upd_same]; exact hu
    · rw [upd_ne z]; exact R0.mu b l q

/-! ### methods of a list that change it -/
abbrev GM := List D → List D → (D → List D → Prop) → Prop
def rMt (K : PySem.W.Frag) (g : GM) : V → List V → Hp → VK → Prop := fun x vs H Q => ∃ l xs ds es o G, x = .ref l ∧ H l = some (.lst xs) ∧ Dats K o H xs ds ∧ Dats K o H vs es ∧ g ds es G ∧
  ∀ y d xs' ds', Dat K o H y d → Dats K o H xs' ds' → G d ds' → Q y (upd H l (.lst xs'))
def MtG (X : Cx) (id : String) (g : GM) : Prop := MtR X id (rMt X.K g)
theorem mtG {id : String} {g : GM} {r : V → List V → Hp → VK → Prop} (h : MtR X id r) (i : ∀ x vs H k, rMt X.K g x vs H k → r x vs H k) : MtG X id g := fun pins s σ H x xs v us Q I rx rs q => h pins s σ H x xs v us Q I rx rs (i _ _ _ _ q)
def gApp : GM := fun ds es G => match es with
  | [d] => ds.length < sizeLine ∧ G .non (ds ++ [d])
  | _ => False
theorem app_ok : MtG X "list.append" gApp := by
  refine mtG mt_append fun x vs H k h => ?_
  obtain ⟨l, xs, ds, es, o, G, rfl, hl, d1, d2, h, q⟩ := h
  unfold gApp at h
  split at h
  · cases d2 with | cons a t => cases t; exact ⟨l, xs, _, rfl, rfl, hl, by rw [d1.length]; exact h.1, q _ _ _ _ .non (d1.append (.cons a .nil)) h.2⟩
  · exact h.elim
def gExt : GM := fun ds es G => match es with
  | [.lst zs] => ds.length + zs.length ≤ sizeLine ∧ G .non (ds ++ zs)
  | _ => False
theorem ext_ok : MtG X "list.extend" gExt := by
  refine mtG mt_extend fun x vs H k h => ?_
  obtain ⟨l, xs, ds, es, o, G, rfl, hl, d1, d2, h, q⟩ := h
  unfold gExt at h
  split at h
  · cases d2 with
    | cons a t =>
      cases t
      cases a with
      | lst a1 a2 a3 => exact ⟨l, _, xs, _, rfl, rfl, hl, a2, by rw [d1.length, a3.length]; exact h.1, q _ _ _ _ .non (d1.append a3) h.2⟩
  · exact h.elim
def gPop : GM := fun ds es G => match es with
  | [] => match ds.getLast? with
    | some d => G d ds.dropLast
    | none => False
  | _ => False
theorem pop_ok : MtG X "list.pop" gPop := by
  refine mtG mt_pop fun x vs H k h => ?_
  obtain ⟨l, xs, ds, es, o, G, rfl, hl, d1, d2, h, q⟩ := h
  unfold gPop at h
  split at h
  · cases d2
    split at h
    · rename_i d e
      rw [List.getLast?_eq_getElem?] at e
      obtain ⟨w, e2, dw⟩ := d1.get e
      rw [← d1.length] at e2
      exact ⟨l, xs, w, rfl, rfl, hl, e2, q _ _ _ _ dw d1.dropLast h⟩
    · exact h.elim
  · exact h.elim
def gRev : GM := fun ds es G => match es with
  | [] => G .non ds.reverse
  | _ => False
theorem rev_ok : MtG X "list.reverse" gRev := by
  refine mtG mt_reverse fun x vs H k h => ?_
  obtain ⟨l, xs, ds, es, o, G, rfl, hl, d1, d2, h, q⟩ := h
  unfold gRev at h
  split at h
  · cases d2; exact ⟨l, xs, rfl, rfl, hl, q _ _ _ _ .non d1.reverse h⟩
  · exact h.elim
/-- x.m(..) of a name's own list -/
def tMt (g : GM) (i : Nat) (ta : TL) : TX := fun ρ Q => (match ρ[i]? with
  | some s => match s.m! with
    | some (.ls _) => True
    | _ => False
  | none => False) ∧ tFrz ta (fun ds ρ1 => match ρ1[i]? with
    | some s => match s.m! with
      | some (.ls xs) => g xs ds fun d xs' => Q (.im d) (ρ1.set i (s.up (.ls xs')))
      | _ => False
    | none => False) ρ
theorem tMt_of {g : GM} {i : Nat} {ta : TL} {k : VK} (h : TEo K c (tMt g i ta) σ H k) : tBM K "list" (rMt K g) (tVar i) (TAo K c ta) σ H k := by
  obtain ⟨o, ρ, τ, Q, R0, ⟨h0, h⟩, q⟩ := h
  split at h0
  · rename_i s e
    split at h0
    · rename_i xs em
      obtain ⟨v, hv, ⟨a, ys, rfl, ho, hH, dd⟩⟩ := (R0.sl i s e).of! em
      refine ⟨_, hv, .inl ⟨rfl, ys, SqL.of hH⟩, ?_⟩
      refine tFrz_of R0 h fun vs H1 o1 ds ρ1 L1 R1 d1 h1 => ?_
      split at h1
      · rename_i s' e'
        split at h1
        · rename_i zs em'
          obtain ⟨v', hv', ⟨a', ys', rfl, ho', hH', dd'⟩⟩ := (R1.sl i s' e').of! em'
          rw [hv] at hv'; cases hv'
          refine ⟨a, ys', zs, ds, o1, _, rfl, hH', dd', d1, h1, fun y d xs' ds' dy dxs hG => ?_⟩
          have L : Le o1 H1 o1 (upd H1 a (.lst xs')) := (R1.mut1 (m := .rd []) (u := .lst []) e' em' hv ho' trivial ⟨a, [], rfl, ho', upd_same, .nil⟩).2 |> fun _ => by
            refine ⟨fun b w q f => ⟨q, by rw [upd_ne (fun z => by subst z; rw [ho'] at q; cases q)]; exact f⟩, fun b q => ⟨q, upd_ne (fun z => by subst z; rw [ho'] at q; cases q)⟩⟩
          obtain ⟨R2, L2⟩ := R1.mut1 (m := .ls ds') (u := .lst xs') e' em' hv ho' trivial ⟨a, xs', rfl, ho', upd_same, dxs.mono L⟩
          exact q y _ o1 (.im d) _ τ (L1.trans L2) R2 ⟨rfl, dy.mono L2⟩ hG
        · exact h1.elim
      · exact h1.elim
    · exact h0.elim
  · exact h0.elim
section
variable {name : Str} {x : Str} {px apos cpos : Pos} {id : String} {g : GM} {ta : TL}
theorem de_mt (i : Nat) (pa : PySem.PlainAttrs "list") (slot : PySem.Slot "list" name id) (hty : typeOf (.builtin id) = pure (.type "method_descriptor")) (hm : MtG X id g) (ha : DA X c (e :: es) ta)
    (hN : X.N[i]? = some x := by rfl) (hv : Vis X.env.scope x := by first | exact Or.inl rfl | exact Or.inr (Or.inl rfl) | exact Or.inr (Or.inr rfl))
    (hbase : attributeBase (.Name x px) name X.env (eval (.Name x px) X.env) = eval (.Name x px) X.env := by rfl)
    (hfew : ((backTo cpos (starEach (e :: es) X.env)).all (fun x => !x.1) && (backToKw cpos (keywordEach [] X.env)).all (fun x => x.1.isSome)
      && decide ((e :: es).length + ([] : List Keyword).length + (if ([] : List Keyword).isEmpty then 0 else 1) < 30)) = true := by rfl)
    (hline : (apos.endLine == cpos.line) = true := by rfl) (hs : starEach (e :: es) X.env = (false, eval e X.env) :: starEach es X.env := by rfl) (hplain : (backTo cpos (starEach es X.env)).any (·.1) = false := by rfl)
    (hd : (x == ("__debug__" : Str)) = false := by decide) (hcd : (x == ("__classdict__" : Str)) = false := by decide) :
    DE X c (.Call (.Attribute (.Name x px) name apos) (e :: es) [] cpos) (tMt g i ta) :=
  peImp (pe_bm pa slot hty hm (pe_var (i := i) hN hv hd hcd) ha hbase hfew hline hs hplain) fun _ _ _ h => tMt_of h
theorem de_mt0 (i : Nat) (pa : PySem.PlainAttrs "list") (slot : PySem.Slot "list" name id) (hty : typeOf (.builtin id) = pure (.type "method_descriptor")) (hm : MtG X id g)
    (hN : X.N[i]? = some x := by rfl) (hv : Vis X.env.scope x := by first | exact Or.inl rfl | exact Or.inr (Or.inl rfl) | exact Or.inr (Or.inr rfl))
    (hbase : attributeBase (.Name x px) name X.env (eval (.Name x px) X.env) = eval (.Name x px) X.env := by rfl) (hline : (apos.endLine == cpos.line) = true := by rfl)
    (hd : (x == ("__debug__" : Str)) = false := by decide) (hcd : (x == ("__classdict__" : Str)) = false := by decide) :
    DE X c (.Call (.Attribute (.Name x px) name apos) [] [] cpos) (tMt g i lNil) :=
  peImp (pe_bm0 pa slot hty hm (pe_var (i := i) hN hv hd hcd) hbase hline) fun σ H k h => by
    obtain ⟨v, hv, ty, q⟩ := tMt_of h
    refine ⟨v, hv, ty, ?_⟩
    obtain ⟨o, ρ, τ, Q, R0, h, q⟩ := q
    exact q [] H o [] ρ τ .refl R0 .nil h
end

/-! ### x[k] = v of a name's own list or dict -/
def setM (m : M) (k v : D) (G : M → Prop) : Prop := match m, k with
  | .ls ds, .int i => match ixN ds.length i with
    | some j => G (.ls (ds.set j v))
    | none => False
  | .dk kvs, k => match k.key? with
    | some k => kvs.length < sizeLine ∧ G (.dk (putD kvs k v))
    | none => False
  | .dt kvs, .tup ks => match D.keys? ks with
    | some k => kvs.length < sizeLine ∧ G (.dt (putD kvs k v))
    | none => False
  | _, _ => False
theorem PSet.or {t t' : TSet} (h : PSet X t) (h' : PSet X t') : PSet X (fun o i v H Q => t o i v H Q ∨ t' o i v H Q) := by
  intro pins s σ H o i v ov iv u Q I ro ri rv q
  rcases q with q | q
  · exact h pins s σ H o i v ov iv u Q I ro ri rv q
  · exact h' pins s σ H o i v ov iv u Q I ro ri rv q
theorem le_mut {a : Addr} {i : Nat} {w : HO} (ho : o a = some (.s i)) : Le o H o (upd H a w) :=
  ⟨fun b w q f => ⟨q, by rw [upd_ne (fun z => by subst z; rw [ho] at q; cases q)]; exact f⟩, fun b q => ⟨q, upd_ne (fun z => by subst z; rw [ho] at q; cases q)⟩⟩
theorem setM_ok (R0 : Rep K c o σ H ρ τ) {i : Nat} {s : Sl} {m : M} {v vk vx : V} {dk dx : D} {G : M → Prop} {Q : Hp → Prop} (e : ρ[i]? = some s) (em : s.m! = some m) (hv : σ[i]? = some (some v)) (d1 : Dat K o H vk dk) (d2 : Dat K o H vx dx) (h : setM m dk dx G)
    (q : ∀ H' m', Rep K c o σ H' (ρ.set i (s.up m')) τ → Le o H o H' → G m' → Q H') : rSetL v vk vx H Q ∨ rSetD v vk vx H Q := by
  obtain ⟨v', hv', z⟩ := (R0.sl i s e).of! em
  rw [hv] at hv'; cases hv'
  unfold setM at h
  split at h
  · rename_i ds j
    split at h
    · rename_i n en
      obtain ⟨a, xs, rfl, ho, hH, dd⟩ := z
      cases d1
      refine .inl ⟨a, xs, j, n, rfl, rfl, hH, by rw [dd.length]; exact en, ?_⟩
      obtain ⟨R1, L1⟩ := R0.mut1 (m := .ls (ds.set n dx)) (u := .lst (xs.set n vx)) e em hv ho trivial ⟨a, _, rfl, ho, upd_same, (dd.set d2 n).mono (le_mut ho)⟩
      exact q _ _ R1 L1 h
    · exact h.elim
  · rename_i kvs
    split at h
    · rename_i ky ek
      obtain ⟨a, ks, rfl, ho, hH, dd⟩ := z
      have ek' := d1.key ek
      subst ek'
      refine .inr ⟨a, _, rfl, DPut.k hH (by rw [dd.length]; exact h.1), ?_⟩
      obtain ⟨R1, L1⟩ := R0.mut1 (m := .dk (putD kvs ky dx)) (u := .dK (putK ks ky vx)) e em hv ho trivial ⟨a, _, rfl, ho, upd_same, Kvs.mono (le_mut ho) (dd.put ky d2)⟩
      exact q _ _ R1 L1 h.2
    · exact h.elim
  · rename_i kvs ks'
    split at h
    · rename_i ky ek
      obtain ⟨a, ks, rfl, ho, hH, dd⟩ := z
      cases d1 with
      | tup t r =>
        have ek' := r.keys ek
        subst ek'
        refine .inr ⟨a, _, rfl, DPut.t hH t.2 (by rw [dd.length]; exact h.1), ?_⟩
        obtain ⟨R1, L1⟩ := R0.mut1 (m := .dt (putD kvs ky dx)) (u := .dT (putK ks ky vx)) e em hv ho trivial ⟨a, _, rfl, ho, upd_same, Kvs.mono (le_mut ho) (dd.put ky d2)⟩
        exact q _ _ R1 L1 h.2
    · exact h.elim
  · exact h.elim
def hasM (ρ : Env) (i : Nat) : Prop := match ρ[i]? with
  | some s => match s.m! with
    | some _ => True
    | none => False
  | none => False
theorem hasM_at {ρ : Env} {i : Nat} (R0 : Rep K c o σ H ρ τ) (h : hasM ρ i) : ∃ y, σ[i]? = some (some y) := by
  unfold hasM at h
  split at h
  · rename_i s e
    split at h
    · rename_i m em
      obtain ⟨v, hv, _⟩ := (R0.sl i s e).of! em
      exact ⟨v, hv⟩
    · exact h.elim
  · exact h.elim
def sSetI (i : Nat) (tk tv : TX) : TSX := fun P ρ => tFrz (lCons tv lNil) (fun ds ρ1 => match ds with
  | [d] => hasM ρ1 i ∧ tk ρ1 fun rk ρ2 => match rk with
    | .im k => match ρ2[i]? with
      | some s => match s.m! with
        | some m => setM m k d fun m' => P.nx (ρ2.set i (s.up m'))
        | none => False
      | none => False
    | _ => False
  | _ => False) ρ
theorem frz1 {f : List D → Env → Prop} {t : TX} {k : VK} (R0 : Rep K c o σ H ρ τ) (h : tFrz (lCons t lNil) f ρ)
    (q : ∀ v H' o' d ρ', Le o H o' H' → Rep K c o' σ H' ρ' τ → Dat K o' H' v d → f [d] ρ' → k v H') : TEo K c t σ H k := by
  refine ⟨o, ρ, τ, _, R0, h, fun v H1 o1 r ρ1 τ1 L1 R1 z1 h1 => ?_⟩
  have h1 : match froz ρ1 [r] with
    | some (ds, ρ2) => f ds ρ2
    | none => False := h1
  split at h1
  · rename_i ds ρ2 e
    have R2 := R1.drop z1.pre
    have els := (RelRs.cons z1 .nil).els (ρ0 := ρ1) (base := τ.length) (Nat.le_refl _) (fun j v m e => (R1.tm j v m e).1)
    obtain ⟨o', L, R3, dd⟩ := froz_ok R2 els e
    cases dd with
    | cons a t => cases t; exact q v H1 o' _ ρ2 (L1.trans ((dropT_le _).trans L)) R3 a h1
  · exact h1.elim
theorem ds_setI (i : Nat) {x : Str} {px ppos : Pos} {tk tv : TX} (hu : X.A.units + 1 < cLine) (hv : DE X c e tv) (hk : DE X c a tk) (hN : X.N[i]? = some x := by rfl) (hvis : Vis X.env.scope x := by first | exact Or.inl rfl | exact Or.inr (Or.inl rfl) | exact Or.inr (Or.inr rfl))
    (hs : swapsWithSole [.Subscript (.Name x px) a ppos] e pos.line X.env = pure false := by rfl) (hw : swappedStores [.Subscript (.Name x px) a ppos] e X.env = pure none := by rfl)
    (h1 : (assignEach [.Subscript (.Name x px) a ppos] X.env).map (·.2) = [assign (.Subscript (.Name x px) a ppos) X.env] := by rfl)
    (hsub : ∀ v, assign (.Subscript (.Name x px) a ppos) X.env v = (do
      let ov ← holding [v] (eval (.Name x px) X.env)
      let iv ← holding [v, ov] (eval a X.env)
      standAt ppos
      holding [v, ov, iv] (setItem ov iv v)
      release [v, ov, iv] []) := by intro _; rfl)
    (hd : (x == ("__debug__" : Str)) = false := by decide) (hcd : (x == ("__classdict__" : Str)) = false := by decide) : DS X c (.Assign [.Subscript (.Name x px) a ppos] e pos) (sSetI i tk tv) :=
  psImp (ps_asg hv (pg_sub (pe_var (i := i) hN hvis hd hcd) hk (PSet.or set_list (set_dict hu)) hsub) hs hw h1) fun D σ H h => by
    obtain ⟨o, ρ, P, R0, h, w⟩ := h
    refine frz1 R0 h fun v H1 o1 d ρ1 L1 R1 d1 h1 => ?_
    obtain ⟨h0, h1⟩ := (show hasM ρ1 i ∧ tk ρ1 fun rk ρ2 => match rk with
      | .im k => match ρ2[i]? with
        | some s => match s.m! with
          | some m => setM m k d fun m' => P.nx (ρ2.set i (s.up m'))
          | none => False
        | none => False
      | _ => False from h1)
    obtain ⟨y, hy⟩ := hasM_at R1 h0
    refine ⟨y, hy, o1, ρ1, [], _, R1, h1, fun v2 H2 o2 r2 ρ2 τ2 L2 R2 z2 h2 => ?_⟩
    split at h2
    · obtain ⟨rfl, z2⟩ := z2
      split at h2
      · rename_i s es
        split at h2
        · rename_i m em
          exact setM_ok (Q := fun H3 => D.nx σ H3) R2 es em hy z2 (d1.mono L2) h2 fun H3 m' R3 L3 hG => w.nx _ _ _ _ (L1.trans (L2.trans L3)) R3 hG
        · exact h2.elim
      · exact h2.elim
    · exact h2.elim
end
end Y
namespace Y
open PySem PySem.Spec L2

section
variable {K : PySem.W.Frag} {c : Cc} {o o' : Own} {σ σ' : St} {H H' : Hp} {ρ ρ' : Env} {τ τ' τ0 τ1 : List (V × M)} {X : Cx} {e a b : Expr} {es : List Expr} {pos : Pos} {t u : TX} {P : EndP} {D' : Ends}
/-! ### targets -/
inductive Bd where
  | one (i : Nat) | many (is : List Nat)
def gNms : List Nat → TGs
  | [] => gNil
  | i :: is => gCons (gName i) (gNms is)
def Bd.tg (K : PySem.W.Frag) : Bd → TG
  | .one i => gName i
  | .many is => gTup K is.length (gNms is)
def Bd.slots : Bd → List Nat
  | .one i => [i]
  | .many is => is
def setAll (ρ : Env) : List Nat → List D → Env
  | i :: is, d :: ds => setAll (ρ.set i (.lo (.im d))) is ds
  | _, _ => ρ
def bnd (b : Bd) (d : D) (ρ : Env) (k : Env → Prop) : Prop := match b with
  | .one i => k (ρ.set i (.lo (.im d)))
  | .many is => match d with
    | .tup ds => ds.length = is.length ∧ k (setAll ρ is ds)
    | _ => False
theorem wipe_at {i : Nat} : ∀ {vs : List Nat}, i ∈ vs → i < σ.length → (wipe σ vs)[i]? = some none
  | v :: vs, h, l => by
    unfold wipe
    by_cases e : v = i
    · subst e; rw [List.getElem?_set_self (by rw [wipe_length]; exact l)]
    · rw [List.getElem?_set_ne e]
      rcases List.mem_cons.mp h with h | h
      · exact absurd h.symm e
      · exact wipe_at h l
theorem wipe_set {i : Nat} {x : Option V} {vs : List Nat} (h : i ∈ vs) : wipe (σ.set i x) vs = wipe σ vs := by
  apply List.ext_getElem?
  intro j
  by_cases hj : j ∈ vs
  · by_cases hl : j < σ.length
    · rw [wipe_at hj hl, wipe_at hj (by rw [List.length_set]; exact hl)]
    · rw [List.getElem?_eq_none (by rw [wipe_length, List.length_set]; omega), List.getElem?_eq_none (by rw [wipe_length]; omega)]
  · rw [wipe_out hj, wipe_out hj, List.getElem?_set_ne (fun e => hj (by rw [← e]; exact h))]
theorem setAll_ok : ∀ {is : List Nat} {ds : List D} {vs : List V} {σ : St} {ρ : Env}, Rep K c o σ H ρ τ → Dats K o H vs ds → ds.length = is.length → {f : Env → Prop} → f (setAll ρ is ds) → {k : St → Hp → Prop} →
    (∀ σ' ρ', Rep K c o σ' H ρ' τ → (∀ ws, (∀ i ∈ is, i ∈ ws) → wipe σ' ws = wipe σ ws) → f ρ' → k σ' H) → gNms is vs σ H k
  | [], [], _, σ, ρ, R0, .nil, _, f, h, k, q => ⟨rfl, q σ ρ R0 (fun _ _ => rfl) h⟩
  | i :: is, d :: ds, _, σ, ρ, R0, .cons (v := v) (vs := vs) a r, hl, f, h, k, q => by
    refine ⟨v, vs, rfl, ?_⟩
    show gNms is vs (σ.set i (some v)) H k
    refine setAll_ok (R0.asg (i := i) (m := .im d) a) r (Nat.succ.inj hl) h fun σ' ρ' R w hf => q σ' ρ' R (fun ws hw => ?_) hf
    rw [w ws (fun j hj => hw j (List.mem_cons_of_mem _ hj)), wipe_set (hw i List.mem_cons_self)]
theorem bnd_ok {bd : Bd} {v : V} {d : D} {f : Env → Prop} {k : St → Hp → Prop} (R0 : Rep K c o σ H ρ τ) (hd : Dat K o H v d) (h : bnd bd d ρ f)
    (q : ∀ σ' ρ', Rep K c o σ' H ρ' τ → (∀ ws, (∀ i ∈ bd.slots, i ∈ ws) → wipe σ' ws = wipe σ ws) → f ρ' → k σ' H) : bd.tg K v σ H k := by
  cases bd with
  | one i => exact q _ _ (R0.asg (m := .im d) hd) (fun ws hw => wipe_set (hw i (by simp [Bd.slots]))) h
  | many is =>
    unfold bnd at h
    simp only at h
    split at h
    · cases hd with
      | tup t r =>
        refine ⟨_, _, rfl, t.sq, by rw [r.length]; exact h.1, ?_⟩
        exact setAll_ok R0 r h.1 h.2 q
    · exact h.elim

/-! ### what is walked -/
inductive Src where
  | fx (ds : List D) | sl (i : Nat) (es ds : List D) | hs (i : Nat) (p : Bool) (v : V) (es ds : List D)
/-- the iterator yields what stands in ds, wherever C holds -/
def Runs (K : PySem.W.Frag) (J : It) (ds : List D) (C : Own → Hp → Prop) : Prop := ∀ o H, C o H → (∀ a l, o a = some l → Mut (H a)) →
  (∀ (i : Nat) d, ds[i]? = some d → J.go i H ∧ ∀ x H', J.yld i H x H' → Grow H H' ∧ Dat K o H' x d) ∧ J.stop ds.length H
def SrcOk (K : PySem.W.Frag) (J : It) (o : Own) (H : Hp) (σ : St) : Src → Prop
  | .fx ds => Runs K J ds fun o' H' => Le o H o' H'
  | .sl i es ds => ∃ v, σ[i]? = some (some v) ∧ Runs K J ds fun o' H' => ∃ l, IsM K o' H' l v (.ls es)
  | .hs i p v es ds => Runs K J ds fun o' H' => ∃ l, IsM K o' H' l v (.ls es)
abbrev TSrc := Env → (Src → Env → Prop) → Prop
def TIo (K : PySem.W.Frag) (c : Cc) (ti : TSrc) : TI := fun σ H R => ∃ o ρ τ Q, Rep K c o σ H ρ τ ∧ ti ρ Q ∧ ∀ J H' o' ρ' s, Le o H o' H' → Rep K c o' σ H' ρ' τ → SrcOk K J o' H' σ s → Q s ρ' → R J H'
def DI (X : Cx) (c : Cc) (tg iter : Expr) (ti : TSrc) : Prop := PI X tg iter (TIo X.K c ti)
theorem piImp {tg iter : Expr} {wi wi' : TI} (h : PI X tg iter wi) (f : ∀ σ H R, wi' σ H R → wi σ H R) : PI X tg iter wi' := ⟨fun pins s σ H R I q => h.run pins s σ H R I (f _ _ _ q)⟩
theorem PI.or {tg iter : Expr} {wi wi' : TI} (h : PI X tg iter wi) (h' : PI X tg iter wi') : PI X tg iter (fun σ H R => wi σ H R ∨ wi' σ H R) := ⟨fun pins s σ H R I q => by
  rcases q with q | q
  · exact h.run pins s σ H R I q
  · exact h'.run pins s σ H R I q⟩
theorem runs_list {ad : Addr} {ds : List D} {C : Own → Hp → Prop} (h : ∀ o H, C o H → ∃ xs, SqL K H ad xs ∧ Dats K o H xs ds) : Runs K (Itl K ad) ds C := fun o H hc mu => by
  obtain ⟨xs, h1, h2⟩ := h o H hc
  refine ⟨fun i d e => ?_, ⟨xs, h1, by rw [h2.length]; exact Nat.le_refl _⟩⟩
  obtain ⟨v, ev, dv⟩ := h2.get e
  refine ⟨⟨xs, v, h1, ev⟩, fun x H' y => ?_⟩
  obtain ⟨rfl, y⟩ := y
  have := y xs h1
  rw [ev] at this; cases this
  exact ⟨.refl, dv⟩
theorem runs_tup {ad : Addr} {xs : List V} {ds : List D} {C : Own → Hp → Prop} (h : ∀ o H, C o H → SqT K H ad xs ∧ Dats K o H xs ds) : Runs K (Itt K ad) ds C := fun o H hc mu => by
  obtain ⟨h1, h2⟩ := h o H hc
  refine ⟨fun i d e => ?_, ⟨xs, h1, by rw [h2.length]; exact Nat.le_refl _⟩⟩
  obtain ⟨v, ev, dv⟩ := h2.get e
  refine ⟨⟨xs, v, h1, ev⟩, fun x H' y => ?_⟩
  obtain ⟨rfl, y⟩ := y
  have := y xs h1
  rw [ev] at this; cases this
  exact ⟨.refl, dv⟩
/-- for .. in x: x data, a new list, a name's own list (which stays while it is walked), a list that is only read -/
def srcOf (r : R) (ρ : Env) (k : Src → Env → Prop) : Prop := match r with
  | .im (.tup ds) => k (.fx ds) ρ
  | .im (.lst ds) => k (.fx ds) ρ
  | .tm (.ls ds) => k (.fx ds) ρ
  | .sl i => match ρ[i]? with
    | some (.lo (.ls ds)) => k (.sl i ds ds) ρ
    | some (.pa (.ls ds)) => k (.sl i ds ds) ρ
    | some (.lo (.sq ds)) => k (.fx ds) ρ
    | some (.pa (.sq ds)) => k (.fx ds) ρ
    | some (.hd p v (.ls ds)) => k (.hs i p v ds ds) ρ
    | _ => False
  | .im (.str z) => k (.fx (z.cps.toList.map fun n => D.str ⟨#[n]⟩)) ρ
  | _ => False
def iAny (K : PySem.W.Frag) (tl : TE) : TI := fun σ H R => tl σ H fun x H1 => (∃ ad xs, x = .ref ad ∧ SqL K H1 ad xs ∧ R (Itl K ad) H1) ∨ (∃ ad xs, x = .ref ad ∧ SqT K H1 ad xs ∧ R (Itt K ad) H1) ∨ ∃ z, x = .str z ∧ R (Its z) H1
theorem pi_any {tg l : Expr} {tl : TE} (hl : PE X l tl) : PI X tg l (iAny X.K tl) := by
  constructor
  intro pins s σ H R I h
  refine thn (hl.run pins s σ H _ I h) ?_
  rintro v s1 ⟨x, H1, I1, r1, q⟩
  rcases q with ⟨ad, xs, rfl, hq, q⟩ | ⟨ad, xs, rfl, hq, q⟩ | ⟨z, rfl, q⟩
  · cases r1
    obtain ⟨its, rv, p, hz⟩ := I1.list hq
    exact wpAny_pyIter_list p.isList (pi_one (tk := s1.toks) I1 _ (turn_list ad _) ⟨_, Heap.get?_push_size _ rfl, rfl, rfl⟩ q)
  · cases r1
    obtain ⟨its, rv, p, hz⟩ := I1.tuple hq
    exact wpAny_pyIter_tuple (show s1.heap.IsTuple ad its.toArray from p) (pi_one (tk := s1.toks) I1 _ (turn_tuple ad _) ⟨_, Heap.get?_push_size _ rfl, rfl, rfl⟩ q)
  · obtain ⟨t, rfl⟩ := r1
    cases ha : z.cps.all (· < 128)
    · exact PySem.wpAny_pyIter_wide ha (pi_one (tk := s1.toks) I1 _ (turn_str _ z t "str_iterator" (.inr rfl)) ⟨_, Heap.get?_push_size _ rfl, rfl, rfl⟩ q)
    · exact PySem.wpAny_pyIter_ascii ha (pi_one (tk := s1.toks) I1 _ (turn_str _ z t "str_ascii_iterator" (.inl rfl)) ⟨_, Heap.get?_push_size _ rfl, rfl, rfl⟩ q)
def iSeq (t : TX) : TSrc := fun ρ k => t ρ fun r ρ1 => srcOf r ρ1 k
theorem runs_str {z : Str} {C : Own → Hp → Prop} : Runs K (Its z) (z.cps.toList.map fun n => D.str ⟨#[n]⟩) C := fun o H _ mu => by
  refine ⟨fun i d e => ?_, by show z.cps.size ≤ _; simp⟩
  rw [List.getElem?_map] at e
  cases q : z.cps.toList[i]? with
  | none => rw [q] at e; cases e
  | some n =>
    rw [q] at e; cases e
    have q2 : z.cps[i]? = some n := by simpa using q
    refine ⟨(Array.getElem?_eq_some_iff.mp q2).1, fun x H' y => ?_⟩
    obtain ⟨rfl, n', e', rfl⟩ := y
    rw [q2] at e'; cases e'
    exact ⟨.refl, .str _⟩
theorem src_ok {v : V} {r : R} {ti : Src → Env → Prop} {R' : It → Hp → Prop} (R1 : Rep K c o σ H ρ τ') (z : RelR K o H σ v r τ τ') (h : srcOf r ρ ti)
    (q : ∀ J o' s, Le o H o' H → Rep K c o' σ H ρ τ → SrcOk K J o' H σ s → ti s ρ → R' J H) :
    (∃ ad xs, v = .ref ad ∧ SqL K H ad xs ∧ R' (Itl K ad) H) ∨ (∃ ad xs, v = .ref ad ∧ SqT K H ad xs ∧ R' (Itt K ad) H) ∨ ∃ z, v = .str z ∧ R' (Its z) H := by
  unfold srcOf at h
  split at h
  · obtain ⟨rfl, z⟩ := z
    cases z with
    | tup t d => exact .inr (.inl ⟨_, _, rfl, t.sq, q _ o (.fx _) .refl R1 (runs_tup fun o' H' L => ⟨(t.mono L).sq, d.mono L⟩) h⟩)
  · obtain ⟨rfl, z⟩ := z
    cases z with
    | lst a b d => exact .inl ⟨_, _, rfl, SqL.of b, q _ o (.fx _) .refl R1 (runs_list fun o' H' L => ⟨_, SqL.of (L.keep _ _ a b).2, d.mono L⟩) h⟩
  · have z : τ' = τ ++ [(v, _)] := z
    subst z
    obtain ⟨a, xs, rfl, ho, hH, d⟩ := (R1.tm τ.length _ _ (by rw [List.getElem?_append_right (Nat.le_refl _), Nat.sub_self]; rfl)).1
    have R2 := R1.drop (List.prefix_append τ _)
    have e : dropT τ.length o a = none := by unfold dropT; rw [ho]; show (if τ.length < τ.length then _ else none) = none; rw [if_neg (Nat.lt_irrefl _)]
    exact .inl ⟨_, _, rfl, SqL.of hH, q _ _ (.fx _) (dropT_le _) R2 (runs_list fun o' H' L => ⟨_, SqL.of (L.keep _ _ e hH).2, (d.mono (dropT_le τ.length)).mono L⟩) h⟩
  · obtain ⟨rfl, z⟩ := z
    split at h
    · rename_i ds e
      obtain ⟨w, e1, a, xs, rfl, ho, hH, d⟩ := R1.sl _ _ e
      rw [z] at e1; cases e1
      refine .inl ⟨_, _, rfl, SqL.of hH, q _ o (.sl _ ds ds) .refl R1 ⟨_, z, runs_list fun o' H' ⟨l, b, ys, e2, h1, h2, h3⟩ => ?_⟩ h⟩
      cases e2; exact ⟨ys, SqL.of h2, h3⟩
    · rename_i ds e
      obtain ⟨w, e1, _, a, xs, rfl, ho, hH, d⟩ := R1.sl _ _ e
      rw [z] at e1; cases e1
      refine .inl ⟨_, _, rfl, SqL.of hH, q _ o (.sl _ ds ds) .refl R1 ⟨_, z, runs_list fun o' H' ⟨l, b, ys, e2, h1, h2, h3⟩ => ?_⟩ h⟩
      cases e2; exact ⟨ys, SqL.of h2, h3⟩
    · rename_i ds e
      obtain ⟨w, e1, a, xs, rfl, hl, d⟩ := R1.sl _ _ e
      rw [z] at e1; cases e1
      exact .inl ⟨_, _, rfl, hl.sq, q _ o (.fx _) .refl R1 (runs_list fun o' H' L => ⟨_, (hl.mono L).sq, d.mono L⟩) h⟩
    · rename_i ds e
      obtain ⟨w, e1, _, a, xs, rfl, hl, d⟩ := R1.sl _ _ e
      rw [z] at e1; cases e1
      exact .inl ⟨_, _, rfl, hl.sq, q _ o (.fx _) .refl R1 (runs_list fun o' H' L => ⟨_, (hl.mono L).sq, d.mono L⟩) h⟩
    · rename_i p v0 ds e
      obtain ⟨e1, _, a, xs, rfl, ho, hH, d⟩ := R1.sl _ _ e
      rw [z] at e1; cases e1
      refine .inl ⟨_, _, rfl, SqL.of hH, q _ o (.hs _ p _ ds ds) .refl R1 (runs_list fun o' H' ⟨l, b, ys, e2, h1, h2, h3⟩ => ?_) h⟩
      cases e2; exact ⟨ys, SqL.of h2, h3⟩
    · exact h.elim
  · obtain ⟨rfl, z⟩ := z
    cases z
    exact .inr (.inr ⟨_, rfl, q _ o (.fx _) .refl R1 runs_str h⟩)
  · exact h.elim
theorem di_seq {tg : Expr} (h : DE X c e t) : DI X c tg e (iSeq t) := piImp (pi_any h) fun σ H R hh => by
  obtain ⟨o, ρ, τ, Q, R0, hh, q⟩ := hh
  exact ⟨o, ρ, τ, _, R0, hh, fun v1 H1 o1 r1 ρ1 τ1 L1 R1 z1 h1 => src_ok R1 z1 h1 fun J o' s L R' ok hs => q J H1 o' ρ1 s (L1.trans L) R' ok hs⟩

/-! ### range -/
def gRng (lo : Int) (n : Nat) : List D := (List.range n).map fun (i : Nat) => D.int (lo + (i : Int))
theorem runs_rng {lo : Int} {n : Nat} {C : Own → Hp → Prop} : Runs K (Itr lo n) (gRng lo n) C := fun o H _ mu => by
  refine ⟨fun i d e => ?_, by show n ≤ _; simp [gRng]⟩
  unfold gRng at e
  rw [List.getElem?_map] at e
  by_cases hi : i < n
  · rw [List.getElem?_range hi] at e
    cases e
    refine ⟨hi, fun x H' y => ?_⟩
    obtain ⟨rfl, rfl⟩ := y
    exact ⟨.refl, .int _⟩
  · rw [List.getElem?_eq_none (by simpa using hi)] at e; cases e
def iRg1 (ta : TL) : TSrc := fun ρ k => ta ρ fun rs ρ1 => match rs with
  | [.im (.int j)] => j < 2 ^ 62 ∧ -(2 ^ 62) ≤ j ∧ k (.fx (gRng 0 j.toNat)) ρ1
  | _ => False
def iRg2 (ta : TL) : TSrc := fun ρ k => ta ρ fun rs ρ1 => match rs with
  | [.im (.int i), .im (.int j)] => (-(2 ^ 62) ≤ i ∧ i < 2 ^ 62 ∧ -(2 ^ 62) ≤ j ∧ j < 2 ^ 62) ∧ k (.fx (gRng i (j - i).toNat)) ρ1
  | _ => False
section
variable {tg : Expr} {p : Pos} {tl : TL}
theorem di_rng1 (hg : Gl X "range") (hm : X.mg "range" = none) (ha : DA X c [a] tl) (hs : starEach [a] X.env = [(false, eval a X.env)] := by rfl) : DI X c tg (.Call (.Name "range" p) [a] [] pos) (iRg1 tl) :=
  piImp (pi_range1 hg hm ha hs) fun σ H R hh => by
    obtain ⟨o, ρ, τ, Q, R0, hh, q⟩ := hh
    refine ⟨o, ρ, τ, _, R0, hh, fun vs H1 o1 rs ρ1 τ1 L1 R1 z1 h1 => ?_⟩
    split at h1
    · cases z1 with
      | cons z t =>
        cases t
        obtain ⟨rfl, z⟩ := z
        cases z
        exact ⟨_, rfl, h1.2.1, h1.1, q _ H1 o1 ρ1 (.fx _) L1 R1 runs_rng h1.2.2⟩
    · exact h1.elim
theorem di_rng2 (hg : Gl X "range") (hm : X.mg "range" = none) (ha : DA X c [a, b] tl) (hs : starEach [a, b] X.env = [(false, eval a X.env), (false, eval b X.env)] := by rfl) (hs2 : starEach [b] X.env = [(false, eval b X.env)] := by rfl) :
    DI X c tg (.Call (.Name "range" p) [a, b] [] pos) (iRg2 tl) :=
  piImp (pi_range2 hg hm ha hs hs2) fun σ H R hh => by
    obtain ⟨o, ρ, τ, Q, R0, hh, q⟩ := hh
    refine ⟨o, ρ, τ, _, R0, hh, fun vs H1 o1 rs ρ1 τ1 L1 R1 z1 h1 => ?_⟩
    split at h1
    · cases z1 with
      | cons z t =>
        cases t with
        | cons z2 t2 =>
          cases t2
          obtain ⟨rfl, z⟩ := z
          obtain ⟨rfl, z2⟩ := z2
          cases z
          cases z2
          exact ⟨_, _, rfl, h1.1, q _ H1 o1 ρ1 (.fx _) L1 R1 runs_rng h1.2⟩
    · exact h1.elim
end
end
end Y
namespace Y
open PySem PySem.Spec L2

section
variable {K : PySem.W.Frag} {c : Cc} {o o' : Own} {σ σ' : St} {H H' : Hp} {ρ ρ' : Env} {τ τ' τ0 τ1 : List (V × M)} {X : Cx} {e a b : Expr} {es : List Expr} {pos : Pos} {t u : TX} {P : EndP} {D' : Ends}
/-! ### for -/
/-- the turns over ds; gd: what holds between two turns -/
def loopS (b : Bd) (t : TSX) (gd : Env → Prop) (P : EndP) : List D → Env → Prop
  | [], ρ => gd ρ ∧ P.nx ρ
  | d :: ds, ρ => gd ρ ∧ bnd b d ρ fun ρ1 => t { P with nx := loopS b t gd P ds, ct := loopS b t gd P ds, bk := P.nx } ρ1
theorem loop_ok {J : It} {ds : List D} {bd : Bd} {t : TSX} {gd : Env → Prop} {C : Own → Hp → Prop} {o1 : Own} {H1 : Hp} (hr : Runs K J ds C) (hc : ∀ o' σ' H' ρ', Le o1 H1 o' H' → Rep K c o' σ' H' ρ' [] → gd ρ' → C o' H')
    (R0 : Rep K c o1 σ H1 ρ []) (w : Ways K c o1 H1 P D') (h : loopS bd t gd P ds ρ) :
    ∃ W : Nat → Nat → St → Hp → Prop, (∃ m, W 0 m σ H1) ∧ ∀ i m σ H, W i m σ H →
      (J.stop i H ∧ D'.nx σ H) ∨ (J.go i H ∧ ∃ N : St → Hp → Prop, (∀ σ' H', N σ' H' → ∃ m', m' < m ∧ W (i + 1) m' σ' H') ∧ ∀ x H', J.yld i H x H' → bd.tg K x σ H' fun σ2 H2 => TSo K c t { D' with nx := N, ct := N, bk := D'.nx } σ2 H2) := by
  refine ⟨fun i m σ H => m = ds.length - i ∧ i ≤ ds.length ∧ ∃ o ρ, Le o1 H1 o H ∧ Rep K c o σ H ρ [] ∧ loopS bd t gd P (ds.drop i) ρ, ⟨ds.length, by simp, Nat.zero_le _, o1, ρ, .refl, R0, by simpa using h⟩, ?_⟩
  rintro i m σ H ⟨rfl, hi, o, ρ, L, R, h⟩
  by_cases hlt : i < ds.length
  · have e : ds.drop i = ds[i] :: ds.drop (i + 1) := List.drop_eq_getElem_cons hlt
    rw [e] at h
    obtain ⟨hg, h⟩ := h
    obtain ⟨go, yl⟩ := (hr o H (hc o σ H ρ L R hg) R.mu).1 i ds[i] (by simp [hlt])
    refine .inr ⟨go, fun σ' H' => ∃ o' ρ', Le o1 H1 o' H' ∧ Rep K c o' σ' H' ρ' [] ∧ loopS bd t gd P (ds.drop (i + 1)) ρ', fun σ' H' ⟨o', ρ', L', R', h'⟩ => ⟨ds.length - (i + 1), by omega, rfl, hlt, o', ρ', L', R', h'⟩, fun x H' y => ?_⟩
    obtain ⟨g, dx⟩ := yl x H' y
    refine bnd_ok (R.grow g) dx h fun σ' ρ' R' _ hf => ?_
    have L2 : Le o1 H1 o H' := L.trans (g.le R.mu)
    refine ⟨o, ρ', _, R', hf, ⟨fun σ2 H2 o2 ρ2 L3 R3 q => ⟨o2, ρ2, L2.trans L3, R3, q⟩, w.rt.le L2, ?_, fun σ2 H2 o2 ρ2 L3 R3 q => ⟨o2, ρ2, L2.trans L3, R3, q⟩⟩⟩
    exact w.nx.le L2
  · have e : i = ds.length := by omega
    subst e
    rw [List.drop_length] at h
    exact .inl ⟨(hr o H (hc o σ H ρ L R h.1) R.mu).2, w.nx σ H o ρ L R h.2⟩
def Sl.isP : Sl → Bool
  | .pa _ => true
  | _ => false
/-- the slot's object is walked: it is read, not changed -/
theorem Rep.hide (R0 : Rep K c o σ H ρ τ) {i : Nat} {s : Sl} {m : M} (e : ρ[i]? = some s) (em : s.m! = some m) : ∃ v, σ[i]? = some (some v) ∧ Rep K c (relL (.s i) (.h i) o) σ H (ρ.set i (.hd s.isP v m)) τ := by
  have L : Le o H (relL (.s i) (.h i) o) H := relL_le (by intro z; cases z)
  have k := R0.sl i s e
  have R1 := R0.move i (.h i)
  have go : ∀ (p : Bool) (v : V), σ[i]? = some (some v) → (p = true → c.pv[i]? = some v) → IsM K o H (.s i) v m → Rep K c (relL (.s i) (.h i) o) σ H (ρ.set i (.hd p v m)) τ := fun p v hv hp q => by
    refine ⟨fun j s' z => ?_, R1.tm, R1.mu, R1.le, by rw [List.length_set]; exact R0.ln⟩
    by_cases hj : i = j
    · subst hj
      rw [List.getElem?_set_self (List.getElem?_eq_some_iff.mp e).1] at z; cases z
      exact ⟨hv, hp, q.mono L fun a y => ⟨relL_same y, rfl⟩⟩
    · rw [List.getElem?_set_ne hj] at z
      exact R1.sl j s' (by rw [List.getElem?_set_ne hj]; exact z)
  cases s with
  | no => cases em
  | lo z => cases em; obtain ⟨v, hv, q⟩ := k; exact ⟨v, hv, go false v hv (fun z => by cases z) q⟩
  | pa z => cases em; obtain ⟨v, hv, hp, q⟩ := k; exact ⟨v, hv, go true v hv (fun _ => hp) q⟩
  | hd p v z => cases em
/-- .. no more -/
theorem Rep.unhide (R0 : Rep K c o σ H ρ τ) {i : Nat} {p : Bool} {v : V} {m : M} (e : ρ[i]? = some (.hd p v m)) : Rep K c (relL (.h i) (.s i) o) σ H (ρ.set i (if p then .pa m else .lo m)) τ ∧ Le o H (relL (.h i) (.s i) o) H := by
  have L : Le o H (relL (.h i) (.s i) o) H := relL_le (by intro z; cases z)
  obtain ⟨hv, hp, q⟩ := R0.sl i _ e
  refine ⟨⟨fun j s' z => ?_, fun j w m' z => ⟨(R0.tm j w m' z).1.mono L fun a q => ⟨relL_other (by intro z; cases z) q, rfl⟩, (R0.tm j w m' z).2⟩, relL_mu R0.mu, R0.le.trans L, by rw [List.length_set]; exact R0.ln⟩, L⟩
  by_cases hj : i = j
  · subst hj
    rw [List.getElem?_set_self (List.getElem?_eq_some_iff.mp e).1] at z; cases z
    have q' : IsM K (relL (.h i) (.s i) o) H (.s i) v m := q.mono L fun a y => ⟨relL_same y, rfl⟩
    cases p with
    | true => exact ⟨v, hv, hp rfl, q'⟩
    | false => exact ⟨v, hv, q'⟩
  · rw [List.getElem?_set_ne hj] at z
    exact (R0.sl j s' z).mono L (fun a q => ⟨relL_other (by intro z; cases z) q, rfl⟩) fun a q => ⟨relL_other (by intro z; injection z with z; exact hj z.symm) q, rfl⟩
def backS (i : Nat) (s : Sl) (v : V) (m : M) (f : Env → Prop) : Env → Prop := fun ρ => ρ[i]? = some (.hd s.isP v m) ∧ f (ρ.set i s)
def sFor (ti : TSrc) (b : Bd) (t : TSX) : TSX := fun P ρ => ti ρ fun src ρ1 => match src with
  | .fx ds => loopS b t (fun _ => True) P ds ρ1
  | .sl i es ds => match ρ1[i]? with
    | some s => match s.m! with
      | some m => m = .ls es ∧ ∀ v, loopS b t (fun ρ => ρ[i]? = some (.hd s.isP v m)) { P with nx := backS i s v m P.nx } ds (ρ1.set i (.hd s.isP v m))
      | none => False
    | none => False
  | .hs i p v es ds => loopS b t (fun ρ => ρ[i]? = some (.hd p v (.ls es))) P ds ρ1
theorem ds_for {tg iter : Expr} {body : List Stmt} {ti : TSrc} {bd : Bd} {t : TSX} (hp : PassesOwn (model X.prog X.w) X.A X.env X.xe) (hc : X.calm = true) (hi : DI X c tg iter ti) (hg : PG X tg (bd.tg X.K)) (hb : DSs X c body t)
    (hs : ∀ x, foldedSetIterable iter X.env x = pure x := by intro _; rfl) : DS X c (.For tg iter body [] pos) (sFor ti bd t) :=
  psImp (ps_for hp hc hi hg hb hs) fun D σ H h => by
    obtain ⟨o, ρ, P, R0, h, w⟩ := h
    refine ⟨o, ρ, [], _, R0, h, fun J H1 o1 ρ1 src L1 R1 ok h1 => ?_⟩
    cases src with
    | fx ds =>
      exact loop_ok (C := fun o' H' => Le o1 H1 o' H') ok (fun o' σ' H' ρ' L R _ => L) R1 (w.le L1) h1
    | sl i es ds =>
      obtain ⟨v0, hv0, ok⟩ := ok
      have h1 : (match ρ1[i]? with
        | some s => match s.m! with
          | some m => m = .ls es ∧ ∀ v, loopS bd t (fun ρ => ρ[i]? = some (.hd s.isP v m)) { P with nx := backS i s v m P.nx } ds (ρ1.set i (.hd s.isP v m))
          | none => False
        | none => False) := h1
      split at h1
      · rename_i s e
        split at h1
        · rename_i m em
          obtain ⟨rfl, h1⟩ := h1
          obtain ⟨v, hv, R2⟩ := R1.hide e em
          rw [hv0] at hv; cases hv
          have L2 : Le o1 H1 (relL (.s i) (.h i) o1) H1 := relL_le (by intro z; cases z)
          refine loop_ok (P := { P with nx := backS i s v0 (.ls es) P.nx }) (C := fun o' H' => ∃ l, IsM X.K o' H' l v0 (.ls es)) ok (fun o' σ' H' ρ' L R g => ?_) R2 ⟨fun σ' H' o' ρ' L R q => ?_, (w.le (L1.trans L2)).rt, (w.le (L1.trans L2)).bk, (w.le (L1.trans L2)).ct⟩ (h1 v0)
          · obtain ⟨_, _, q⟩ := R.sl i _ g
            exact ⟨_, q⟩
          · obtain ⟨q1, q2⟩ := q
            obtain ⟨R3, L3⟩ := R.unhide q1
            refine w.nx σ' H' _ _ (L1.trans (L2.trans (L.trans L3))) R3 ?_
            cases s with
            | pa z => cases em; exact q2
            | lo z => cases em; exact q2
            | no => cases em
            | hd _ _ _ => cases em
        · exact h1.elim
      · exact h1.elim
    | hs i p v es ds =>
      refine loop_ok (C := fun o' H' => ∃ l, IsM X.K o' H' l v (.ls es)) ok (fun o' σ' H' ρ' L R g => ?_) R1 (w.le L1) h1
      obtain ⟨_, _, q⟩ := R.sl i _ g
      exact ⟨_, q⟩

/-! ### while -/
def whileS (q : TQ) (t : TSX) (P : EndP) : Nat → Env → Prop
  | 0, _ => False
  | n + 1, ρ => q ρ fun b ρ1 => if b = true then t { P with nx := whileS q t P n, ct := whileS q t P n, bk := P.nx } ρ1 else P.nx ρ1
def sWhile (q : TQ) (t : TSX) : TSX := fun P ρ => ∃ n, whileS q t P n ρ
theorem ds_while {cond : Expr} {body : List Stmt} {q : TQ} {t : TSX} (hp : PassesOwn (model X.prog X.w) X.A X.env X.xe) (hc : DT X c cond q) (hb : DSs X c body t) : DS X c (.While cond body [] pos) (sWhile q t) :=
  psImp (ps_while hp hc hb) fun D σ H h => by
    obtain ⟨o, ρ, P, R0, ⟨n, h⟩, w⟩ := h
    refine ⟨fun m σ' H' => ∃ o' ρ', Le o H o' H' ∧ Rep X.K c o' σ' H' ρ' [] ∧ whileS q t P m ρ', ⟨n, o, ρ, .refl, R0, h⟩, fun m σ' H' ⟨o', ρ', L, R, h⟩ => ?_⟩
    cases m with
    | zero => exact h.elim
    | succ m =>
      refine ⟨o', ρ', [], _, R, h, fun b H2 o2 ρ2 L2 R2 h2 => ?_⟩
      cases b with
      | false => exact w.nx σ' H2 o2 ρ2 (L.trans L2) R2 h2
      | true =>
        refine ⟨fun σ3 H3 => ∃ o3 ρ3, Le o H o3 H3 ∧ Rep X.K c o3 σ3 H3 ρ3 [] ∧ whileS q t P m ρ3, fun σ3 H3 h3 => ⟨m, Nat.lt_succ_self _, h3⟩, ?_⟩
        have L3 := L.trans L2
        exact ⟨o2, ρ2, _, R2, h2, ⟨fun σ3 H3 o3 ρ3 L4 R4 q => ⟨o3, ρ3, L3.trans L4, R4, q⟩, w.rt.le L3, w.nx.le L3, fun σ3 H3 o3 ρ3 L4 R4 q => ⟨o3, ρ3, L3.trans L4, R4, q⟩⟩⟩

/-! ### a, b = e -/
def sUnp (b : Bd) (t : TX) : TSX := fun P ρ => t ρ fun r ρ1 => match r with
  | .im d => bnd b d ρ1 P.nx
  | _ => False
theorem ds_unp {tg : Expr} {bd : Bd} (h : DE X c e t) (hg : PG X tg (bd.tg X.K)) (hs : swapsWithSole [tg] e pos.line X.env = pure false := by rfl) (hw : swappedStores [tg] e X.env = pure none := by rfl)
    (h1 : (assignEach [tg] X.env).map (·.2) = [assign tg X.env] := by rfl) : DS X c (.Assign [tg] e pos) (sUnp bd t) :=
  psImp (ps_asg h hg hs hw h1) fun D σ H h => by
    obtain ⟨o, ρ, P, R0, h, w⟩ := h
    refine ⟨o, ρ, [], _, R0, h, fun v H1 o1 r1 ρ1 τ1 L1 R1 z1 h1 => ?_⟩
    split at h1
    · obtain ⟨rfl, z⟩ := z1
      exact bnd_ok R1 z h1 fun σ' ρ' R _ hf => w.nx σ' H1 o1 ρ' L1 R hf
    · exact h1.elim
end
end Y
namespace Y
open PySem PySem.Spec L2

section
variable {K : PySem.W.Frag} {c : Cc} {o o' : Own} {σ σ' : St} {H H' : Hp} {ρ ρ' : Env} {τ τ' τ0 τ1 : List (V × M)} {X : Cx} {e a b : Expr} {es : List Expr} {pos : Pos} {t u : TX} {P : EndP} {D' : Ends}
/-! ### comprehensions -/
def wipeE (ρ : Env) : List Nat → Env
  | [] => ρ
  | v :: vs => (wipeE ρ vs).set v .no
def keepS : Option Sl → Sl
  | some (.lo (.im d)) => .lo (.im d)
  | some (.pa (.im d)) => .pa (.im d)
  | _ => .no
def restE (ρ0 ρ : Env) : List Nat → Env
  | [] => ρ
  | v :: vs => (restE ρ0 ρ vs).set v (keepS ρ0[v]?)
theorem wipe_idem {vs : List Nat} : wipe (wipe σ vs) vs = wipe σ vs := by
  apply List.ext_getElem?
  intro j
  by_cases hj : j ∈ vs
  · by_cases hl : j < σ.length
    · rw [wipe_at hj hl, wipe_at hj (by rw [wipe_length]; exact hl)]
    · rw [List.getElem?_eq_none (by rw [wipe_length, wipe_length]; omega), List.getElem?_eq_none (by rw [wipe_length]; omega)]
  · rw [wipe_out hj]
theorem wipeE_length : ∀ vs : List Nat, (wipeE ρ vs).length = ρ.length
  | [] => rfl
  | v :: vs => by unfold wipeE; rw [List.length_set, wipeE_length vs]
theorem wipeE_at {i : Nat} {s : Sl} : ∀ {vs : List Nat}, (wipeE ρ vs)[i]? = some s → s = .no ∨ (i ∉ vs ∧ ρ[i]? = some s)
  | [], h => .inr ⟨by simp, h⟩
  | v :: vs, h => by
    unfold wipeE at h
    by_cases hi : v = i
    · subst hi
      by_cases hv : v < (wipeE ρ vs).length
      · rw [List.getElem?_set_self hv] at h; cases h; exact .inl rfl
      · rw [List.getElem?_eq_none (by simpa using hv)] at h; cases h
    · rw [List.getElem?_set_ne hi] at h
      rcases wipeE_at h with q | ⟨q1, q2⟩
      · exact .inl q
      · exact .inr ⟨by simp only [List.mem_cons, not_or]; exact ⟨fun z => hi z.symm, q1⟩, q2⟩
theorem SlOk.st {i : Nat} (h : σ'[i]? = σ[i]?) : ∀ {s : Sl}, SlOk K c o σ H i s → SlOk K c o σ' H i s
  | .no, _ => trivial
  | .lo _, ⟨v, e, q⟩ => ⟨v, h.trans e, q⟩
  | .pa _, ⟨v, e, f, q⟩ => ⟨v, h.trans e, f, q⟩
  | .hd _ _ _, ⟨e, f, q⟩ => ⟨h.trans e, f, q⟩
theorem Rep.wipe (R0 : Rep K c o σ H ρ τ) (vs : List Nat) : Rep K c o (L2.wipe σ vs) H (wipeE ρ vs) τ :=
  ⟨fun i s e => by
    rcases wipeE_at e with rfl | ⟨hi, e⟩
    · exact trivial
    · exact (R0.sl i s e).st (wipe_out hi), R0.tm, R0.mu, R0.le, by rw [wipeE_length, wipe_length]; exact R0.ln⟩
theorem SlOk.unwipe {vs : List Nat} {i : Nat} : ∀ {s : Sl}, SlOk K c o (L2.wipe σ vs) H i s → SlOk K c o σ H i s
  | .no, _ => trivial
  | .lo _, ⟨v, e, q⟩ => ⟨v, (wipe_some e).1, q⟩
  | .pa _, ⟨v, e, f, q⟩ => ⟨v, (wipe_some e).1, f, q⟩
  | .hd _ _ _, ⟨e, f, q⟩ => ⟨(wipe_some e).1, f, q⟩
theorem Rep.setS (R0 : Rep K c o σ H ρ τ) {i : Nat} {s : Sl} (h : SlOk K c o σ H i s) : Rep K c o σ H (ρ.set i s) τ := by
  refine ⟨fun j s' z => ?_, R0.tm, R0.mu, R0.le, by rw [List.length_set]; exact R0.ln⟩
  by_cases hj : i = j
  · subst hj
    by_cases hl : i < ρ.length
    · rw [List.getElem?_set_self hl] at z; cases z; exact h
    · rw [List.getElem?_eq_none (by simpa using hl)] at z; cases z
  · rw [List.getElem?_set_ne hj] at z
    exact R0.sl j s' z
theorem keepS_ok {ρ0 : Env} {o0 : Own} {H0 : Hp} {τ2 : List (V × M)} (R0 : Rep K c o0 σ H0 ρ0 τ2) (L : Le o0 H0 o H) (v : Nat) : SlOk K c o σ H v (keepS ρ0[v]?) := by
  unfold keepS
  split
  · rename_i d e
    obtain ⟨w, e1, q⟩ := R0.sl v _ e
    exact ⟨w, e1, Dat.mono L q⟩
  · rename_i d e
    obtain ⟨w, e1, e2, q⟩ := R0.sl v _ e
    exact ⟨w, e1, e2, Dat.mono L q⟩
  · exact trivial
theorem Rep.rest {ρ0 : Env} {o0 : Own} {H0 : Hp} {τ2 : List (V × M)} (R0 : Rep K c o0 σ H0 ρ0 τ2) (L : Le o0 H0 o H) {vs : List Nat} (R : Rep K c o (L2.wipe σ vs) H ρ τ) : Rep K c o σ H (restE ρ0 ρ vs) τ := by
  have R1 : Rep K c o σ H ρ τ := ⟨fun i s e => (R.sl i s e).unwipe, R.tm, R.mu, R.le, by rw [R.ln, wipe_length]⟩
  clear R
  have all : ∀ ws : List Nat, Rep K c o σ H (restE ρ0 ρ ws) τ := by
    intro ws
    induction ws with
    | nil => exact R1
    | cons v ws ih => exact ih.setS (keepS_ok R0 L v)
  exact all vs
theorem rest_out {ρ0 : Env} {i : Nat} : ∀ {vs : List Nat}, i ∉ vs → (restE ρ0 ρ vs)[i]? = ρ[i]?
  | [], _ => rfl
  | v :: vs, h => by
    unfold restE
    rw [List.getElem?_set_ne (fun z => h (by rw [z]; exact List.mem_cons_self)), rest_out fun z => h (List.mem_cons_of_mem _ z)]
/-- the last temporary is changed -/
theorem Rep.setT {a : Addr} {m m' : M} {u : HO} (R0 : Rep K c o σ H ρ (τ ++ [(.ref a, m)])) (ho : o a = some (.t τ.length)) (hu : Mut (some u)) (hm : m'.own = true) (h : IsM K o (upd H a u) (.t τ.length) (.ref a) m') :
    Rep K c o σ (upd H a u) ρ (τ ++ [(.ref a, m')]) ∧ Le o H o (upd H a u) := by
  have ne : ∀ b l, o b = some l → l ≠ .t τ.length → b ≠ a := fun b l q z w => by subst w; rw [ho] at q; cases q; exact z rfl
  have L : Le o H o (upd H a u) := ⟨fun b w q f => ⟨q, by rw [upd_ne (fun z => by subst z; rw [ho] at q; cases q)]; exact f⟩, fun b q => ⟨q, upd_ne (ne b _ q (by intro z; cases z))⟩⟩
  have kp : ∀ l, l ≠ .t τ.length → ∀ b, o b = some l → o b = some l ∧ upd H a u b = H b := fun l z b q => ⟨q, upd_ne (ne b l q z)⟩
  refine ⟨⟨fun j s' q => (R0.sl j s' q).mono L (kp _ (by intro z; cases z)) (kp _ (by intro z; cases z)), fun j v m2 q => ?_, fun b l q => ?_, R0.le.trans L, R0.ln⟩, L⟩
  · by_cases hj : j < τ.length
    · rw [List.getElem?_append_left hj] at q
      have k := R0.tm j v m2 (by rw [List.getElem?_append_left hj]; exact q)
      exact ⟨k.1.mono L (kp _ (by intro z; injection z with z; omega)), k.2⟩
    · rw [List.getElem?_append_right (by omega)] at q
      have e0 : j - τ.length = 0 := by
        cases e : j - τ.length with
        | zero => rfl
        | succ n => rw [e] at q; simp at q
      rw [e0] at q
      have e2 : j = τ.length := by omega
      subst e2
      simp at q
      obtain ⟨rfl, rfl⟩ := q
      exact ⟨h, hm⟩
  · by_cases z : b = a
    · subst z; rw [upd_same]; exact hu
    · rw [upd_ne z]; exact R0.mu b l q
def compL (b : Bd) (tq : TQ) (te : TX) (vs : List Nat) (gd : Env → Prop) (k : List D → Env → Prop) : List D → List D → Env → Prop
  | [], acc, ρ => gd ρ ∧ k acc ρ
  | d :: ds, acc, ρ => gd ρ ∧ bnd b d ρ fun ρ1 => tq ρ1 fun ok ρ2 =>
    if ok = true then tFrz (lCons te lNil) (fun xs ρ3 => match xs with
      | [x] => acc.length < sizeLine ∧ compL b tq te vs gd k ds (acc ++ [x]) (wipeE ρ3 vs)
      | _ => False) ρ2
    else compL b tq te vs gd k ds acc (wipeE ρ2 vs)
theorem comp_ok {J : It} {ds : List D} {bd : Bd} {tq : TQ} {te : TX} {vs : List Nat} {gd : Env → Prop} {k : List D → Env → Prop} {C : Own → Hp → Prop} {o1 : Own} {H1 : Hp} {Qd : Hp → Prop} {L : Addr} {acc0 : List D} (hr : Runs K J ds C) (hvs : ∀ i ∈ bd.slots, i ∈ vs)
    (hc : ∀ o' H' ρ' τ', Le o1 H1 o' H' → Rep K c o' (L2.wipe σ vs) H' ρ' τ' → gd ρ' → C o' H') (R0 : Rep K c o1 (L2.wipe σ vs) H1 ρ (τ ++ [(.ref L, .ls acc0)]))
    (h : compL bd tq te vs gd k ds acc0 ρ)
    (q : ∀ o' H' ρ' acc, Le o1 H1 o' H' → Rep K c o' (L2.wipe σ vs) H' ρ' (τ ++ [(.ref L, .ls acc)]) → gd ρ' → k acc ρ' → Qd H') :
    ∃ W : Nat → Nat → Hp → Prop, (∃ m, W 0 m H1) ∧ ∀ i m H, W i m H →
      (J.stop i H ∧ Qd H) ∨ (J.go i H ∧ ∃ Nx : Hp → Prop, (∀ H', Nx H' → ∃ m', m' < m ∧ W (i + 1) m' H') ∧ ∀ x H', J.yld i H x H' → bd.tg K x (L2.wipe σ vs) H' fun σ2 H2 => L2.wipe σ2 vs = L2.wipe σ vs ∧
        TTo K c tq σ2 H2 fun b H3 => if b = true then TEo K c te σ2 H3 fun y H4 => ∃ acc, H4 L = some (.lst acc) ∧ acc.length < sizeLine ∧ Nx (upd H4 L (.lst (acc ++ [y]))) else Nx H3) := by
  refine ⟨fun i m H => m = ds.length - i ∧ i ≤ ds.length ∧ ∃ o ρ acc, Le o1 H1 o H ∧ Rep K c o (L2.wipe σ vs) H ρ (τ ++ [(.ref L, .ls acc)]) ∧ compL bd tq te vs gd k (ds.drop i) acc ρ,
    ⟨ds.length, by simp, Nat.zero_le _, o1, ρ, acc0, .refl, R0, by simpa using h⟩, ?_⟩
  rintro i m H ⟨rfl, hi, o, ρ, acc, Lo, R, h⟩
  by_cases hlt : i < ds.length
  · have e : ds.drop i = ds[i] :: ds.drop (i + 1) := List.drop_eq_getElem_cons hlt
    rw [e] at h
    obtain ⟨hg, h⟩ := h
    obtain ⟨go, yl⟩ := (hr o H (hc o H ρ _ Lo R hg) R.mu).1 i ds[i] (by simp [hlt])
    refine .inr ⟨go, fun H' => ∃ o' ρ' acc', Le o1 H1 o' H' ∧ Rep K c o' (L2.wipe σ vs) H' ρ' (τ ++ [(.ref L, .ls acc')]) ∧ compL bd tq te vs gd k (ds.drop (i + 1)) acc' ρ',
      fun H' ⟨o', ρ', acc', L', R', h'⟩ => ⟨ds.length - (i + 1), by omega, rfl, hlt, o', ρ', acc', L', R', h'⟩, fun x H' y => ?_⟩
    obtain ⟨g, dx⟩ := yl x H' y
    refine bnd_ok (R.grow g) dx h fun σ' ρ' R' hw hf => ?_
    have hw' : L2.wipe σ' vs = L2.wipe σ vs := by rw [hw vs hvs, wipe_idem]
    have L2' : Le o1 H1 o H' := Lo.trans (g.le R.mu)
    refine ⟨hw', o, ρ', _, _, R', hf, fun b H3 o3 ρ3 L3 R3 h3 => ?_⟩
    cases b with
    | false =>
      have R4 := R3.wipe vs
      rw [hw'] at R4
      exact ⟨o3, _, acc, L2'.trans L3, R4, h3⟩
    | true =>
      rw [if_pos rfl]
      refine frz1 R3 h3 fun y H4 o4 d ρ4 L4 R4 dy h4 => ?_
      obtain ⟨h5, h4⟩ := (show acc.length < sizeLine ∧ compL bd tq te vs gd k (ds.drop (i + 1)) (acc ++ [d]) (wipeE ρ4 vs) from h4)
      obtain ⟨⟨ad, xs, e1, e2, e3, e4⟩, _⟩ := R4.tm τ.length (.ref L) (.ls acc) (by simp)
      cases e1
      have Lm : Le o4 H4 o4 (upd H4 L (.lst (xs ++ [y]))) :=
        ⟨fun b w qq f => ⟨qq, by rw [upd_ne (fun z => by subst z; rw [e2] at qq; cases qq)]; exact f⟩, fun b qq => ⟨qq, upd_ne (fun z => by subst z; rw [e2] at qq; cases qq)⟩⟩
      obtain ⟨R5, L5⟩ := R4.setT (m' := .ls (acc ++ [d])) (u := .lst (xs ++ [y])) e2 trivial rfl ⟨L, _, rfl, e2, upd_same, (e4.append (.cons dy .nil)).mono Lm⟩
      have R6 := R5.wipe vs
      rw [hw'] at R6
      exact ⟨xs, e3, by rw [e4.length]; exact h5, o4, _, _, L2'.trans (L3.trans (L4.trans L5)), R6, h4⟩
  · have e : i = ds.length := by omega
    subst e
    rw [List.drop_length] at h
    exact .inl ⟨(hr o H (hc o H ρ _ Lo R h.1) R.mu).2, q o H ρ acc Lo R h.1 h.2⟩
def tLcX (ti : TSrc) (b : Bd) (tq : TQ) (te : TX) (vs : List Nat) : TX := fun ρ Q => ti ρ fun src ρ1 => match src with
  | .fx ds => compL b tq te vs (fun _ => True) (fun acc ρ' => Q (.tm (.ls acc)) (restE ρ1 ρ' vs)) ds [] (wipeE ρ1 vs)
  | .sl i es ds => match ρ1[i]? with
    | some s => match s.m! with
      | some m => m = .ls es ∧ ∀ v, compL b tq te vs (fun ρ => ρ[i]? = some (.hd s.isP v m)) (fun acc ρ' => Q (.tm (.ls acc)) ((restE ρ1 ρ' vs).set i s)) ds [] (wipeE (ρ1.set i (.hd s.isP v m)) vs)
      | none => False
    | none => False
  | .hs i p v es ds => compL b tq te vs (fun ρ => ρ[i]? = some (.hd p v (.ls es))) (fun acc ρ' => Q (.tm (.ls acc)) (restE ρ1 ρ' vs)) ds [] (wipeE ρ1 vs)
theorem up_back {s : Sl} {m : M} (h : s.m! = some m) : (if s.isP then Sl.pa m else .lo m) = s := by
  cases s with
  | no => cases h
  | lo z => cases h; rfl
  | pa z => cases h; rfl
  | hd p v z => cases h
theorem lc_of {ti : TSrc} {bd : Bd} {tq : TQ} {te : TX} {vs : List Nat} {k : VK} (hvs : ∀ i ∈ bd.slots, i ∈ vs) (h : TEo K c (tLcX ti bd tq te vs) σ H k) : tLc (TIo K c ti) (bd.tg K) (TTo K c tq) (TEo K c te) vs σ H k := by
  obtain ⟨o, ρ, τ, Q, R0, h, q⟩ := h
  refine ⟨o, ρ, τ, _, R0, h, fun J H1 o1 ρ1 src L1 R1 ok h1 => ?_⟩
  intro L hL
  have push : ∀ {o2 : Own} {ρ2 : Env}, Rep K c o2 σ H1 ρ2 τ → Rep K c (fun b => if b = L then some (.t τ.length) else o2 b) σ (upd H1 L (.lst [])) ρ2 (τ ++ [(.ref L, .ls [])]) ∧ Le o2 H1 (fun b => if b = L then some (.t τ.length) else o2 b) (upd H1 L (.lst [])) := fun {o2 ρ2} R2 =>
    R2.push (m := .ls []) (u := .lst []) hL trivial rfl ⟨L, [], rfl, by simp, upd_same, .nil⟩
  cases src with
  | fx ds =>
    obtain ⟨R2, L2'⟩ := push R1
    refine comp_ok (C := fun o' H' => Le o1 H1 o' H') ok hvs (fun o' H' ρ' τ' L' R' _ => L2'.trans L') (R2.wipe vs) h1 fun o' H' ρ' acc L' R' _ hk => ?_
    exact q _ H' o' (.tm (.ls acc)) _ _ (L1.trans (L2'.trans L')) (Rep.rest R1 (L2'.trans L') R') rfl hk
  | sl i es ds =>
    obtain ⟨v0, hv0, ok⟩ := ok
    have h1 : (match ρ1[i]? with
      | some s => match s.m! with
        | some m => m = .ls es ∧ ∀ v, compL bd tq te vs (fun ρ => ρ[i]? = some (.hd s.isP v m)) (fun acc ρ' => Q (.tm (.ls acc)) ((restE ρ1 ρ' vs).set i s)) ds [] (wipeE (ρ1.set i (.hd s.isP v m)) vs)
        | none => False
      | none => False) := h1
    split at h1
    · rename_i s e
      split at h1
      · rename_i m em
        obtain ⟨rfl, h1⟩ := h1
        obtain ⟨v, hv, R2⟩ := R1.hide e em
        rw [hv0] at hv; cases hv
        have L2' : Le o1 H1 (relL (.s i) (.h i) o1) H1 := relL_le (by intro z; cases z)
        obtain ⟨R3, L3⟩ := push R2
        refine comp_ok (C := fun o' H' => ∃ l, IsM K o' H' l v0 (.ls es)) ok hvs (fun o' H' ρ' τ' L' R' g => ?_) (R3.wipe vs) (h1 v0) fun o' H' ρ' acc L' R' g hk => ?_
        · obtain ⟨_, _, q⟩ := R'.sl i _ g
          exact ⟨_, q⟩
        · obtain ⟨hw, _, _⟩ := R'.sl i _ g
          have hi := (wipe_some hw).2
          have R4 := Rep.rest R1 (L2'.trans (L3.trans L')) R'
          obtain ⟨R5, L5⟩ := R4.unhide (i := i) (p := s.isP) (v := v0) (m := .ls es) (by rw [rest_out hi]; exact g)
          rw [up_back em] at R5
          exact q _ H' _ (.tm (.ls acc)) _ _ (L1.trans (L2'.trans (L3.trans (L'.trans L5)))) R5 rfl hk
      · exact h1.elim
    · exact h1.elim
  | hs i p v es ds =>
    obtain ⟨R2, L2'⟩ := push R1
    refine comp_ok (C := fun o' H' => ∃ l, IsM K o' H' l v (.ls es)) ok hvs (fun o' H' ρ' τ' L' R' g => ?_) (R2.wipe vs) h1 fun o' H' ρ' acc L' R' _ hk => ?_
    · obtain ⟨_, _, q⟩ := R'.sl i _ g
      exact ⟨_, q⟩
    · exact q _ H' o' (.tm (.ls acc)) _ _ (L1.trans (L2'.trans L')) (Rep.rest R1 (L2'.trans L') R') rfl hk
def DQs (X : Cx) (c : Cc) (ifs : List Expr) (t : TQ) : Prop := PTs X ifs (TTo X.K c t)
def qYes : TQ := fun ρ Q => Q true ρ
theorem ptsImp {ifs : List Expr} {t t' : TT} (h : PTs X ifs t) (f : ∀ σ H k, t' σ H k → t σ H k) : PTs X ifs t' := ⟨fun pins s σ H Q I q => h.run pins s σ H Q I (f _ _ _ q)⟩
theorem dq_nil : DQs X c [] qYes := ptsImp pts_nil fun σ H k ⟨o, ρ, τ, Q, R0, h, q⟩ => q true H o ρ .refl R0 h
theorem dq_one {cond : Expr} {tq : TQ} (h : DT X c cond tq) : DQs X c [cond] tq := pts_one h
section
variable {elt tg iter : Expr} {ifs : List Expr} {scope : Scope} {own : List (Str × Nat)} {ti : TSrc} {bd : Bd} {tq : TQ} {te : TX}
theorem de_lc (hc : X.calm = true) (hN : X.N.Nodup) (hi : DI X c tg iter ti) (ok : blkC X.N X.env.scope scope own = true)
    (hg : ∀ (s : Shared) (H : Hp) (C : Addr) (cl : List (Str × Addr)) (fp : List Addr), PG (X.blk s H scope (compEnvC scope cl C X.env) fp) tg (bd.tg X.K))
    (ht : ∀ (s : Shared) (H : Hp) (C : Addr) (cl : List (Str × Addr)) (fp : List Addr), DQs (X.blk s H scope (compEnvC scope cl C X.env) fp) c ifs tq)
    (he : ∀ (s : Shared) (H : Hp) (C : Addr) (cl : List (Str × Addr)) (fp : List Addr), DE (X.blk s H scope (compEnvC scope cl C X.env) fp) c elt te)
    (hvs : ∀ i ∈ bd.slots, i ∈ own.map (·.2) := by decide) (hs : ∀ x, foldedSetIterable iter X.env x = pure x := by intro _; rfl) : DE X c (.ListComp elt [⟨tg, iter, ifs, 0⟩] scope pos) (tLcX ti bd tq te (own.map (·.2))) :=
  peImp (pe_lc (tt := TTo X.K c tq) (te := TEo X.K c te) hc hN hi (blkOk_by ok) hg ht he hs) fun σ H k h => lc_of hvs h
theorem ds_setLc {i : Nat} {y : Str} {py spos : Pos} (hc : X.calm = true) (hN : X.N.Nodup) (hsw : swapsWith (.ListComp elt [⟨tg, iter, ifs, 0⟩] scope pos) (some (.Name y py)) spos.line X.env = pure true) (hi : DI X c tg iter ti) (ok : blkC X.N X.env.scope scope own = true)
    (hg : ∀ (s : Shared) (H : Hp) (C : Addr) (cl : List (Str × Addr)) (fp : List Addr), PG (X.blk s H scope (compEnvC scope cl C X.env) fp) tg (bd.tg X.K))
    (ht : ∀ (s : Shared) (H : Hp) (C : Addr) (cl : List (Str × Addr)) (fp : List Addr), DQs (X.blk s H scope (compEnvC scope cl C X.env) fp) c ifs tq)
    (he : ∀ (s : Shared) (H : Hp) (C : Addr) (cl : List (Str × Addr)) (fp : List Addr), DE (X.blk s H scope (compEnvC scope cl C X.env) fp) c elt te)
    (hy : X.N[i]? = some y := by rfl) (hyl : X.env.scope.names.lookup y = some .local := by rfl) (hvs : ∀ i ∈ bd.slots, i ∈ own.map (·.2) := by decide) (hs : ∀ x, foldedSetIterable iter X.env x = pure x := by intro _; rfl) :
    DS X c (.Assign [.Name y py] (.ListComp elt [⟨tg, iter, ifs, 0⟩] scope pos) spos) (sAsg i (tLcX ti bd tq te (own.map (·.2)))) :=
  psImp (ps_setLc (tt := TTo X.K c tq) (te := TEo X.K c te) hc hN hy hyl hsw hi (blkOk_by ok) hg ht he hs) fun D σ H h => lc_of hvs (sAsg_of h)
end
end
end Y
namespace Y
open PySem PySem.Spec L2

/-! ### calls of the text's own defs -/
def Keep (o : Own) (H : Hp) (o' : Own) (H' : Hp) : Prop := ∀ b u, o b = none → H b = some u → o' b = none ∧ H' b = some u
section
variable {K : PySem.W.Frag} {o o' : Own} {H H' : Hp} {l l' : Lb} {v : V}
mutual
theorem Dat.monoK (L : Keep o H o' H') : ∀ {v : V} {d : D}, Dat K o H v d → Dat K o' H' v d
  | _, _, .non => .non
  | _, _, .bl b => .bl b
  | _, _, .int b => .int b
  | _, _, .str b => .str b
  | _, _, .raw b => .raw b
  | _, _, .tup h r => .tup (L _ _ h.1 h.2) (Dats.monoK L r)
  | _, _, .lst e h r => .lst (L _ _ e h).1 (L _ _ e h).2 (Dats.monoK L r)
theorem Dats.monoK (L : Keep o H o' H') : ∀ {v : List V} {d : List D}, Dats K o H v d → Dats K o' H' v d
  | _, _, .nil => .nil
  | _, _, .cons a r => .cons (Dat.monoK L a) (Dats.monoK L r)
end
theorem Kvs.monoK {κ : Type} (L : Keep o H o' H') {ks : List (κ × V)} {kvs : List (κ × D)} (h : Kvs K o H ks kvs) : Kvs K o' H' ks kvs :=
  Paired.mapP h fun _ _ z => ⟨z.1, z.2.monoK L⟩
/-- data, or an object that is owned -/
def M.fit : M → Bool
  | .im _ => true
  | m => m.own
theorem IsM.monoK (L : Keep o H o' H') (h : ∀ a, o a = some l → o' a = some l' ∧ H' a = H a) : ∀ {m : M}, m.fit = true → IsM K o H l v m → IsM K o' H' l' v m
  | .im _, _, q => Dat.monoK L q
  | .ls _, _, ⟨a, xs, e, f, g, q⟩ => ⟨a, xs, e, (h a f).1, (h a f).2.trans g, q.monoK L⟩
  | .rd _, _, ⟨a, xs, e, f, g, q⟩ => ⟨a, xs, e, (h a f).1, (h a f).2.trans g, q.monoK L⟩
  | .dk _, _, ⟨a, xs, e, f, g, q⟩ => ⟨a, xs, e, (h a f).1, (h a f).2.trans g, Kvs.monoK L q⟩
  | .dt _, _, ⟨a, xs, e, f, g, q⟩ => ⟨a, xs, e, (h a f).1, (h a f).2.trans g, Kvs.monoK L q⟩
end

/-- what a def promises: its parameters' data and objects; what it hands back, and what its parameters' objects are then -/
abbrev TF := List M → (M → List (Option M) → Prop) → Prop
structure ArgsOk (K : PySem.W.Frag) (o : Own) (H : Hp) (vs : List V) (ms : List M) : Prop where
  len : vs.length = ms.length
  at_ : ∀ (i : Nat) v m, vs[i]? = some v → ms[i]? = some m → IsM K o H (.s i) v m
  mu : ∀ a l, o a = some l → Mut (H a)
def FinOk (K : PySem.W.Frag) (o : Own) (H : Hp) (vs : List V) (fin : List (Option M)) : Prop := ∀ (i : Nat) v m, vs[i]? = some v → fin[i]? = some (some m) → IsM K o H (.s i) v m
def spD (K : PySem.W.Frag) (F : TF) (n : Nat) : Sp := fun vs H Q _ => ∃ o ms G, vs.length = n ∧ ArgsOk K o H vs ms ∧ F ms G ∧
  ∀ v H' o' m fin, Le o H o' H' → (∀ a l, o' a = some l → Mut (H' a)) → IsM K o' H' (.t 0) v m → FinOk K o' H' vs fin → G m fin → Q v H'

/-! ### at a call -/
def argS : Option Sl → Option M
  | some (.lo m) => some m
  | some (.pa m) => some m
  | some (.hd _ _ (.ls ds)) => some (.sq ds)
  | _ => none
def argM (ρ : Env) : R → Option M
  | .im d => some (.im d)
  | .tm m => some m
  | .sl i => argS ρ[i]?
def argMs (ρ : Env) : List R → Option (List M)
  | [] => some []
  | r :: rs => match argM ρ r, argMs ρ rs with
    | some m, some ms => some (m :: ms)
    | _, _ => none
def slots : List R → List Nat
  | [] => []
  | .sl i :: rs => i :: slots rs
  | _ :: rs => slots rs
def putS (f : Option M) : Option Sl → Option Sl
  | some (.lo m) => if m.own = true then some (match f with
      | some m' => if m'.fit = true then .lo m' else .no
      | none => .no) else none
  | some (.pa m) => if m.own = true then some (match f with
      | some m' => if m'.fit = true then .pa m' else .no
      | none => .no) else none
  | _ => none
def stepB (i : Nat) (f : Option M) (ρ : Env) : Env := match putS f ρ[i]? with
  | some s => ρ.set i s
  | none => ρ
def putB : List R → List (Option M) → Env → Env
  | .sl i :: rs, fs, ρ => putB rs fs.tail (stepB i fs.head?.join ρ)
  | _ :: rs, fs, ρ => putB rs fs.tail ρ
  | [], _, ρ => ρ
def tCall (F : TF) (n : Nat) (ta : TL) : TX := fun ρ Q => ta ρ fun rs ρ1 => match argMs ρ1 rs with
  | some ms => rs.length = n ∧ (slots rs).Nodup ∧ F ms fun m fin => m.fit = true ∧ Q m.res (putB rs fin ρ1)
  | none => False
/-- which argument an object is: its label tells -/
def labIx : List R → Nat → Nat → Lb → Option Nat
  | [], _, _, _ => none
  | .sl i :: rs, n, k, l => if l = .s i then some k else labIx rs n (k + 1) l
  | .tm _ :: rs, n, k, l => if l = .t n then some k else labIx rs (n + 1) (k + 1) l
  | .im _ :: rs, n, k, l => labIx rs n (k + 1) l
def ownC (rs : List R) (n : Nat) (o : Own) : Own := fun a => match o a with
  | none => none
  | some l => match labIx rs n 0 l with
    | some k => some (.s k)
    | none => some .x
def ownB (rs : List R) (n : Nat) (o o' : Own) : Own := fun a => match o' a with
  | none => none
  | some .x => o a
  | some (.s k) => match rs[k]? with
    | some (.sl i) => some (.s i)
    | _ => none
  | some (.t 0) => some (.t n)
  | _ => none
theorem labIx_ge : ∀ {rs : List R} {n k : Nat} {l : Lb} {j : Nat}, labIx rs n k l = some j → k ≤ j
  | .sl i :: rs, n, k, l, j, h => by
    unfold labIx at h
    split at h
    · cases h; exact Nat.le_refl _
    · exact Nat.le_of_succ_le (labIx_ge h)
  | .tm _ :: rs, n, k, l, j, h => by
    unfold labIx at h
    split at h
    · cases h; exact Nat.le_refl _
    · exact Nat.le_of_succ_le (labIx_ge h)
  | .im _ :: rs, n, k, l, j, h => by
    unfold labIx at h
    exact Nat.le_of_succ_le (labIx_ge h)
theorem labIx_s {i : Nat} : ∀ {rs : List R} {n k : Nat}, i ∉ slots rs → labIx rs n k (.s i) = none
  | [], _, _, _ => rfl
  | .sl j :: rs, n, k, h => by
    have h1 : i ≠ j := fun e => h (by rw [e]; exact List.mem_cons_self)
    have h2 : i ∉ slots rs := fun m => h (List.mem_cons_of_mem _ m)
    unfold labIx
    rw [if_neg (by intro z; injection z with z; exact h1 z), labIx_s h2]
  | .tm _ :: rs, n, k, h => by unfold labIx; rw [if_neg (by intro z; cases z)]; exact labIx_s h
  | .im _ :: rs, n, k, h => by unfold labIx; exact labIx_s h
theorem labIx_lt {j : Nat} : ∀ {rs : List R} {n k : Nat}, j < n → labIx rs n k (.t j) = none
  | [], _, _, _ => rfl
  | .sl _ :: rs, n, k, h => by unfold labIx; rw [if_neg (by intro z; cases z)]; exact labIx_lt h
  | .tm _ :: rs, n, k, h => by unfold labIx; rw [if_neg (by intro z; injection z with z; omega)]; exact labIx_lt (by omega)
  | .im _ :: rs, n, k, h => by unfold labIx; exact labIx_lt h
theorem labIx_h {i : Nat} : ∀ {rs : List R} {n k : Nat}, labIx rs n k (.h i) = none
  | [], _, _ => rfl
  | .sl _ :: rs, n, k => by unfold labIx; rw [if_neg (by intro z; cases z)]; exact labIx_h
  | .tm _ :: rs, n, k => by unfold labIx; rw [if_neg (by intro z; cases z)]; exact labIx_h
  | .im _ :: rs, n, k => by unfold labIx; exact labIx_h
theorem labIx_x : ∀ {rs : List R} {n k : Nat}, labIx rs n k .x = none
  | [], _, _ => rfl
  | .sl _ :: rs, n, k => by unfold labIx; rw [if_neg (by intro z; cases z)]; exact labIx_x
  | .tm _ :: rs, n, k => by unfold labIx; rw [if_neg (by intro z; cases z)]; exact labIx_x
  | .im _ :: rs, n, k => by unfold labIx; exact labIx_x
theorem mem_slots {i : Nat} : ∀ {rs : List R}, R.sl i ∈ rs → i ∈ slots rs
  | [], h => by cases h
  | .sl j :: rs, h => by
    rcases List.mem_cons.mp h with e | h
    · cases e; exact List.mem_cons_self
    · exact List.mem_cons_of_mem _ (mem_slots h)
  | .tm m :: rs, h => by
    rcases List.mem_cons.mp h with e | h
    · cases e
    · exact mem_slots (rs := rs) h
  | .im d :: rs, h => by
    rcases List.mem_cons.mp h with e | h
    · cases e
    · exact mem_slots (rs := rs) h
section
variable {K : PySem.W.Frag} {c : Cc} {o o' : Own} {σ σ' : St} {H H' : Hp} {ρ ρ' : Env} {τ τ' τ0 τ1 : List (V × M)} {X : Cx} {e a b : Expr} {es : List Expr} {pos : Pos} {t u : TX} {P : EndP} {D' : Ends}
theorem ownC_le {rs : List R} {n : Nat} : Le o H (ownC rs n o) H :=
  ⟨fun b u e f => ⟨by unfold ownC; rw [e], f⟩, fun b e => ⟨by unfold ownC; rw [e]; simp only [labIx_x], rfl⟩⟩
/-- the arguments, as the callee sees them -/
theorem args_ok {rsA : List R} {n : Nat} (R0 : Rep K c o σ H ρ τ) : ∀ {vs : List V} {rs : List R} {ms : List M} {τ0 τ1 : List (V × M)} {k : Nat}, RelRs K o H σ vs rs τ0 τ1 → τ1 <+: τ → argMs ρ rs = some ms → (slots rs).Nodup →
    (∀ l, labIx rs τ0.length k l ≠ none → labIx rsA n 0 l = labIx rs τ0.length k l) → ∀ (j : Nat) v m, vs[j]? = some v → ms[j]? = some m → IsM K (ownC rsA n o) H (.s (k + j)) v m
  | _, _, ms, _, _, k, .nil, _, e, _, _ => fun j v m e1 e2 => by simp at e1
  | _, _, ms, τ0, τ1, k, .cons (v := v0) (vs := vs) (r := r) (rs := rs) (τ1 := τ2) z zs, p, e, nd, A => fun j v m e1 e2 => by
    unfold argMs at e
    split at e
    · rename_i m0 ms0 em ems
      cases e
      have L : Le o H (ownC rsA n o) H := ownC_le
      cases j with
      | zero =>
        simp at e1 e2
        subst e1 e2
        rw [Nat.add_zero]
        cases r with
        | im d => cases em; exact Dat.mono L z.2
        | tm m1 =>
          cases em
          have e3 : τ2 = τ0 ++ [(v0, m0)] := z
          obtain ⟨w, hw⟩ := zs.pre.trans p
          have q : IsM K o H (.t τ0.length) v0 m0 := (R0.tm τ0.length v0 m0 (by rw [← hw, e3]; simp)).1
          refine q.mono L fun a ho => ⟨?_, rfl⟩
          have f : labIx (.tm m0 :: rs) τ0.length k (.t τ0.length) = some k := by unfold labIx; rw [if_pos rfl]
          have g := A (.t τ0.length) (by rw [f]; intro z; cases z)
          unfold ownC; rw [ho]; simp only [g, f]
        | sl i =>
          obtain ⟨_, hs⟩ := z
          have f : labIx (.sl i :: rs) τ0.length k (.s i) = some k := by unfold labIx; rw [if_pos rfl]
          have g := A (.s i) (by rw [f]; intro z; cases z)
          have em : argS ρ[i]? = some m0 := em
          unfold argS at em
          split at em
          · rename_i m1 es
            cases em
            obtain ⟨w, e3, q⟩ := R0.sl i _ es
            rw [hs] at e3; cases e3
            exact q.mono L fun a ho => ⟨by unfold ownC; rw [ho]; simp only [g, f], rfl⟩
          · rename_i m1 es
            cases em
            obtain ⟨w, e3, _, q⟩ := R0.sl i _ es
            rw [hs] at e3; cases e3
            exact q.mono L fun a ho => ⟨by unfold ownC; rw [ho]; simp only [g, f], rfl⟩
          · rename_i p1 w1 ds es
            cases em
            obtain ⟨e3, _, ad, xs, rfl, q1, q2, q3⟩ := R0.sl i _ es
            rw [hs] at e3; cases e3
            refine ⟨ad, xs, rfl, .inl ⟨.inr ?_, .inl q2⟩, q3.mono L⟩
            unfold ownC; rw [q1]; simp only [labIx_h]
          · cases em
      | succ j =>
        have e1' : vs[j]? = some v := by simpa using e1
        have e2' : ms0[j]? = some m := by simpa using e2
        have nd' : (slots rs).Nodup := by
          cases r with
          | im d => exact nd
          | tm m1 => exact nd
          | sl i => exact (List.nodup_cons.mp nd).2
        have A' : ∀ l, labIx rs τ2.length (k + 1) l ≠ none → labIx rsA n 0 l = labIx rs τ2.length (k + 1) l := fun l hl => by
          cases r with
          | im d =>
            have e3 : τ2 = τ0 := z.1
            subst e3
            have f : labIx (.im d :: rs) τ2.length k l = labIx rs τ2.length (k + 1) l := rfl
            rw [← f] at hl ⊢
            exact A l hl
          | tm m1 =>
            have e3 : τ2 = τ0 ++ [(v0, m1)] := z
            have e4 : τ2.length = τ0.length + 1 := by rw [e3]; simp
            rw [e4] at hl ⊢
            have ne : l ≠ .t τ0.length := fun z => by subst z; exact hl (labIx_lt (Nat.lt_succ_self _))
            have f : labIx (.tm m1 :: rs) τ0.length k l = labIx rs (τ0.length + 1) (k + 1) l := by
              conv => lhs; unfold labIx
              rw [if_neg ne]
            rw [← f] at hl ⊢
            exact A l hl
          | sl i =>
            have e3 : τ2 = τ0 := z.1
            subst e3
            have ne : l ≠ .s i := fun z => by subst z; exact hl (labIx_s (List.nodup_cons.mp nd).1)
            have f : labIx (.sl i :: rs) τ2.length k l = labIx rs τ2.length (k + 1) l := by
              conv => lhs; unfold labIx
              rw [if_neg ne]
            rw [← f] at hl ⊢
            exact A l hl
        have q := args_ok R0 (k := k + 1) zs p ems nd' A' j v m e1' e2'
        have e5 : k + 1 + j = k + (j + 1) := by omega
        rw [e5] at q
        exact q
    · cases e
theorem argMs_length : ∀ {rs : List R} {ms : List M}, argMs ρ rs = some ms → ms.length = rs.length
  | [], _, e => by simp [argMs] at e; subst e; rfl
  | r :: rs, _, e => by
    unfold argMs at e
    split at e
    · rename_i m ms _ e2
      cases e
      rw [List.length_cons, List.length_cons, argMs_length e2]
    · cases e
theorem ownC_mu {rs : List R} {n : Nat} (mu : ∀ a l, o a = some l → Mut (H a)) : ∀ a l, ownC rs n o a = some l → Mut (H a) := fun a l e => by
  unfold ownC at e
  split at e
  · cases e
  · rename_i l' h; exact mu a _ h
/-- behind the call -/
theorem ownB_mu {rs : List R} {n : Nat} (mu : ∀ a l, o' a = some l → Mut (H' a)) : ∀ a l, ownB rs n o o' a = some l → Mut (H' a) := fun a l e => by
  unfold ownB at e
  split at e
  · cases e
  · rename_i h; exact mu a _ h
  · rename_i k h; exact mu a _ h
  · rename_i h; exact mu a _ h
  · cases e
theorem ownB_le {rs : List R} {n : Nat} (L : Le (ownC rs n o) H o' H') : Le o H (ownB rs n o o') H' :=
  ⟨fun b u e f => by
    obtain ⟨e1, f1⟩ := L.keep b u (by unfold ownC; rw [e]) f
    exact ⟨by unfold ownB; rw [e1], f1⟩,
   fun b e => by
    obtain ⟨e1, f1⟩ := L.ext b (by unfold ownC; rw [e]; simp only [labIx_x])
    exact ⟨by unfold ownB; rw [e1]; exact e, f1⟩⟩
theorem ownB_keep {rs : List R} {n : Nat} : Keep o' H' (ownB rs n o o') H' := fun b u e f => ⟨by unfold ownB; rw [e], f⟩
theorem ownB_other {rs : List R} {n : Nat} (L : Le (ownC rs n o) H o' H') {l : Lb} (h : labIx rs n 0 l = none) {a : Addr} (e : o a = some l) : ownB rs n o o' a = some l ∧ H' a = H a := by
  obtain ⟨e1, f1⟩ := L.ext a (by unfold ownC; rw [e]; simp only [h])
  exact ⟨by unfold ownB; rw [e1]; exact e, f1⟩
theorem back_ok {rsA : List R} {n : Nat} {oc : Own} (R0 : Rep K c o σ H ρ τ) (L : Le (ownC rsA n o) H oc H') : ∀ {vs : List V} {rs : List R} {fs : List (Option M)} {τ0 τ1 : List (V × M)} {k : Nat} {ρc : Env}, RelRs K o H σ vs rs τ0 τ1 → (slots rs).Nodup →
    (∀ j r, rs[j]? = some r → rsA[k + j]? = some r) → (∀ (j : Nat) v m, vs[j]? = some v → fs[j]? = some (some m) → IsM K oc H' (.s (k + j)) v m) → ρc.length = ρ.length →
    (∀ j, (j ∈ slots rs → ρc[j]? = ρ[j]?) ∧ (j ∉ slots rs → ∀ s, ρc[j]? = some s → SlOk K c (ownB rsA n o oc) σ H' j s)) →
    (putB rs fs ρc).length = ρ.length ∧ ∀ j s, (putB rs fs ρc)[j]? = some s → SlOk K c (ownB rsA n o oc) σ H' j s
  | _, _, fs, _, _, k, ρc, .nil, nd, hr, hf, hl, hP => ⟨hl, fun j s q => (hP j).2 (by simp [slots]) s q⟩
  | _, _, fs, τ0, τ1, k, ρc, .cons (v := v0) (vs := vs) (r := r) (rs := rs) (τ1 := τ2) z zs, nd, hr, hf, hl, hP => by
    have hf' : ∀ (j : Nat) v m, vs[j]? = some v → fs.tail[j]? = some (some m) → IsM K oc H' (.s (k + 1 + j)) v m := fun j v m e1 e2 => by
      cases fs with
      | nil => simp at e2
      | cons f fs' =>
        have := hf (j + 1) v m (by simpa using e1) (by simpa using e2)
        rw [show k + 1 + j = k + (j + 1) by omega]; exact this
    have tl : ∀ {ρ2 : Env}, (slots rs).Nodup → ρ2.length = ρ.length →
        (∀ j, (j ∈ slots rs → ρ2[j]? = ρ[j]?) ∧ (j ∉ slots rs → ∀ s, ρ2[j]? = some s → SlOk K c (ownB rsA n o oc) σ H' j s)) → (putB rs fs.tail ρ2).length = ρ.length ∧ ∀ j s, (putB rs fs.tail ρ2)[j]? = some s → SlOk K c (ownB rsA n o oc) σ H' j s :=
      fun {ρ2} nd2 h2 h3 => back_ok R0 L (k := k + 1) zs nd2 (fun j r' e => by have := hr (j + 1) r' (by simpa using e); rw [show k + 1 + j = k + (j + 1) by omega]; exact this) hf' h2 h3
    cases r with
    | im d => exact tl nd hl hP
    | tm m1 => exact tl nd hl hP
    | sl i =>
      obtain ⟨_, hs⟩ := z
      have ndi := List.nodup_cons.mp nd
      have hi : ρc[i]? = ρ[i]? := (hP i).1 List.mem_cons_self
      have hrk : rsA[k]? = some (.sl i) := hr 0 _ rfl
      have LB : Le o H (ownB rsA n o oc) H' := ownB_le L
      have hq : ∀ m, fs.head?.join = some m → IsM K oc H' (.s k) v0 m := fun m e => by
        cases fs with
        | nil => cases e
        | cons f fs' => exact hf 0 v0 m rfl (by simpa using e)
      have fin1 : ∀ m', fs.head?.join = some m' → m'.fit = true → IsM K (ownB rsA n o oc) H' (.s i) v0 m' := fun m' ef hfit =>
        (hq m' ef).monoK ownB_keep (fun a q => ⟨by unfold ownB; rw [q]; simp only [hrk], rfl⟩) hfit
      have nown : ∀ m, ¬ m.own = true → IsM K o H (.s i) v0 m → IsM K (ownB rsA n o oc) H' (.s i) v0 m := fun m hm q => by
        cases m with
        | im d => exact Dat.mono LB q
        | sq ds => obtain ⟨ad, xs, e1, e2, e3⟩ := q; exact ⟨ad, xs, e1, e2.mono LB, e3.mono LB⟩
        | ls ds => exact absurd rfl hm
        | rd ds => exact absurd rfl hm
        | dk ds => exact absurd rfl hm
        | dt ds => exact absurd rfl hm
      refine tl ndi.2 ?_ fun j => ⟨fun hj => ?_, fun hj s e => ?_⟩
      · unfold stepB
        split
        · rw [List.length_set]; exact hl
        · exact hl
      · have ne : i ≠ j := fun z => by subst z; exact ndi.1 hj
        have q := (hP j).1 (List.mem_cons_of_mem _ hj)
        unfold stepB
        split
        · rw [List.getElem?_set_ne ne]; exact q
        · exact q
      · by_cases ne : i = j
        · subst ne
          unfold stepB at e
          rw [hi] at e
          cases es : ρ[i]? with
          | none =>
            rw [es] at e
            simp only [putS] at e
            rw [hi, es] at e; cases e
          | some s0 =>
            have k0 := R0.sl i s0 es
            have hlt : i < ρc.length := by rw [hl]; exact (List.getElem?_eq_some_iff.mp es).1
            rw [es] at e
            cases s0 with
            | no => simp only [putS] at e; rw [hi, es] at e; cases e; exact trivial
            | hd p w m =>
              simp only [putS] at e; rw [hi, es] at e; cases e
              obtain ⟨e1, e2, q⟩ := k0
              exact ⟨e1, e2, q.mono LB fun a q => ownB_other L labIx_h q⟩
            | lo m =>
              obtain ⟨w, e1, q⟩ := k0
              rw [hs] at e1; cases e1
              by_cases hm : m.own = true
              · simp only [putS, hm, if_true] at e
                rw [List.getElem?_set_self hlt] at e
                cases e
                split
                · rename_i m' ef
                  split
                  · rename_i hfit; exact ⟨v0, hs, fin1 m' ef hfit⟩
                  · exact trivial
                · exact trivial
              · simp only [putS, hm, Bool.false_eq_true, if_false] at e
                rw [hi, es] at e; cases e
                exact ⟨v0, hs, nown m hm q⟩
            | pa m =>
              obtain ⟨w, e1, e2, q⟩ := k0
              rw [hs] at e1; cases e1
              by_cases hm : m.own = true
              · simp only [putS, hm, if_true] at e
                rw [List.getElem?_set_self hlt] at e
                cases e
                split
                · rename_i m' ef
                  split
                  · rename_i hfit; exact ⟨v0, hs, e2, fin1 m' ef hfit⟩
                  · exact trivial
                · exact trivial
              · simp only [putS, hm, Bool.false_eq_true, if_false] at e
                rw [hi, es] at e; cases e
                exact ⟨v0, hs, e2, nown m hm q⟩
        · have q := (hP j).2 (by simp only [slots, List.mem_cons, not_or]; exact ⟨fun z => ne z.symm, hj⟩) s
          unfold stepB at e
          split at e
          · rw [List.getElem?_set_ne ne] at e; exact q e
          · exact q e
section
variable {F : TF} {n k : Nat} {f : Addr} {fd : FuncData} {ps : List Str} {x : Str} {p : Pos} {ta : TL}
theorem tCall_of {kk : VK} (h : TEo K c (tCall F n ta) σ H kk) : L2.tCall (spD K F n) [] E0 (TAo K c ta) σ H kk := by
  obtain ⟨o, ρ, τ, Q, R0, h, q⟩ := h
  refine ⟨o, ρ, τ, _, R0, h, fun vs H1 o1 rs ρ1 τ1 L1 R1 z1 h1 => ?_⟩
  show spD K F n (vs ++ []) H1 kk E0
  rw [List.append_nil]
  split at h1
  · rename_i ms em
    obtain ⟨hn, nd, hF⟩ := h1
    have A := args_ok (rsA := rs) (n := τ.length) R1 (k := 0) z1 List.prefix_rfl em nd (fun l _ => rfl)
    refine ⟨ownC rs τ.length o1, ms, _, z1.length.trans hn, ⟨by rw [argMs_length em, z1.length], fun i v m e1 e2 => by have := A i v m e1 e2; rwa [Nat.zero_add] at this, ownC_mu R1.mu⟩, hF, fun v H2 o2 m fin L2 mu2 im fo hG => ?_⟩
    obtain ⟨hfit, hG⟩ := hG
    have LB : Le o1 H1 (ownB rs τ.length o1 o2) H2 := ownB_le L2
    obtain ⟨b1, b2⟩ := back_ok (rsA := rs) (n := τ.length) (oc := o2) R1 L2 (k := 0) (fs := fin) (ρc := ρ1) z1 nd (fun j r e => by rw [Nat.zero_add]; exact e) (fun j v m e1 e2 => by rw [Nat.zero_add]; exact fo j v m e1 e2) rfl
      fun j => ⟨fun _ => rfl, fun hj s e => (R1.sl j s e).mono LB (fun a q => ownB_other L2 (labIx_s hj) q) fun a q => ownB_other L2 labIx_h q⟩
    obtain ⟨tt, htt⟩ := z1.pre
    have RB : Rep K c (ownB rs τ.length o1 o2) σ H2 (putB rs fin ρ1) τ := by
      refine ⟨b2, fun j w m' e => ?_, ownB_mu mu2, R1.le.trans LB, by rw [b1]; exact R1.ln⟩
      have hj : j < τ.length := (List.getElem?_eq_some_iff.mp e).1
      have q := R1.tm j w m' (by rw [← htt, List.getElem?_append_left hj]; exact e)
      exact ⟨q.1.mono LB fun a z => ownB_other L2 (labIx_lt hj) z, q.2⟩
    have io : IsM K (ownB rs τ.length o1 o2) H2 (.t τ.length) v m := im.monoK ownB_keep (fun a z => ⟨by unfold ownB; rw [z]; rfl, rfl⟩) hfit
    have own : m.own = true → m.res = .tm m → kk v H2 := fun e1 e2 => by
      rw [e2] at hG
      refine q v H2 _ (.tm m) _ (τ ++ [(v, m)]) (L1.trans LB) ⟨RB.sl, fun j w m' e => ?_, RB.mu, RB.le, RB.ln⟩ rfl hG
      by_cases hj : j < τ.length
      · rw [List.getElem?_append_left hj] at e; exact RB.tm j w m' e
      · rw [List.getElem?_append_right (by omega)] at e
        have e0 : j - τ.length = 0 := by
          cases y : j - τ.length with
          | zero => rfl
          | succ y' => rw [y] at e; simp at e
        rw [e0] at e
        have e3 : j = τ.length := by omega
        subst e3
        simp at e
        obtain ⟨rfl, rfl⟩ := e
        exact ⟨io, e1⟩
    cases m with
    | im d => exact q v H2 _ (.im d) _ τ (L1.trans LB) RB ⟨rfl, io⟩ hG
    | sq ds => cases hfit
    | ls ds => exact own rfl rfl
    | rd ds => exact own rfl rfl
    | dk ds => exact own rfl rfl
    | dt ds => exact own rfl rfl
  · exact h1.elim
theorem de_call (G : FnOk X.prog X.w X.K X.mg X.base CX0 k f fd ps (spD X.K F n)) (hr : Room k X.A) (hg : Gl X x) (hm : X.mg x = some (.ref f)) (hk : PySem.W.keepIn X.K (.ref f) = true) (hb : Binds X.K fd ps [])
    (ha : DA X c (e :: es) ta) (hdb : (x == ("__debug__" : Str)) = false := by decide) (he : starEach (e :: es) X.env = (false, eval e X.env) :: starEach es X.env := by rfl) (hpl : (backTo pos (starEach es X.env)).any (·.1) = false := by rfl) :
    DE X c (.Call (.Name x p) (e :: es) [] pos) (tCall F n ta) := peImp (pe_call G hr hg hm hk hb .nil pass0 ha hdb he hpl) fun σ H k h => tCall_of h
end

/-! ### a def, by its body -/
def Sl.fin : Sl → Option M
  | .pa m => some m
  | .hd true _ m => some m
  | _ => none
def fins (n : Nat) (ρ : Env) : List (Option M) := (ρ.take n).map Sl.fin
def envOf (N n : Nat) (ms : List M) : Env := ms.map Sl.pa ++ List.replicate (N - n) .no
def unH (o : Own) : Own := fun a => match o a with
  | some (.h i) => some (.s i)
  | l => l
theorem unH_le : Le o H (unH o) H := ⟨fun b u e f => ⟨by unfold unH; rw [e], f⟩, fun b e => ⟨by unfold unH; rw [e], rfl⟩⟩
theorem rep_start {vs : List V} {ms : List M} {N : List Str} (h : ArgsOk K o H vs ms) : Rep K ⟨o, H, vs⟩ o (L2.start N vs) H (envOf N.length vs.length ms) [] := by
  refine ⟨fun i s e => ?_, fun j v m e => by simp at e, h.mu, .refl, by unfold envOf L2.start; simp [h.len]⟩
  unfold envOf at e
  by_cases hi : i < ms.length
  · rw [List.getElem?_append_left (by simpa using hi), List.getElem?_map, List.getElem?_eq_getElem hi] at e
    cases e
    have hv : i < vs.length := by rw [h.len]; exact hi
    refine ⟨vs[i], ?_, List.getElem?_eq_getElem hv, h.at_ i _ _ (List.getElem?_eq_getElem hv) (List.getElem?_eq_getElem hi)⟩
    unfold L2.start
    rw [List.getElem?_append_left (by simpa using hv), List.getElem?_map, List.getElem?_eq_getElem hv]; rfl
  · rw [List.getElem?_append_right (by simpa using hi), List.getElem?_replicate] at e
    split at e
    · cases e; exact trivial
    · cases e
theorem fins_ok {vs : List V} {oo : Own} {H0 : Hp} (R0 : Rep K ⟨oo, H0, vs⟩ o σ H ρ []) (n : Nat) : FinOk K (unH o) H vs (fins n ρ) := fun i v m e1 e2 => by
  unfold fins at e2
  rw [List.getElem?_map, List.getElem?_take] at e2
  split at e2
  · cases es : ρ[i]? with
    | none => rw [es] at e2; cases e2
    | some s =>
      rw [es] at e2
      have k := R0.sl i s es
      cases s with
      | no => cases e2
      | lo m => cases e2
      | pa m' =>
        cases e2
        obtain ⟨w, _, e3, q⟩ := k
        rw [e1] at e3; cases e3
        exact q.mono unH_le fun a z => ⟨by unfold unH; rw [z], rfl⟩
      | hd p w m' =>
        cases p with
        | false => cases e2
        | true =>
          cases e2
          obtain ⟨_, e3, q⟩ := k
          have e3 := e3 rfl
          rw [e1] at e3; cases e3
          exact q.mono unH_le fun a z => ⟨by unfold unH; rw [z], rfl⟩
  · cases e2
/-- what the body is to do -/
def Body (F : TF) (N n : Nat) (T : TSX) : Prop := ∀ ms G, ms.length = n → F ms G → T { nx := fun ρ => G (.im .non) (fins n ρ), rt := fun m ρ => G m (fins n ρ) } (envOf N n ms)
theorem fn_ok {Pg : Program} {w : World} {mg : Str → Option Value} {base : Heap} {x qual : Str} {st : Stmt} {f : Addr} {fd : FuncData} {N ps : List Str} {k : Nat} {F : TF} {T : TSX} (Fu : Fun K x qual st f fd) (S : FnScope N ps (defScope st)) (hB : Body F N.length ps.length T)
    (hbody : ∀ (cdv : Value) (A : Around) (outer : List PySem.Env) (s : Shared) (H : Hp) (E : XK) (c : Cc), Room k (A.deeper (PyProof.Rows.envOfC qual (defScope st) s.heap.objs.size f cdv)) → DSs (cxOf CX0 Pg w K mg base N qual (defScope st) f cdv A outer s H E).nox c (defBody st) T) :
    FnOk Pg w K mg base CX0 (k + 1) f fd ps (spD K F ps.length) := by
  refine Fu.ok S (fun vs H Q E h => h.choose_spec.choose_spec.choose_spec.1) fun cdv A outer s H vs Q E hr h => ?_
  obtain ⟨o, ms, G, hl, ha, hF, q⟩ := h
  refine ⟨_, hbody cdv A outer s H E ⟨o, H, vs⟩ hr, ?_⟩
  have R0 : Rep K ⟨o, H, vs⟩ o (L2.start N vs) H (envOf N.length ps.length ms) [] := by have := rep_start (N := N) ha; rw [hl] at this; exact this
  refine ⟨o, _, _, R0, hB ms G (by rw [← ha.len]; exact hl) hF, ⟨fun σ' H' o' ρ' L R hG => ?_, fun v σ' H' o' ρ' m L R im hG => ?_, fun _ _ _ _ _ _ z => z.elim, fun _ _ _ _ _ _ z => z.elim⟩⟩
  · exact q .non H' (unH o') (.im .non) _ (L.trans unH_le) (fun a l e => by unfold unH at e; split at e; exact R.mu a _ (by assumption); exact R.mu a _ e) .non (fins_ok R _) hG
  · exact q v H' (unH o') m _ (L.trans unH_le) (fun a l e => by unfold unH at e; split at e; exact R.mu a _ (by assumption); exact R.mu a _ e) (im.mono unH_le fun a z => ⟨by unfold unH; rw [z], rfl⟩) (fins_ok R _) hG
end
end Y
namespace Y
open PySem PySem.Spec L2

/-! ### a def where the top has put it -/
structure DefAt (K : PySem.W.Frag) (mg : Str → Option Value) (name : Str) (st : Stmt) (ps : List Str) where
  f : Addr
  fd : FuncData
  fu : Fun K name name st f fd
  mg : mg name = some (.ref f)
  bd : Binds K fd ps []
def FnD (Pg : Program) (w : World) (K : PySem.W.Frag) (mg : Str → Option Value) (base : Heap) {name : Str} {st : Stmt} {ps : List Str} (D : DefAt K mg name st ps) (k : Nat) (F : TF) : Prop := FnOk Pg w K mg base CX0 k D.f D.fd ps (spD K F ps.length)
theorem FnD.mono {Pg : Program} {w : World} {K : PySem.W.Frag} {mg : Str → Option Value} {base : Heap} {name : Str} {st : Stmt} {ps : List Str} {D : DefAt K mg name st ps} {j k : Nat} {F : TF} (h : FnD Pg w K mg base D j F) (l : j ≤ k) : FnD Pg w K mg base D k F := FnOk.mono h l
/-- a weaker promise -/
theorem FnD.imp {Pg : Program} {w : World} {K : PySem.W.Frag} {mg : Str → Option Value} {base : Heap} {name : Str} {st : Stmt} {ps : List Str} {D : DefAt K mg name st ps} {k : Nat} {F F' : TF} (h : FnD Pg w K mg base D k F) (i : ∀ ms G, F' ms G → F ms G) : FnD Pg w K mg base D k F' :=
  FnOk.imp h fun vs H Q E ⟨o, ms, G, a, b, c, d⟩ => ⟨o, ms, G, a, b, i ms G c, d⟩
theorem hu1 {k : Nat} {A : Around} (r : Room k A) : A.units + 1 < cLine := by have := r.un; omega
theorem hu64 {k : Nat} {A : Around} (r : Room k A) : A.units + 64 < cLine := by have := r.un; omega
theorem hu65 {k : Nat} {A : Around} (r : Room k A) : A.units + 65 < cLine := by have := r.un; omega
theorem hu80 {k : Nat} {A : Around} (r : Room k A) : A.units + 80 < cLine := by have := r.un; omega

section
variable {K : PySem.W.Frag} {c : Cc} {o o' : Own} {σ σ' : St} {H H' : Hp} {ρ ρ' : Env} {τ τ' τ0 τ1 : List (V × M)} {X : Cx} {e a b : Expr} {es : List Expr} {pos : Pos} {t u : TX} {P : EndP} {D' : Ends}
/-! ### dicts made -/
def tNewK : TX := fun ρ Q => Q (.tm (.dk [])) ρ
def tNewT : TX := fun ρ Q => Q (.tm (.dt [])) ρ
theorem de_newK : DE X c (.Dict [] [] pos) tNewK := peImp pe_dnewK fun σ H k ⟨o, ρ, τ, Q, R0, h, q⟩ => fun p hp => by
  obtain ⟨o', τ', L, R', z⟩ := R0.made (m := .dk []) List.prefix_rfl (.new hp) ⟨p, [], rfl, hp, rfl, .nil⟩
  exact q _ _ o' _ ρ τ' L R' z h
theorem de_newT : DE X c (.Dict [] [] pos) tNewT := peImp pe_dnewT fun σ H k ⟨o, ρ, τ, Q, R0, h, q⟩ => fun p hp => by
  obtain ⟨o', τ', L, R', z⟩ := R0.made (m := .dt []) List.prefix_rfl (.new hp) ⟨p, [], rfl, hp, rfl, .nil⟩
  exact q _ _ o' _ ρ τ' L R' z h
/-- -e -/
def tNeg (t : TX) : TX := fun ρ Q => t ρ fun r ρ1 => match r with
  | .im (.int i) => Q (.im (.int (-i))) ρ1
  | _ => False
theorem de_neg (h : DE X c e t) : DE X c (.UnaryOp .USub e pos) (tNeg t) := peImp (pe_un un_neg h) fun σ H k h => by
  obtain ⟨o, ρ, τ, Q, R0, h, q⟩ := h
  refine ⟨o, ρ, τ, _, R0, h, fun v1 H1 o1 r1 ρ1 τ1 L1 R1 z1 h1 => ?_⟩
  split at h1
  · obtain ⟨rfl, z⟩ := z1
    cases z
    exact ⟨_, rfl, q _ H1 o1 (.im _) ρ1 _ L1 R1 ⟨rfl, .int _⟩ h1⟩
  · exact h1.elim
/-- dict(d) of a dict with keys ints and texts -/
def gDict : GC := fun ms G => match ms with
  | [.dk kvs] => G (.dk kvs)
  | _ => False
theorem dict_ok : CallG X (.type "dict") gDict := by
  refine callG call_dictD fun vs H k h => ?_
  obtain ⟨o, ms, G, mu, v1, h, q⟩ := h
  unfold gDict at h
  split at h
  · obtain ⟨v, rfl, w1⟩ := pv1 v1
    obtain ⟨l, a, ks, rfl, _, ha, kv⟩ := w1
    exact ⟨a, ks, rfl, .inl ha, fun p hp => q _ _ (.dk _) (.new hp) ⟨p, ks, rfl, hp, rfl, kv⟩ h⟩
  · exact h.elim
/-! ### a, b = x, y -/
def sPar (i j : Nat) (ta : TL) : TSX := fun P ρ => tFrz ta (fun ds ρ1 => match ds with
  | [x, y] => P.nx ((ρ1.set i (.lo (.im x))).set j (.lo (.im y)))
  | _ => False) ρ
end
end Y
namespace Y
open PySem PySem.Spec L2

/-! ### sorted -/
noncomputable def sortD (ds : List D) : List D := ds.mergeSort (PySem.W.dataLe false D.py)
def CanSort (ds : List D) : Prop := PySem.W.AllAlike (ds.map D.py) ∧ PySem.W.Sortable (ds.map D.py) ∧ ∀ d ∈ ds, D.ok 64 d = true
def kD : Key → D
  | .inl i => .int i
  | .inr s => .str s
def gSorted : GC := fun ms G => match ms with
  | [.dt kvs] => CanSort (kvs.map fun p => .tup (p.1.map kD)) ∧ G (.ls (sortD (kvs.map fun p => .tup (p.1.map kD))))
  | [.dk kvs] => CanSort (kvs.map fun p => kD p.1) ∧ G (.ls (sortD (kvs.map fun p => kD p.1)))
  | [m] => match m.lq? with
    | some ds => CanSort ds ∧ G (.ls (sortD ds))
    | none => False
  | _ => False
section
variable {X : Cx} {pins : List (Addr × Obj)} {σ : St} {H H' : Hp} {s : Shared} {K : PySem.W.Frag} {o : Own}
theorem Dats.all_dp {xs : List V} {ds : List D} (h : Dats K o H xs ds) (k : ∀ d ∈ ds, D.ok 64 d = true) : ∀ p ∈ xs.zip ds, Dat K o H p.1 p.2 ∧ Dp K H p.1 p.2.py := by
  induction xs generalizing ds with
  | nil => intro p hp; simp at hp
  | cons x xs ih =>
    cases h with
    | cons a t =>
      intro p hp
      rcases List.mem_cons.mp hp with rfl | hp
      · exact ⟨a, a.dp (k _ List.mem_cons_self)⟩
      · exact ih t (fun d hd => k d (List.mem_cons_of_mem _ hd)) p hp
theorem Dats.of_zip : ∀ {zs : List (V × D)}, (∀ p ∈ zs, Dat K o H p.1 p.2) → Dats K o H (zs.map (·.1)) (zs.map (·.2))
  | [], _ => .nil
  | z :: zs, h => .cons (h z List.mem_cons_self) (Dats.of_zip fun p hp => h p (List.mem_cons_of_mem _ hp))
theorem each_zip {R : Value → V × D → Prop} : ∀ {xs : List V} {us : List Value} {ds : List D}, Vals xs us → xs.length = ds.length → (∀ p ∈ xs.zip ds, ∀ u, RelV p.1 u → R u p) → PySem.W.EachIs R us (xs.zip ds)
  | _, _, [], .nil, _, _ => .nil
  | _, _, d :: ds, .cons r t, hl, h => .cons (h _ (by simp) _ r) (each_zip t (by simpa using hl) fun p hp => h p (by simp [hp]))
theorem each_vals {R : Value → V × D → Prop} (f : ∀ u p, R u p → RelV p.1 u) : ∀ {us : List Value} {zs : List (V × D)}, PySem.W.EachIs R us zs → Vals (zs.map (·.1)) us
  | _, _, .nil => .nil
  | _, _, .cons r t => .cons (f _ _ r) (each_vals f t)
/-- what stands behind the sort -/
theorem sort_fin {xs : List V} {ds : List D} (hl : xs.length = ds.length) (out : List Value) (e : PySem.W.EachIs (fun u p => RelV p.1 u ∧ p ∈ xs.zip ds) out ((xs.zip ds).mergeSort (PySem.W.dataLe false fun p => p.2.py))) (dd : ∀ p ∈ xs.zip ds, Dat K o H p.1 p.2) :
    ∃ ys, Vals ys out ∧ ys.length = ds.length ∧ Dats K o H ys (sortD ds) := by
  refine ⟨_, each_vals (fun u p h => h.1) e, ?_, ?_⟩
  · rw [List.length_map, List.length_mergeSort, List.length_zip, hl, Nat.min_self]
  · have q : sortD ds = ((xs.zip ds).mergeSort (PySem.W.dataLe false fun p => p.2.py)).map (·.2) := by
      unfold sortD
      rw [PySem.W.sort_maps (r := PySem.W.dataLe false fun p : V × D => p.2.py) (s := PySem.W.dataLe false D.py) (f := fun p : V × D => p.2) (l := xs.zip ds) (fun _ _ _ _ => rfl)]
      congr 1
      exact (List.map_snd_zip (by omega)).symm
    rw [q]
    exact Dats.of_zip fun p hp => dd p (List.mem_mergeSort.mp hp)
theorem zip_py {xs : List V} {ds : List D} (hl : xs.length = ds.length) : (xs.zip ds).map (fun p => p.2.py) = ds.map D.py := by
  have e : (xs.zip ds).map (fun p => p.2.py) = ((xs.zip ds).map Prod.snd).map D.py := by rw [List.map_map]; rfl
  rw [e, List.map_snd_zip (by omega)]
theorem sorted_list (hu : X.A.units + 80 < cLine) : CallR X (.builtin "sorted") (fun vs H k => ∃ a xs ds o, vs = [.ref a] ∧ SqL X.K H a xs ∧ Dats X.K o H xs ds ∧ CanSort ds ∧
    ∀ p ys, H p = none → ys.length = ds.length → Dats X.K o H ys (sortD ds) → k (.ref p) (upd H p (.lst ys))) := by
  intro pins s σ H vs us Q I r h
  obtain ⟨a, xs, ds, o, rfl, hs, hd, ⟨c1, c2, c3⟩, q⟩ := h
  obtain ⟨its, rv, hl, hz⟩ := I.list hs
  rw [Vals.ref1 r]
  have dp := hd.all_dp c3
  have er : PySem.W.EachIs (fun v (b : V × D) => ∃ as, Reads s.heap v b.2.py as) its (xs.zip ds) := each_zip rv hd.length fun p hp u ru => (Dp.reads I _ _ _ (dp p hp).2 ru)
  have e : PySem.W.EachIs (fun u (p : V × D) => RelV p.1 u ∧ p ∈ xs.zip ds) its (xs.zip ds) := each_zip rv hd.length fun p hp u ru => ⟨ru, hp⟩
  have hlz : (xs.zip ds).length = ds.length := by rw [List.length_zip, hd.length, Nat.min_self]
  refine PySem.W.sorted_data (enc := fun p : V × D => p.2.py) hl.isList e er (by rw [zip_py hd.length]; exact c1) (by rw [zip_py hd.length]; exact c2) (by rw [hlz, ← hd.length]; exact hz) (fun b hb => ?_) fun out ho eo => ?_
  · have := (D.ok_lay 64 b.2 (c3 b.2 (List.of_mem_zip hb).2)).2
    omega
  · obtain ⟨ys, hv, hly, hdy⟩ := sort_fin hd.length out eo fun p hp => (dp p hp).1
    obtain ⟨ep, he'⟩ := PyProof.Rows.sortedAll_at s.heap its out.toArray
    refine ⟨.ref _, upd H (s.heap.objs.size + 1) (.lst ys), I.laid (t' := s.toks) (fun _ _ => PyProof.Rows.sortedAll_old) (Nat.le_succ _) ⟨by rw [hly, ← hd.length]; exact hz, out, ep, hv, he'⟩, rfl, q _ ys (I.hok.fresh (Nat.le_succ _)) hly hdy⟩
/-- sorted(d), by the keys that a walk over d gives -/
theorem sorted_src {T : String} {r d : Addr} {n : Nat} {P : Nat → Value → Prop} {OK : Heap → Prop} {xs : List V} {ds : List D} {Q : Value → Shared → Prop} {E : Value → Shared → Prop} (S : PySem.W.KdlSrc X.prog X.w T r d n P OK) (hc : X.calm = true) (hu : X.A.units + 80 < cLine) (I : Inv X pins σ H s) (hok : OK s.heap) (hn : n ≤ sizeLine) (hnd : ds.length = n) (hd : Dats X.K o H xs ds) (cs : CanSort ds)
    (hi : ∀ acc : Array Value, PySem.ItemsOf P acc n → Vals xs acc.toList)
    (q : ∀ p ys s', H p = none → ys.length = ds.length → Dats X.K o H ys (sortD ds) → Inv X pins σ (upd H p (.lst ys)) s' → Q (.ref p) s') :
    wpAny (model X.prog X.w) X.A (call (.builtin "sorted") [.ref r]) Q E s := by
  obtain ⟨c1, c2, c3⟩ := cs
  refine Calls.call_function_entry PyProof.Rows.kind_sorted PyProof.Rows.plain_sorted PyProof.Rows.entry_sorted (PyProof.Rows.args_sorted1 _) ?_
  unfold Builtin.«sorted»
  refine wpAny_bind (m := checkCount "sorted" 1 1 _) (wpAny_pure ?_)
  refine wpAny_bind (PySem.W.kdu_collect (A := X.A.in1) S (I.ok.hd hc) hok hn fun h' tk acc hk hacc => ?_)
  have rv := hi acc hacc
  have I1 : Inv X pins σ H { s with heap := h', toks := tk } := I.kept hk
  have dp := hd.all_dp c3
  have hlz : (xs.zip ds).length = ds.length := by rw [List.length_zip, hd.length, Nat.min_self]
  have hal : acc.toList.length = ds.length := by rw [← rv.length, hd.length]
  refine wpAny_bind (wpAny_newList ?_ (by rw [hal, hnd]; exact hn))
  have hoL : (h'.push (PyProof.Rows.seqObj "list" acc.toList.toArray 0)).get? h'.objs.size = some (PyProof.Rows.seqObj "list" acc.toList.toArray 0) := Heap.get?_push_size _ rfl
  show wpAny _ _ _ _ _ { s with heap := h'.push (PyProof.Rows.seqObj "list" acc.toList.toArray 0), toks := tk }
  have er : PySem.W.EachIs (fun v (b : V × D) => ∃ as, Reads (h'.push (PyProof.Rows.seqObj "list" acc.toList.toArray 0)) v b.2.py as ∧ h'.objs.size ∉ as) acc.toList (xs.zip ds) := each_zip rv hd.length fun p hp u ru => by
    obtain ⟨as, ra⟩ := Dp.reads I1 _ _ _ (dp p hp).2 ru
    refine ⟨as, PyProof.Rows.Reads.keeps (fun b u e => Heap.get?_push_of_some _ e) ra, fun hm => ?_⟩
    obtain ⟨u, hu⟩ := PyProof.On.reads_mem_get ra _ hm
    exact absurd (Heap.lt_size hu) (Nat.lt_irrefl _)
  have e : PySem.W.EachIs (fun u (p : V × D) => RelV p.1 u ∧ p ∈ xs.zip ds) acc.toList (xs.zip ds) := each_zip rv hd.length fun p hp u ru => ⟨ru, hp⟩
  refine wpAny_bind (wpAny_holding (PySem.W.list_sort_data (enc := fun p : V × D => p.2.py) (s := { s with heap := h'.push (PyProof.Rows.seqObj "list" acc.toList.toArray 0), toks := tk }) hoL e er (by rw [zip_py hd.length]; exact c1) (by rw [zip_py hd.length]; exact c2) (by rw [hlz, hnd]; exact hn) (fun b hb => ?_) fun out ho eo => ?_))
  · have := (D.ok_lay 64 b.2 (c3 b.2 (List.of_mem_zip hb).2)).2
    show X.A.in1.units + 1 + _ < _
    have h1 : X.A.in1.units = X.A.units + 1 := rfl
    omega
  · obtain ⟨ys, hv, hly, hdy⟩ := sort_fin hd.length out eo fun p hp => (dp p hp).1
    obtain ⟨e', he'⟩ := PyProof.Rows.sortedHeap_at (vs := acc.toList) (out := out.toArray) hoL
    refine wpAny_pure ⟨_, rfl, q h'.objs.size ys _ (I1.hok.fresh (Nat.le_refl _)) hly hdy (I1.laid (t' := tk) (fun b u e => ?_) (Nat.le_refl _)
      (show ObjOk X.prog X.w _ _ _ (.lst ys) from ⟨by rw [hly, hnd]; exact hn, out, e', hv, he'⟩))⟩
    have hb : b < h'.objs.size := Heap.lt_size e
    rw [PyProof.Rows.sortedHeap_old (Nat.ne_of_lt hb) (by show b < (h'.objs.push _).size; rw [Array.size_push]; exact Nat.lt_succ_of_lt hb)]
    exact Heap.get?_push_of_some _ e
/-- items that a walk has collected, told one by one -/
theorem items_of {P : Nat → Value → Prop} {xs : List V} {n : Nat} (hl : xs.length = n) (f : ∀ (k : Nat) (x : V) (u : Value), xs[k]? = some x → P k u → RelV x u) (acc : Array Value) (h : PySem.ItemsOf P acc n) : Vals xs acc.toList :=
  vals_of_at (by rw [hl, Array.length_toList]; exact h.1.symm) fun k x u hx hu => f k x u hx (h.2 k u (by simpa using hu))
theorem sorted_dk (hc : X.calm = true) (hu : X.A.units + 80 < cLine) : CallR X (.builtin "sorted") (fun vs H k => ∃ a kvs ds o, vs = [.ref a] ∧ H a = some (.dK kvs) ∧ Dats X.K o H (kvs.map fun p => kV p.1) ds ∧ CanSort ds ∧
    ∀ p ys, H p = none → ys.length = ds.length → Dats X.K o H ys (sortD ds) → k (.ref p) (upd H p (.lst ys))) := by
  rintro pins s σ H xs us Q I rel ⟨d, kvs, ds, o, rfl, hd, dats, cs, fin⟩
  obtain ⟨len, own, ent, pairs, obj⟩ := (show ObjOk X.prog X.w H s.heap d (.dK kvs) from I.hok d _ hd)
  obtain ⟨age, stands⟩ := obj.dictAt
  have same : kvs.length = ent.length := pairs.length
  rw [Vals.ref1 rel]
  refine sorted_src (PySem.W.kdl_dict (knd := mixKind X.prog X.w) (kvs := ent) (ep := age) own) hc hu I stands (same ▸ len) (by rw [← same, ← dats.length, List.length_map]) dats cs (items_of (by rw [List.length_map, same]) fun j x u hx hp => ?_) fun p ys s' hp hy dy I' => ⟨.ref p, _, I', rfl, fin p ys hp hy dy⟩
  obtain ⟨key, val, at_, is_⟩ := hp
  have kj : (kvs.map fun q => q.1)[j]? = some key := by
    rw [show (kvs.map fun q => q.1) = ent.map (·.1) from KV.keys pairs, List.getElem?_map, at_]
    rfl
  rw [List.getElem?_map] at hx kj
  obtain ⟨q, hq, rfl⟩ := Option.map_eq_some_iff.mp hx
  rw [hq] at kj
  have kj : q.1 = key := Option.some.inj kj
  rw [kj]
  exact keyIs_rel is_
theorem sorted_dt (hc : X.calm = true) (hu : X.A.units + 80 < cLine) : CallR X (.builtin "sorted") (fun vs H k => ∃ a kvs ds o, vs = [.ref a] ∧ H a = some (.dT kvs) ∧ (∀ bs, IsKeys H kvs bs → Dats X.K o H (bs.map V.ref) ds) ∧ CanSort ds ∧
    ∀ p ys, H p = none → ys.length = ds.length → Dats X.K o H ys (sortD ds) → k (.ref p) (upd H p (.lst ys))) := by
  rintro pins s σ H xs us Q I rel ⟨d, kvs, ds, o, rfl, hd, dats, cs, fin⟩
  obtain ⟨len, own, trip, pairs, ob, ents, age, at_, exact_, data, told, nod⟩ := (show ObjOk X.prog X.w H s.heap d (.dT kvs) from I.hok d _ hd)
  have dats := dats _ (isKeys_of pairs)
  have n1 : ents.size = trip.length := size_of_entries told
  have n2 : kvs.length = trip.length := pairs.length
  rw [Vals.ref1 rel]
  refine sorted_src (kdl_raw own exact_ data) hc hu I at_ (by rw [n1, ← n2]; exact len) (by rw [n1, ← dats.length, List.length_map, List.length_map]) dats cs (items_of (by rw [List.length_map, List.length_map, n1]) fun j x u hx hp => ?_) fun p ys s' hp hy dy I' => ⟨.ref p, _, I', rfl, fin p ys hp hy dy⟩
  obtain ⟨en, hen, rfl⟩ := hp
  rw [List.getElem?_map, List.getElem?_map] at hx
  have toldj := entry_at told j
  rw [hen] at toldj
  cases tj : trip[j]? with
  | none => rw [tj] at hx; simp at hx
  | some t =>
    rw [tj] at hx toldj
    have hx : some (V.ref t.2.1) = some x := hx
    cases hx
    have toldj : some en = some (entryOfKey (tupleKind (mixKind X.prog X.w)) t) := toldj
    cases toldj
    rfl
theorem dat_key {k : Key} : Dat K o H (kV k) (kD k) := by
  cases k with
  | inl i => exact .int i
  | inr s => exact .str s
theorem dats_key : ∀ {ks : List Key}, Dats K o H (ks.map kV) (ks.map kD)
  | [] => .nil
  | _ :: _ => .cons dat_key dats_key
theorem dats_keys {kvs : List (Key × V)} {kds : List (Key × D)} (h : Kvs K o H kvs kds) : Dats K o H (kvs.map fun p => kV p.1) (kds.map fun p => kD p.1) := by
  induction h with
  | nil => exact .nil
  | cons a t ih => refine .cons ?_ ih; show Dat K o H (kV _) (kD _); rw [a.1]; exact dat_key
theorem dats_tkeys (mu : ∀ a l, o a = some l → Mut (H a)) {kvs : List (List Key × V)} {kds : List (List Key × D)} (h : Kvs K o H kvs kds) : ∀ {bs : List Addr}, IsKeys H kvs bs → Dats K o H (bs.map V.ref) (kds.map fun p => .tup (p.1.map kD)) := by
  induction h with
  | nil => intro bs hb; cases hb; exact .nil
  | cons a t ih =>
    intro bs hb
    cases hb with
    | @cons _ b _ _ h1 h2 =>
      refine .cons (.tup (xs := _) ⟨?_, h1⟩ ?_) (ih h2)
      · cases e : o b with
        | none => rfl
        | some l => have := mu b l e; rw [h1] at this; exact this.elim
      · rw [a.1]; exact dats_key
theorem sorted_ok (hc : X.calm = true) (hu : X.A.units + 80 < cLine) : CallG X (.builtin "sorted") gSorted := by
  refine callG ((sorted_list hu).or ((sorted_dk hc hu).or (sorted_dt hc hu))) fun vs H k h => ?_
  obtain ⟨o, ms, G, mu, v1, h, q⟩ := h
  unfold gSorted at h
  split at h
  · obtain ⟨v, rfl, w1⟩ := pv1 v1
    obtain ⟨l, a, ks, rfl, _, ha, kv⟩ := w1
    exact .inr (.inr ⟨a, ks, _, o, rfl, ha, fun bs hb => dats_tkeys mu kv hb, h.1, fun p ys hp _ hd => q _ _ (.ls _) (.new hp) ⟨p, ys, rfl, hp, rfl, hd⟩ h.2⟩)
  · obtain ⟨v, rfl, w1⟩ := pv1 v1
    obtain ⟨l, a, ks, rfl, _, ha, kv⟩ := w1
    exact .inr (.inl ⟨a, ks, _, o, rfl, ha, dats_keys kv, h.1, fun p ys hp _ hd => q _ _ (.ls _) (.new hp) ⟨p, ys, rfl, hp, rfl, hd⟩ h.2⟩)
  · obtain ⟨v, rfl, w1⟩ := pv1 v1
    split at h
    · rename_i ds e
      obtain ⟨a, xs, rfl, ht, dd⟩ := w1.lq e
      exact .inl ⟨a, xs, ds, o, rfl, ht, dd, h.1, fun p ys hp _ hd => q _ _ (.ls _) (.new hp) ⟨p, ys, rfl, hp, rfl, hd⟩ h.2⟩
    · exact h.elim
  · exact h.elim
end
end Y
namespace Y
open PySem PySem.Spec L2

/-! ### == of dicts by what they hold -/
def eqKvs (ka kb : List (Key × D)) : Bool := ka.length == kb.length && ka.all fun p => match getK kb p.1 with
  | some e => D.eqv p.2 e
  | none => false
def gEqs2 (neg : Bool) : G2 := fun m n G => match m, n with
  | .dk ka, .dk kb => (∀ p ∈ ka, D.ok 62 p.2 = true) ∧ (∀ p ∈ kb, D.ok 62 p.2 = true) ∧ neg = false ∧ G (.im (.bl (eqKvs ka kb)))
  | m, n => gEqs neg m n G
section
variable {X : Cx} {pins : List (Addr × Obj)} {σ : St} {H H' : Hp} {s : Shared} {K : PySem.W.Frag} {o o' : Own} {c : Cc} {ρ ρ' : Env} {τ τ' τ0 τ1 : List (V × M)}
theorem dat_eqP (I : Inv X pins σ H s) {A : Around} (hu : A.units + 62 < cLine) {x y : V} {v u : Value} {d e : D} (hd : Dat X.K o H x d) (he : Dat X.K o H y e) (kd : D.ok 62 d = true) (ke : D.ok 62 e = true) (rx : RelV x v) (ry : RelV y u) : SeqAt.EqP X.prog X.w A s v u (D.eqv d e) := by
  obtain ⟨as, r1⟩ := Dp.reads I _ _ _ (hd.dp kd) rx
  obtain ⟨bs, r2⟩ := Dp.reads I _ _ _ (he.dp ke) ry
  have q1 := D.ok_lay 62 d kd
  have q2 := D.ok_lay 62 e ke
  exact (SeqAt.eqAt_reads _ _ A s _ _ _ _ r1 r2 q1.1 q2.1 (by have := Nat.min_le_left d.py.depth e.py.depth; omega)).eqP
theorem dat_hits (I : Inv X pins σ H s) {A : Around} (hu : A.units + 62 < cLine) {kb : List (Key × D)} {ls : List (Key × V)} {vb : List (Key × Value)} (hb : Kvs X.K o H ls kb) (kbok : ∀ p ∈ kb, D.ok 62 p.2 = true) (rb : KV ls vb) {ka : List (Key × D)} {ks : List (Key × V)} {va : List (Key × Value)}
    (ha : Kvs X.K o H ks ka) (kaok : ∀ p ∈ ka, D.ok 62 p.2 = true) (ra : KV ks va) : PySem.W.KeqHitsP X.prog X.w A s vb va (ka.all fun p => match getK kb p.1 with
      | some e => D.eqv p.2 e
      | none => false) := by
  induction ha generalizing va with
  | nil => cases ra; exact .nil
  | @cons p q ps qs h t ih =>
    cases ra with
    | @cons _ r _ rs h2 t2 =>
      have ihh := ih (fun p' hp => kaok p' (List.mem_cons_of_mem _ hp)) t2
      have e1 : r.1 = p.1 := h2.1.symm
      have rr : RelO (valV ls p.1) (valueAt vb p.1) := rb.val p.1
      have rd : RelD X.K o H (valV ls p.1) (getK kb p.1) := hb.val p.1
      rw [List.all_cons]
      rw [← h.1]
      obtain ⟨rk, rv⟩ := r
      have e1' : rk = p.1 := e1
      subst e1'
      cases hk : getK kb p.1 with
      | none =>
        rw [hk] at rd
        have hv : valV ls p.1 = none := by
          cases z : valV ls p.1 with
          | none => rfl
          | some u => rw [z] at rd; exact rd.elim
        rw [hv] at rr
        have hn : valueAt vb p.1 = none := by
          cases z : valueAt vb p.1 with
          | none => rfl
          | some u => rw [z] at rr; exact absurd rr (by intro q; first | exact q.elim | cases q)
        exact .miss hn
      | some e =>
        rw [hk] at rd
        cases z : valV ls p.1 with
        | none => rw [z] at rd; exact rd.elim
        | some u =>
          rw [z] at rd rr
          obtain ⟨y, hy, ry⟩ := rr.some_of
          have hm : D.ok 62 e = true := by
            unfold getK at hk
            obtain ⟨kv, hf, rfl⟩ := Option.map_eq_some_iff.mp hk
            exact kbok kv (List.mem_of_find?_eq_some hf)
          exact .hit hy (dat_eqP I hu h.2 rd (kaok q List.mem_cons_self) hm h2.2 ry) ihh
theorem op_eqK (hu : X.A.units + 64 < cLine) : OpR X (compareOp .Eq) (fun x y H Q => ∃ a b ks ls ka kb o, x = .ref a ∧ y = .ref b ∧ H a = some (.dK ks) ∧ H b = some (.dK ls) ∧ Kvs X.K o H ks ka ∧ Kvs X.K o H ls kb ∧ (∀ p ∈ ka, D.ok 62 p.2 = true) ∧ (∀ p ∈ kb, D.ok 62 p.2 = true) ∧
    Q (.bl (eqKvs ka kb)) H) := by
  rintro pins s σ H _ _ _ _ Q I rx ry ⟨a, b, ks, ls, ka, kb, o, rfl, rfl, ha, hb, k1, k2, o1, o2, q⟩
  obtain rfl := rx
  obtain rfl := ry
  have da0 := I.hok a _ ha
  have db0 := I.hok b _ hb
  obtain ⟨_, ya, va, ra, da⟩ := da0
  obtain ⟨_, yb, vb, rb, db⟩ := db0
  refine PySem.W.rcP_dicts (knd := mixKind X.prog X.w) ya yb da db (by omega) (fun _ => dat_hits I (A := X.A.in1) (by show X.A.units + 1 + 62 < cLine; omega) k2 o2 rb k1 o1 ra) _ _ ?_
  refine ⟨.bl _, H, I, ?_, q⟩
  show _ = Value.bool _
  unfold eqKvs
  rw [show va.length = ka.length by rw [← ra.length, k1.length], show vb.length = kb.length by rw [← rb.length, k2.length]]
theorem eq2_ok (hu : X.A.units + 64 < cLine) : OpG X (compareOp .Eq) (gEqs2 false) := by
  rintro pins s σ H x y v u Q I rx ry ⟨o, m1, m2, G, mu, v1, v2, h, q⟩
  unfold gEqs2 at h
  split at h
  · obtain ⟨l1, a, ks, rfl, _, ha, kv⟩ := v1
    obtain ⟨l2, b, ls, rfl, _, hb, lv⟩ := v2
    exact op_eqK hu pins s σ H _ _ v u Q I rx ry ⟨a, b, ks, ls, _, _, o, rfl, rfl, ha, hb, kv, lv, h.1, h.2.1, qim q (.bl _) h.2.2.2⟩
  · exact eq_ok hu pins s σ H x y v u Q I rx ry ⟨o, m1, m2, G, mu, v1, v2, h, q⟩

/-! ### displays -/
/-- a temporary's object is changed -/
theorem Rep.mutT {a : Addr} {m0 : M} (R0 : Rep K c o σ H ρ (τ ++ [(.ref a, m0)])) {m : M} {u : HO} (ho : o a = some (.t τ.length)) (hu : Mut (some u)) (hm : m.own = true)
    (h : IsM K o (upd H a u) (.t τ.length) (.ref a) m) : Rep K c o σ (upd H a u) ρ (τ ++ [(.ref a, m)]) ∧ Le o H o (upd H a u) := by
  have ne : ∀ b l, o b = some l → l ≠ .t τ.length → b ≠ a := fun b l q z w => by subst w; rw [ho] at q; cases q; exact z rfl
  have L : Le o H o (upd H a u) := ⟨fun b w q f => ⟨q, by rw [upd_ne (fun z => by subst z; rw [ho] at q; cases q)]; exact f⟩, fun b q => ⟨q, upd_ne (ne b _ q (by intro z; cases z))⟩⟩
  have kp : ∀ l, l ≠ .t τ.length → ∀ b, o b = some l → o b = some l ∧ upd H a u b = H b := fun l z b q => ⟨q, upd_ne (ne b l q z)⟩
  refine ⟨⟨fun j s' q => (R0.sl j s' q).mono L (kp _ (by intro z; cases z)) (kp _ (by intro z; cases z)), fun j v m' q => ?_, fun b l q => ?_, R0.le.trans L, R0.ln⟩, L⟩
  · by_cases hj : j < τ.length
    · rw [List.getElem?_append_left hj] at q
      have q' := R0.tm j v m' (by rw [List.getElem?_append_left hj]; exact q)
      exact ⟨q'.1.mono L (kp _ (by intro z; injection z with z; omega)), q'.2⟩
    · rw [List.getElem?_append_right (by omega)] at q
      have hz : j - τ.length = 0 := by
        cases w : j - τ.length with
        | zero => rfl
        | succ n => rw [w] at q; simp at q
      rw [hz] at q
      have e2 : j = τ.length := by omega
      subst e2
      simp at q
      obtain ⟨rfl, rfl⟩ := q
      exact ⟨h, hm⟩
  · by_cases z : b = a
    · subst z; rw [upd_same]; exact hu
    · rw [upd_ne z]; exact R0.mu b l q
def pairUp : List V → List (V × V)
  | x :: y :: r => (x, y) :: pairUp r
  | _ => []
structure DPs (X : Cx) (c : Cc) (pos : Pos) (keys : List (Option Expr)) (values : List Expr) (tl : TL) : Prop where
  ex : ∃ trs, PPs X pos keys values trs ∧ ∀ σ H Q, TAo X.K c tl σ H (fun vs H' => Q (pairUp vs) H') → tPairs trs σ H Q
theorem dps_nil {pos : Pos} : DPs X c pos [] [] lNil := ⟨[], pps_nil, fun σ H Q ⟨o, ρ, τ, Q', R0, h, q⟩ => q [] H o [] ρ τ .refl R0 .nil h⟩
theorem dps_cons {pos : Pos} {k v : Expr} {ks : List (Option Expr)} {vs : List Expr} {tk tv : TX} {tl : TL} (hk : DE X c k tk) (hv : DE X c v tv) (hr : DPs X c pos ks vs tl) : DPs X c pos (some k :: ks) (v :: vs) (lCons tk (lCons tv tl)) := by
  obtain ⟨trs, h1, h2⟩ := hr
  refine ⟨(TEo X.K c tk, TEo X.K c tv) :: trs, pps_cons hk hv h1, fun σ H Q ⟨o, ρ, τ, Q', R0, h, q⟩ => ?_⟩
  refine ⟨o, ρ, τ, _, R0, h, fun v1 H1 o1 r1 ρ1 τ1 L1 R1 z1 h1 => ⟨o1, ρ1, τ1, _, R1, h1, fun v2 H2 o2 r2 ρ2 τ2 L2 R2 z2 h2b => h2 _ _ _ ⟨o2, ρ2, τ2, _, R2, h2b, fun vs H3 o3 rs ρ3 τ3 L3 R3 z3 h3 => ?_⟩⟩⟩
  exact q (v1 :: v2 :: vs) H3 o3 _ ρ3 τ3 (L1.trans (L2.trans L3)) R3 (.cons (z1.mono (L2.trans L3)) (.cons (z2.mono L3) z3)) h3

def pairG {κ : Type} (f : D → Option κ) : List D → Option (List (κ × D))
  | [] => some []
  | k :: d :: r => match f k, pairG f r with
    | some k, some kvs => some ((k, d) :: kvs)
    | _, _ => none
  | _ => none
def D.tkey? : D → Option (List Key)
  | .tup ds => D.keys? ds
  | _ => none
def putAll {κ : Type} [DecidableEq κ] (kvs more : List (κ × D)) : List (κ × D) := more.foldl (fun acc kv => putD acc kv.1 kv.2) kvs
def tDspK (tl : TL) : TX := fun ρ Q => tFrz tl (fun ds ρ1 => match pairG D.key? ds with
  | some kvs => kvs.length ≤ 15 ∧ Q (.tm (.dk (putAll [] kvs))) ρ1
  | none => False) ρ
def tDspT (tl : TL) : TX := fun ρ Q => tFrz tl (fun ds ρ1 => match pairG D.tkey? ds with
  | some kvs => kvs.length ≤ 15 ∧ Q (.tm (.dt (putAll [] kvs))) ρ1
  | none => False) ρ
theorem frzN {f : List D → Env → Prop} {tl : TL} {k : List V → Hp → Prop} (R0 : Rep K c o σ H ρ τ) (h : tFrz tl f ρ)
    (q : ∀ vs H' o' ds ρ', Le o H o' H' → Rep K c o' σ H' ρ' τ → Dats K o' H' vs ds → f ds ρ' → k vs H') : TAo K c tl σ H k := by
  refine ⟨o, ρ, τ, _, R0, h, fun v H1 o1 r ρ1 τ1 L1 R1 z1 h1 => ?_⟩
  split at h1
  · rename_i ds ρ2 e
    have R2 := R1.drop z1.pre
    have els := z1.els (ρ0 := ρ1) (base := τ.length) (Nat.le_refl _) (fun j v m e => (R1.tm j v m e).1)
    obtain ⟨o', L, R3, dd⟩ := froz_ok R2 els e
    exact q v H1 o' _ ρ2 (L1.trans ((dropT_le _).trans L)) R3 dd h1
  · exact h1.elim
theorem Kvs.putAll {κ : Type} [DecidableEq κ] {ks ls : List (κ × V)} {kvs lvs : List (κ × D)} (h : Kvs K o H ks kvs) (g : Kvs K o H ls lvs) : Kvs K o H (ls.foldl (fun acc kv => putK acc kv.1 kv.2) ks) (Y.putAll kvs lvs) := by
  unfold Kvs at g
  induction g generalizing ks kvs with
  | nil => exact h
  | @cons p q ps qs a t ih =>
    have e : Kvs K o H (putK ks p.1 p.2) (putD kvs q.1 q.2) := by rw [← a.1]; exact h.put p.1 a.2
    exact ih e
theorem dspK_pairs : ∀ {vs : List V} {ds : List D} {kvs : List (Key × D)}, Dats K o H vs ds → pairG D.key? ds = some kvs → ∃ ks : List (Key × V), pairUp vs = ks.map (fun kv => (kV kv.1, kv.2)) ∧ Kvs K o H ks kvs ∧ ks.length = kvs.length
  | _, [], _, .nil, e => by simp [pairG] at e; subst e; exact ⟨[], rfl, .nil, rfl⟩
  | _, [_], _, .cons _ .nil, e => by simp [pairG] at e
  | _, k :: d :: r, _, .cons a (.cons b t), e => by
    unfold pairG at e
    split at e
    · rename_i k' kvs e1 e2
      cases e
      obtain ⟨ks, h1, h2, h3⟩ := dspK_pairs t e2
      refine ⟨(k', _) :: ks, ?_, .cons ⟨rfl, b⟩ h2, by simp [h3]⟩
      rw [a.key e1]
      simp only [pairUp, List.map_cons, h1]
    · cases e
theorem le_of_upd {p : Addr} {u w : HO} {o1 : Own} {H1 : Hp} (hp : H p = none) (mu : ∀ a l, o a = some l → Mut (H a)) (L : Le (fun b => if b = p then some (.t τ.length) else o b) (upd H p u) o1 H1) : Le o H o1 H1 := by
  have ne : ∀ b w, H b = some w → b ≠ p := fun b w e => ne_of_none e hp
  refine ⟨fun b w e f => L.keep b w (by show (if b = p then _ else o b) = none; rw [if_neg (ne b w f)]; exact e) (by rw [upd_ne (ne b w f)]; exact f), fun b e => ?_⟩
  obtain ⟨w, q⟩ := mut_some (mu b _ e)
  obtain ⟨e1, e2⟩ := L.ext b (by show (if b = p then _ else o b) = _; rw [if_neg (ne b w q)]; exact e)
  exact ⟨e1, e2.trans (upd_ne (ne b w q))⟩
section
variable {keys : List (Option Expr)} {values : List Expr} {pos : Pos} {tl : TL}
theorem de_dspK (h : DPs X c pos keys values tl) (hall : keys.all (·.isSome) = true := by rfl) (hl : keys.length = values.length := by rfl) (h0 : keys ≠ [] := by exact List.cons_ne_nil _ _) (h15 : keys.length ≤ 15 := by decide) : DE X c (.Dict keys values pos) (tDspK tl) := by
  obtain ⟨trs, h1, h2⟩ := h
  refine peImp (pe_disp h1 hall hl h0 h15) fun σ H k ⟨o, ρ, τ, Q, R0, h, q⟩ => fun p hp => ?_
  obtain ⟨R1, L1⟩ := R0.push (m := .dk []) (u := .dK []) hp trivial rfl ⟨p, [], rfl, by simp, upd_same, .nil⟩
  refine h2 _ _ _ (frzN R1 h fun vs H2 o2 ds ρ2 L2 R2 dd hf => ?_)
  split at hf
  · rename_i kvs e
    obtain ⟨ks, e1, kk, kl⟩ := dspK_pairs dd e
    obtain ⟨⟨a, xs, ea, ho, hH, hx⟩, _⟩ := R2.tm τ.length (.ref p) (.dk []) (by simp)
    cases ea
    cases hx
    refine ⟨hH, ks, e1, by rw [kl]; exact hf.1, ?_⟩
    have L3 : Le o2 H2 o2 (upd H2 p (.dK (mergeK [] ks))) := ⟨fun b w q f => ⟨q, by rw [upd_ne (fun z => by subst z; rw [ho] at q; cases q)]; exact f⟩, fun b q => ⟨q, upd_ne (fun z => by subst z; rw [ho] at q; cases q)⟩⟩
    obtain ⟨R3, L3⟩ := R2.mutT (m := .dk (putAll [] kvs)) (u := .dK (mergeK [] ks)) ho trivial rfl ⟨p, _, rfl, ho, upd_same, Kvs.mono L3 (Kvs.putAll .nil kk)⟩
    exact q _ _ o2 (.tm _) ρ2 _ (L1.trans (L2.trans L3)) R3 rfl hf.2
  · exact hf.elim

/-- {(..): v, ..}; the new dict stands empty while the pairs are made -/
def mergeT (kvs more : List (List Key × V)) : List (List Key × V) := more.foldl (fun acc kv => putK acc kv.1 kv.2) kvs
def tDispT (trs : List (TE × TE)) : TE := fun σ H Q => ∀ p, H p = none → tPairs trs σ (upd H p (.dT [])) fun ps H2 => H2 p = some (.dT []) ∧ ∃ kvs : List (List Key × V), Paired (fun (x : V × V) (y : List Key × V) => ∃ b, x = (V.ref b, y.2) ∧ H2 b = some (.tup (y.1.map kV))) ps kvs ∧ kvs.length ≤ 15 ∧
  Q (.ref p) (upd H2 p (.dT (mergeT [] kvs)))
theorem carriesT {P : Program} {w : World} {h : Heap} (ok : HOk P w H h) {ps : List (V × V)} {kvs : List (List Key × V)} (hp : Paired (fun (x : V × V) (y : List Key × V) => ∃ b, x = (V.ref b, y.2) ∧ H b = some (.tup (y.1.map kV))) ps kvs) : ∀ {ws : List (Value × Value)}, VV ps ws → ∃ rs, CarriesH (tupleKind (mixKind P w)) h ws rs ∧ KT H kvs rs := by
  induction hp with
  | nil => intro ws r; cases r; exact ⟨[], trivial, .nil⟩
  | @cons x y xs ys a t ih =>
    intro ws r
    cases r with
    | @cons _ w1 _ ws h1 h2 =>
      obtain ⟨rs, c1, c2⟩ := ih h2
      obtain ⟨b, rfl, hb⟩ := a
      obtain ⟨k1, k2⟩ := w1
      have e : k1 = Value.ref b := h1.1
      subst e
      exact ⟨(y.1, b, k2) :: rs, ⟨rfl, rfl, key_of ok hb, c1⟩, .cons ⟨rfl, hb, h1.2⟩ c2⟩
theorem KT.merge {kvs : List (List Key × V)} {xs : List (List Key × Addr × Value)} (r : KT H kvs xs) : ∀ {more : List (List Key × V)} {rs : List (List Key × Addr × Value)}, KT H more rs → KT H (mergeT kvs more) (storedAllH xs rs) := by
  intro more rs g
  induction g generalizing kvs xs with
  | nil => exact r
  | @cons p q ps qs a t ih =>
    have e : KT H (putK kvs p.1 p.2) (storedH xs q.1 q.2.1 q.2.2) := by rw [← a.1]; exact r.put p.1 a.2.1 a.2.2
    exact ih e
theorem length_mergeT (more : List (List Key × V)) : ∀ kvs : List (List Key × V), (mergeT kvs more).length ≤ kvs.length + more.length := by
  induction more with
  | nil => exact fun kvs => Nat.le_refl kvs.length
  | cons p r ih =>
    intro kvs
    refine Nat.le_trans (ih (putK kvs p.1 p.2)) ?_
    have := length_putK kvs p.1 p.2
    simp only [List.length_cons]; omega
/-- a dict with tuple keys is written anew -/
theorem dt_write {pins : List (Addr × Obj)} {σ : St} {s : Shared} {a : Addr} {k0 ks : List (List Key × V)} {rs : List (List Key × Addr × Value)} {h' : Heap} {tk : Tok} (I : Inv X pins σ H s) (e : H a = some (.dT k0))
    (hz : ks.length ≤ sizeLine) (rk : KT H ks rs) (hs : Heap.SameBut a s.heap h') (dd : h'.DictOfH (tupleKind (mixKind X.prog X.w)) a rs) : Inv X pins σ (upd H a (.dT ks)) { s with heap := h', toks := tk } := by
  have up : KT (upd H a (.dT ks)) ks rs := rk.keeps fun c ys z => (upd_ne fun w => by rw [w, e] at z; cases z).trans z
  obtain ⟨ob, es, ep, g1, g2, g3, g4, _, g5⟩ := dd
  exact d_write I (by rw [e]; trivial) hs ⟨ob, g1⟩ ⟨hz, (dt_of I.hok e).2.1, rs, up, ob, es, ep, g1, g2, g3, g4, g5⟩
theorem pe_dispT {trs : List (TE × TE)} (hu : X.A.units + 1 < cLine) (h : PPs X pos keys values trs) (hall : keys.all (·.isSome) = true) (hl : keys.length = values.length) (h0 : keys ≠ [])
    (h15 : keys.length ≤ 15) : PE X (.Dict keys values pos) (tDispT trs) := by
  constructor
  intro pins s σ H Q I q
  have I1 := I.laid (a := s.heap.objs.size) (o := .dT []) (h' := s.heap.push { cls := .type "dict", data := .dict #[] }) (t' := s.toks) (fun _ _ q => Heap.get?_push_of_some _ q) (Nat.le_refl _) (dt_empty s.heap I.big)
  have hpl := pairTrees_length keys values X.env pos hall hl
  have hne : pairTrees keys values X.env pos ≠ [] := fun he => h0 (List.length_eq_zero_iff.mp (by rw [← hpl, he]; rfl))
  rw [arm_eval_Dict, zip_pairTrees keys values X.env pos hall hl, dictDisplay_pairs _ hne (by omega)]
  refine wpAny_bind (wpAny_standAt (wpAny_bind (wpAny_subDictH (knd := tupleKind (mixKind X.prog X.w)) (by show X.A.units < cLine; omega) (by omega) (thn (h.run pins _ σ _ _ I1 (q _ (I.hok.fresh (Nat.le_refl _)))) ?_))))
  rintro ws s2 ⟨ps, H2, I2, rel, e, kvs, ep, lk, q2⟩
  obtain ⟨rs, cr, rk⟩ := carriesT I2.hok ep rel
  obtain ⟨_, _, _, r0, d0⟩ := dt_of I2.hok e
  cases r0
  refine ⟨rs, cr, d0, fun h' tk dd' hs => wpAny_pure ⟨.ref s.heap.objs.size, _, dt_write I2 e ?_ (KT.merge .nil rk) hs dd', rfl, q2⟩⟩
  have := length_mergeT kvs []
  rw [sizeLine_eq]; simp only [List.length_nil] at this; omega
theorem dspT_pairs : ∀ {vs : List V} {ds : List D} {kvs : List (List Key × D)}, Dats K o H vs ds → pairG D.tkey? ds = some kvs → ∃ ks : List (List Key × V), Paired (fun (x : V × V) (y : List Key × V) => ∃ b, x = (V.ref b, y.2) ∧ H b = some (.tup (y.1.map kV))) (pairUp vs) ks ∧ Kvs K o H ks kvs ∧ ks.length = kvs.length
  | _, [], _, .nil, e => by simp [pairG] at e; subst e; exact ⟨[], .nil, .nil, rfl⟩
  | _, [_], _, .cons _ .nil, e => by simp [pairG] at e
  | _, k :: d :: r, _, .cons a (.cons b t), e => by
    unfold pairG at e
    split at e
    · rename_i k' kvs e1 e2
      cases e
      obtain ⟨ks, h1, h2, h3⟩ := dspT_pairs t e2
      unfold D.tkey? at e1
      split at e1
      · cases a with
        | tup tt rr =>
          refine ⟨(k', _) :: ks, .cons ⟨_, rfl, ?_⟩ h1, .cons ⟨rfl, b⟩ h2, by simp [h3]⟩
          rw [← rr.keys e1]; exact tt.2
      · cases e1
    · cases e
theorem de_dspT (hu : X.A.units + 1 < cLine) (h : DPs X c pos keys values tl) (hall : keys.all (·.isSome) = true := by rfl) (hl : keys.length = values.length := by rfl) (h0 : keys ≠ [] := by exact List.cons_ne_nil _ _) (h15 : keys.length ≤ 15 := by decide) : DE X c (.Dict keys values pos) (tDspT tl) := by
  obtain ⟨trs, h1, h2⟩ := h
  refine peImp (pe_dispT hu h1 hall hl h0 h15) fun σ H k ⟨o, ρ, τ, Q, R0, h, q⟩ => fun p hp => ?_
  obtain ⟨R1, L1⟩ := R0.push (m := .dt []) (u := .dT []) hp trivial rfl ⟨p, [], rfl, by simp, upd_same, .nil⟩
  refine h2 _ _ _ (frzN R1 h fun vs H2 o2 ds ρ2 L2 R2 dd hf => ?_)
  split at hf
  · rename_i kvs e
    obtain ⟨ks, e1, kk, kl⟩ := dspT_pairs dd e
    obtain ⟨⟨a, xs, ea, ho, hH, hx⟩, _⟩ := R2.tm τ.length (.ref p) (.dt []) (by simp)
    cases ea
    cases hx
    refine ⟨hH, ks, e1, by rw [kl]; exact hf.1, ?_⟩
    have L3 : Le o2 H2 o2 (upd H2 p (.dT (mergeT [] ks))) := ⟨fun b w q f => ⟨q, by rw [upd_ne (fun z => by subst z; rw [ho] at q; cases q)]; exact f⟩, fun b q => ⟨q, upd_ne (fun z => by subst z; rw [ho] at q; cases q)⟩⟩
    obtain ⟨R3, L3⟩ := R2.mutT (m := .dt (putAll [] kvs)) (u := .dT (mergeT [] ks)) ho trivial rfl ⟨p, _, rfl, ho, upd_same, Kvs.mono L3 (Kvs.putAll .nil kk)⟩
    exact q _ _ o2 (.tm _) ρ2 _ (L1.trans (L2.trans L3)) R3 rfl hf.2
  · exact hf.elim
end
end
end Y
namespace Y
open PySem PySem.Spec L2
/-! ### the plain side: one statement at a time, what follows kept folded -/
theorem seq_step {t u : TSX} {P : EndP} {ρ : Env} (h : ∀ R, R = u P → t { P with nx := R } ρ) : sSeq t u P ρ := h _ rfl
theorem loop_step {b : Bd} {t : TSX} {gd : Env → Prop} {P : EndP} {d : D} {ds : List D} {ρ : Env} (g : gd ρ) (h : ∀ L, L = loopS b t gd P ds → bnd b d ρ fun ρ1 => t { P with nx := L, ct := L, bk := P.nx } ρ1) : loopS b t gd P (d :: ds) ρ := ⟨g, h _ rfl⟩
theorem while_step {q : TQ} {t : TSX} {P : EndP} {n : Nat} {ρ : Env} (h : ∀ L, L = whileS q t P n → q ρ fun b ρ1 => if b = true then t { P with nx := L, ct := L, bk := P.nx } ρ1 else P.nx ρ1) : whileS q t P (n + 1) ρ := h _ rfl
theorem comp_step {b : Bd} {tq : TQ} {te : TX} {vs : List Nat} {gd : Env → Prop} {k : List D → Env → Prop} {d : D} {ds acc : List D} {ρ : Env} (g : gd ρ) (h : ∀ L, L = compL b tq te vs gd k ds → bnd b d ρ fun ρ1 => tq ρ1 fun ok ρ2 =>
    if ok = true then tFrz (lCons te lNil) (fun xs ρ3 => match xs with
      | [x] => acc.length < sizeLine ∧ L (acc ++ [x]) (wipeE ρ3 vs)
      | _ => False) ρ2
    else L acc (wipeE ρ2 vs)) : compL b tq te vs gd k (d :: ds) acc ρ := ⟨g, h _ rfl⟩
/-! what a call leaves in a slot -/
theorem putS_lo_ls_ls {a : List D} {b : List D} : putS (some (.ls b)) (some (.lo (.ls a))) = some (.lo (.ls b)) := rfl
theorem putS_lo_ls_dk {a : List D} {b : List (Key × D)} : putS (some (.dk b)) (some (.lo (.ls a))) = some (.lo (.dk b)) := rfl
theorem putS_lo_ls_dt {a : List D} {b : List (List Key × D)} : putS (some (.dt b)) (some (.lo (.ls a))) = some (.lo (.dt b)) := rfl
theorem putS_lo_ls_no {a : List D} : putS none (some (.lo (.ls a))) = some .no := rfl
theorem putS_pa_ls_ls {a : List D} {b : List D} : putS (some (.ls b)) (some (.pa (.ls a))) = some (.pa (.ls b)) := rfl
theorem putS_pa_ls_dk {a : List D} {b : List (Key × D)} : putS (some (.dk b)) (some (.pa (.ls a))) = some (.pa (.dk b)) := rfl
theorem putS_pa_ls_dt {a : List D} {b : List (List Key × D)} : putS (some (.dt b)) (some (.pa (.ls a))) = some (.pa (.dt b)) := rfl
theorem putS_pa_ls_no {a : List D} : putS none (some (.pa (.ls a))) = some .no := rfl
theorem putS_lo_rd_ls {a : List D} {b : List D} : putS (some (.ls b)) (some (.lo (.rd a))) = some (.lo (.ls b)) := rfl
theorem putS_lo_rd_dk {a : List D} {b : List (Key × D)} : putS (some (.dk b)) (some (.lo (.rd a))) = some (.lo (.dk b)) := rfl
theorem putS_lo_rd_dt {a : List D} {b : List (List Key × D)} : putS (some (.dt b)) (some (.lo (.rd a))) = some (.lo (.dt b)) := rfl
theorem putS_lo_rd_no {a : List D} : putS none (some (.lo (.rd a))) = some .no := rfl
theorem putS_pa_rd_ls {a : List D} {b : List D} : putS (some (.ls b)) (some (.pa (.rd a))) = some (.pa (.ls b)) := rfl
theorem putS_pa_rd_dk {a : List D} {b : List (Key × D)} : putS (some (.dk b)) (some (.pa (.rd a))) = some (.pa (.dk b)) := rfl
theorem putS_pa_rd_dt {a : List D} {b : List (List Key × D)} : putS (some (.dt b)) (some (.pa (.rd a))) = some (.pa (.dt b)) := rfl
theorem putS_pa_rd_no {a : List D} : putS none (some (.pa (.rd a))) = some .no := rfl
theorem putS_lo_dk_ls {a : List (Key × D)} {b : List D} : putS (some (.ls b)) (some (.lo (.dk a))) = some (.lo (.ls b)) := rfl
theorem putS_lo_dk_dk {a : List (Key × D)} {b : List (Key × D)} : putS (some (.dk b)) (some (.lo (.dk a))) = some (.lo (.dk b)) := rfl
theorem putS_lo_dk_dt {a : List (Key × D)} {b : List (List Key × D)} : putS (some (.dt b)) (some (.lo (.dk a))) = some (.lo (.dt b)) := rfl
theorem putS_lo_dk_no {a : List (Key × D)} : putS none (some (.lo (.dk a))) = some .no := rfl
theorem putS_pa_dk_ls {a : List (Key × D)} {b : List D} : putS (some (.ls b)) (some (.pa (.dk a))) = some (.pa (.ls b)) := rfl
theorem putS_pa_dk_dk {a : List (Key × D)} {b : List (Key × D)} : putS (some (.dk b)) (some (.pa (.dk a))) = some (.pa (.dk b)) := rfl
theorem putS_pa_dk_dt {a : List (Key × D)} {b : List (List Key × D)} : putS (some (.dt b)) (some (.pa (.dk a))) = some (.pa (.dt b)) := rfl
theorem putS_pa_dk_no {a : List (Key × D)} : putS none (some (.pa (.dk a))) = some .no := rfl
theorem putS_lo_dt_ls {a : List (List Key × D)} {b : List D} : putS (some (.ls b)) (some (.lo (.dt a))) = some (.lo (.ls b)) := rfl
theorem putS_lo_dt_dk {a : List (List Key × D)} {b : List (Key × D)} : putS (some (.dk b)) (some (.lo (.dt a))) = some (.lo (.dk b)) := rfl
theorem putS_lo_dt_dt {a : List (List Key × D)} {b : List (List Key × D)} : putS (some (.dt b)) (some (.lo (.dt a))) = some (.lo (.dt b)) := rfl
theorem putS_lo_dt_no {a : List (List Key × D)} : putS none (some (.lo (.dt a))) = some .no := rfl
theorem putS_pa_dt_ls {a : List (List Key × D)} {b : List D} : putS (some (.ls b)) (some (.pa (.dt a))) = some (.pa (.ls b)) := rfl
theorem putS_pa_dt_dk {a : List (List Key × D)} {b : List (Key × D)} : putS (some (.dk b)) (some (.pa (.dt a))) = some (.pa (.dk b)) := rfl
theorem putS_pa_dt_dt {a : List (List Key × D)} {b : List (List Key × D)} : putS (some (.dt b)) (some (.pa (.dt a))) = some (.pa (.dt b)) := rfl
theorem putS_pa_dt_no {a : List (List Key × D)} : putS none (some (.pa (.dt a))) = some .no := rfl
theorem putS_lo_im {a : D} {f : Option M} : putS f (some (.lo (.im a))) = none := rfl
theorem putS_lo_sq {a : List D} {f : Option M} : putS f (some (.lo (.sq a))) = none := rfl
theorem putS_pa_im {a : D} {f : Option M} : putS f (some (.pa (.im a))) = none := rfl
theorem putS_pa_sq {a : List D} {f : Option M} : putS f (some (.pa (.sq a))) = none := rfl
theorem gRng_zero (lo : Int) : gRng lo 0 = [] := rfl
theorem gRng_succ (lo : Int) (n : Nat) : gRng lo (n + 1) = .int lo :: gRng (lo + 1) n := by
  unfold gRng
  rw [List.range_succ_eq_map, List.map_cons, List.map_map]
  congr 1
  · simp
  · apply List.map_congr_left; intro i _; simp; omega
/-- small factors -/
theorem log2_lt {i : Int} (k : Nat) (h1 : -(2 ^ k) < i) (h2 : i < 2 ^ k) (hk : 0 < k) : i.natAbs.log2 < k := by
  by_cases z : i.natAbs = 0
  · rw [z]; simpa using hk
  · rw [Nat.log2_lt z]
    have e : ((2 : Int) ^ k) = ((2 ^ k : Nat) : Int) := by norm_cast
    rw [e] at h1 h2
    omega
theorem cMul {i j : Int} (a : -(2 ^ 64) < i ∧ i < 2 ^ 64) (b : -(2 ^ 64) < j ∧ j < 2 ^ 64) : CMulW i j := by
  have h1 := log2_lt 64 a.1 a.2 (by decide)
  have h2 := log2_lt 64 b.1 b.2 (by decide)
  unfold CMulW; omega
theorem cDiv {i j : Int} (b : 0 < j ∧ j < 2 ^ 64) : CDivW i j := by
  have h2 := log2_lt (i := j) 64 (by omega) b.2 (by decide)
  exact ⟨b.1, by omega⟩
/-- an index that stands -/
theorem atI_ok {α : Type} {xs : List α} {i : Int} (h0 : 0 ≤ i) (h : i < xs.length) : ∃ x, atI xs i = some x ∧ xs[i.toNat]? = some x := by
  refine ⟨xs[i.toNat]'(by omega), ?_, List.getElem?_eq_getElem (by omega)⟩
  unfold atI ixN
  rw [if_pos h0, if_pos h]
  exact List.getElem?_eq_getElem (by omega)
theorem ixN_ok {n : Nat} {i : Int} (h0 : 0 ≤ i) (h : i < n) : ixN n i = some i.toNat := by unfold ixN; rw [if_pos h0, if_pos h]
theorem atI_map {α β : Type} (f : α → β) (xs : List α) (i : Int) : atI (xs.map f) i = (atI xs i).map f := by
  unfold atI
  rw [List.length_map]
  cases ixN xs.length i with
  | none => rfl
  | some j => exact List.getElem?_map

/-! ### comprehensions that leave the environment as it is -/
theorem comp_fix {α : Type} {b : Bd} {tq : TQ} {te : TX} {vs : List Nat} {gd : Env → Prop} {k : List D → Env → Prop} {ρ : Env} (g : α → D) (f : α → Option D) (hg : gd ρ) : ∀ (xs : List α) (acc : List D),
    (∀ x ∈ xs, ∀ (acc : List D) (L : List D → Env → Prop), acc.length < sizeLine → (match f x with
      | some y => L (acc ++ [y]) ρ
      | none => L acc ρ) → bnd b (g x) ρ fun ρ1 => tq ρ1 fun ok ρ2 => if ok = true then tFrz (lCons te lNil) (fun xs ρ3 => match xs with
        | [x] => acc.length < sizeLine ∧ L (acc ++ [x]) (wipeE ρ3 vs)
        | _ => False) ρ2 else L acc (wipeE ρ2 vs)) →
    acc.length + xs.length ≤ sizeLine → k (acc ++ xs.filterMap f) ρ → compL b tq te vs gd k (xs.map g) acc ρ := by
  intro xs
  induction xs with
  | nil => intro acc _ _ h; rw [List.filterMap_nil, List.append_nil] at h; exact ⟨hg, h⟩
  | cons x xs ih =>
    intro acc st hl h
    rw [List.length_cons] at hl
    refine ⟨hg, st x List.mem_cons_self acc _ (by omega) ?_⟩
    cases e : f x with
    | some y =>
      refine ih _ (fun z hz => st z (List.mem_cons_of_mem _ hz)) (by rw [List.length_append, List.length_singleton]; omega) ?_
      rw [List.filterMap_cons, e] at h
      rw [List.append_assoc]; exact h
    | none =>
      refine ih _ (fun z hz => st z (List.mem_cons_of_mem _ hz)) (by omega) ?_
      rw [List.filterMap_cons, e] at h
      exact h
end Y
namespace Y
open PySem PySem.Spec L2
/-! ### the law's def, called with a list of ints -/
theorem hsp_of {F : TF} (hF : ∀ (ns : List Int) (G : M → List (Option M) → Prop), ns.length ≤ 63 → (∀ fin, G (.im (.bl true)) fin) → F [.sq (ns.map D.int)] G) (K : PySem.W.Frag) (H : Hp) (a : Addr) (ns : List Int) (hl : ns.length ≤ 63) (_ : Only H) (hS : SqL K H a (ns.map V.int)) :
    spD K F 1 [.ref a] H (fun v _ => v = .bl true) fun _ _ _ => False := by
  refine ⟨fun _ => none, [.sq (ns.map D.int)], fun m _ => m = .im (.bl true), rfl, ⟨rfl, fun i v m e1 e2 => ?_, fun a l e => by cases e⟩, hF ns _ hl fun _ => rfl, fun v H' o' m fin _ _ i _ e => ?_⟩
  · cases i with
    | zero =>
      cases e1; cases e2
      refine ⟨a, ns.map V.int, rfl, ?_, Dats.of_ints ns⟩
      rcases hS with h | h
      · exact .inl ⟨.inl rfl, h⟩
      · exact .inr h
    | succ i => simp at e1
  · subst e
    cases (show Dat K o' H' v (.bl true) from i)
    rfl
theorem walkY {l : PySem.W.OpenLaw} {q : Program} {loose : List Str} {XP : (Str → Option Value) → Heap → Prop} {YP : World → Heap → Prop} {d : DefRec} {K : Params → PySem.W.Frag} {F : TF} (hn : l.most = some 63) (hdf : d.params.defaults = [])
    (hF : ∀ (ns : List Int) (G : M → List (Option M) → Prop), ns.length ≤ 63 → (∀ fin, G (.im (.bl true)) fin) → F [.sq (ns.map D.int)] G)
    (hY : ∀ (w : World) (h : Heap), YP w h → (K w.params).In h)
    (Fk : ∀ (w : World) (mg : Str → Option Value) (fa : Addr) (h : Heap), (K w.params).In h → h.Ns mainGlobals mg → mg d.name = some (.ref fa) →
      ∃ fd : FuncData, (∀ (s : Shared) (u : Value), BindsTo s fd ⟨[u], []⟩ [("script", u)]) ∧ ∀ base : Heap, (K w.params).In base → base.Ns mainGlobals mg → FnOk l.prog w (K w.params) mg base CX0 65 fa fd ["script"] (spD (K w.params) F 1)) :
    PySem.W.WalkO q loose XP YP l.row.toRowW d [] (fun f vs => PySem.call f vs) :=
  L2.walk_of (n := 63) (k := 65) (x := "script") (CX := fun _ => CX0) (sp := fun w => spD (K w.params) F 1) hn (by decide) hdf ⟨rfl, by decide, by decide⟩ hY Fk (fun w H a ns h1 h2 h3 => hsp_of hF (K w.params) H a ns h1 h2 h3) fun _ _ _ _ _ z => z
/-- a promise that nobody calls on -/
theorem fn_never {Pg : Program} {w : World} {K : PySem.W.Frag} {mg : Str → Option Value} {base : Heap} {name : Str} {st : Stmt} {ps : List Str} {Df : DefAt K mg name st ps} {k : Nat} {F : TF} (h : ∀ ms G, ¬ F ms G) : FnD Pg w K mg base Df k F :=
  ⟨fun vs H Q E ⟨o, ms, G, hl, _⟩ => hl, fun A outer s H args us vs Q E _ _ _ _ ⟨o, ms, G, _, _, hf, _⟩ => (h ms G hf).elim⟩
end Y
namespace Y
open PySem PySem.Spec L2
/-! ### enumerate(t), t anything that the library knows how to begin -/
set_option maxHeartbeats 2000000 in
theorem enum_newV {v : Value} {o : Obj} {H : Heap → Prop} (B : Begins v o H) :
    Meets (Builtin.«enumerate.__new__» ⟨[.type "enumerate", v], []⟩) (fun _ R s => H s.heap ∧
      R (.ok (.ret (.ref (s.heap.push o).objs.size))) { s with heap := (s.heap.push o).push { cls := .type "enumerate", data := .fields #[.none, .bool false, .ref s.heap.objs.size, rawInt 0, .none, .none] } }) := by
  refine .of_wp fun prog w A R st hyp => ?_
  obtain ⟨heap, gens, drawn, toks, os⟩ := st
  obtain ⟨pre, post⟩ := hyp
  have hsub := sub_enumerate
  have start : ∀ {A2 : Around} {X2 Q2 : Value → Shared → Prop}, Q2 (.ref heap.objs.size) ⟨heap.push o, gens, drawn, toks, os⟩ →
      wpAny (model prog w) A2 (pyIter v) Q2 X2 ⟨heap, gens, drawn, toks, os⟩ := fun {A2 X2 Q2} k => B.iter prog w A2 X2 _ Q2 pre k
  wp_walk
  apply wpAny_stack_any
  intro stack
  apply wpAny_pure
  split
  case h_1 c _ _ _ _ _ => cases hc : (c == Value.type "enumerate") <;> (wp_walk using start; exact ⟨_, rfl, post⟩)
  all_goals (wp_walk using start; exact ⟨_, rfl, post⟩)
theorem enum_callV {prog : Program} {w : World} {A : Around} {E Q : Value → Shared → Prop} {s : Shared} {v : Value} {o : Obj} {H : Heap → Prop} (B : Begins v o H) (pre : H s.heap)
    (k : ∀ h', IsEnum h' (s.heap.objs.size + 1) s.heap.objs.size 0 .none → h'.get? s.heap.objs.size = some o → h'.objs.size = s.heap.objs.size + 2 →
      (∀ b u, s.heap.get? b = some u → h'.get? b = some u) → Q (.ref (s.heap.objs.size + 1)) { s with heap := h' }) : wpAny (model prog w) A (call (.type "enumerate") [v]) Q E s := by
  have n1 : (s.heap.push o).objs.size = s.heap.objs.size + 1 := by rw [Heap.size_push]
  refine callType_new F.called_enumerate (by decide) (F.typeCall_enumerate_1 v) (F.newCall_enumerate_1 v) (fun ob => F.args_object_init_2 ob v) F.entry_enumerate_new (enum_newV B) ⟨pre, ?_⟩
  generalize hcell : ({ cls := .type "enumerate", data := .fields #[.none, .bool false, .ref s.heap.objs.size, rawInt 0, .none, .none] } : Obj) = cell
  have free : cell.isFreed = false := by rw [← hcell]; rfl
  have at1 : ((s.heap.push o).push cell).get? (s.heap.objs.size + 1) = some cell := by rw [← n1]; exact Heap.get?_push_size _ free
  have isE : IsEnum ((s.heap.push o).push cell) (s.heap.objs.size + 1) s.heap.objs.size 0 .none := by rw [← hcell] at at1 ⊢; exact at1
  show _ ∧ Q (.ref (s.heap.push o).objs.size) _
  rw [n1]
  exact ⟨⟨cell, at1, by rw [← hcell]⟩, k _ isE (Heap.get?_push_of_some _ (Heap.get?_push_size s.heap B.free)) (by rw [Heap.size_push, n1]) fun b u hb => Heap.get?_push_of_some _ (Heap.get?_push_of_some _ hb)⟩
/-- the tuple at a: each item in a new pair -/
def IteT (K : PySem.W.Frag) (a : Addr) : It where
  go := fun i H => ∃ (xs : List V) (x : V), SqT K H a xs ∧ xs[i]? = some x
  yld := fun i H v H' => ∃ T x, v = .ref T ∧ H T = none ∧ H' = upd H T (.tup [.int (i : Nat), x]) ∧ ∀ xs, SqT K H a xs → xs[i]? = some x
  stop := fun i H => ∃ xs : List V, SqT K H a xs ∧ xs.length = i
/-- how the two new objects stand at the i-th turn -/
def EnT (a e it : Addr) (i : Nat) (h : Heap) : Prop := (∃ old, IsEnum h e it ((i : Nat) : Int) old) ∧ h.IsTupleIter it a i ∧ e ≠ it ∧ a ≠ it ∧ a ≠ e
theorem EnT.keep {a e it : Addr} {i : Nat} {h h' : Heap} (z : EnT a e it i h) (k : ∀ b, b = e ∨ b = it → ∀ u, h.get? b = some u → h'.get? b = some u) : EnT a e it i h' := by
  obtain ⟨⟨old, z1⟩, z2, z3⟩ := z
  exact ⟨⟨old, k e (.inl rfl) _ z1⟩, z2.at fun u => k it (.inr rfl) u, z3⟩
theorem EnT.objs {a e it : Addr} {i : Nat} {h : Heap} (z : EnT a e it i h) : (∃ u, h.get? e = some u ∧ ∀ v, u.data ≠ .cell v) ∧ ∃ u, h.get? it = some u ∧ ∀ v, u.data ≠ .cell v := by
  obtain ⟨⟨old, z1⟩, ⟨u, z2, _, z4⟩, _⟩ := z
  refine ⟨⟨_, z1, fun v => by simp⟩, u, z2, fun v q => by rw [z4] at q; cases q⟩
theorem turn_enumT {P : Program} {w : World} {K : PySem.W.Frag} {elts : List Expr} {kk : Nat} {tpos : Pos} (a e it : Addr) : Turn P w K (.Tuple elts kk tpos) (IteT K a) [e, it] e (EnT a e it) := by
  refine ⟨by simp, fun i h z b hb => ?_, fun i h h' z k => z.keep fun b hb => k b (by simpa using hb), ?_, ?_, fun A i s Q E z q => z.1.elim fun old z1 => wpAny_pyIter_enum z1 q⟩
  · rcases List.mem_cons.mp hb with rfl | hb
    · exact z.objs.1
    · rw [List.mem_singleton.mp hb]; exact z.objs.2
  · rintro X rfl rfl rfl calm i pins s σ H E I own z ⟨xs, x, sq, at_⟩
    obtain ⟨⟨old, z1⟩, z2, ne, ai, ae⟩ := z
    obtain ⟨items, rel, tup, _⟩ := I.tuple sq
    obtain ⟨u, hu, ru⟩ := rel.get at_
    have ilt : i < items.toArray.size := by have := (List.getElem?_eq_some_iff.mp hu).1; simpa using this
    have W := WalksT.enumerateD (Draws.tuple (prog := X.prog) (w := X.w) (A := X.A.in1) (I.ok.hd calm) it a ai items.toArray) e ne (by simp [ne, ae.symm]) (by simp)
    refine W.item i s _ E ilt ⟨⟨old, z1⟩, z2, tup⟩ fun T vals h1 tk ⟨t, y, hy, hv⟩ hT isT mid kp1 => ?_
    have yu : y = u := by
      have : items[i]? = some y := by simpa using hy
      exact Option.some.inj (this.symm.trans hu)
    subst hv yu
    refine ⟨_, rfl, W.go elts kk tpos i T { s with heap := h1, toks := tk } _ E mid fun h2 st2 kp2 => ?_⟩
    have Tn : T ∉ [e, it] := W.apart i T h1 mid
    obtain ⟨ob, o1, o2, o3⟩ := isT
    have T2 : h2.IsTuple T #[.int i t, y] := ⟨ob, kp2 T ob Tn o1, o2, o3⟩
    have kp : ∀ b u, b ∉ [e, it] → s.heap.get? b = some u → h2.get? b = some u := fun b u hb q => kp2 b u hb (kp1 b u hb q)
    have made : ObjOk X.prog X.w (upd H T (.tup [.int (i : Nat), x])) h2 T (.tup [.int (i : Nat), x]) := ⟨by show 2 ≤ sizeLine; decide, _, .cons ⟨t, rfl⟩ (.cons ru .nil), T2⟩
    have I2 := I.turnedNew (t' := tk) (ch := [e, it]) (fun b u hb q => kp b u hb q) own hT made
    obtain ⟨⟨old2, e2⟩, i2, _⟩ := st2
    refine ⟨.ref T, _, I2, rfl, ⟨T, x, rfl, I.hok.fresh hT, rfl, fun ys hs => I.tuple_inj sq hs ▸ at_⟩, ⟨⟨old2, e2⟩, i2, ne, ai, ae⟩, fun b hb => ?_⟩
    have bT : b ≠ T := fun q => Tn (q ▸ hb)
    rw [upd_ne bT]
    exact (own b hb).1
  · rintro X rfl rfl rfl calm i pins s σ H E I own z ⟨xs, sq, rfl⟩
    obtain ⟨⟨old, z1⟩, z2, ne, ai, ae⟩ := z
    obtain ⟨items, rel, tup, _⟩ := I.tuple sq
    have W := WalksT.enumerateD (Draws.tuple (prog := X.prog) (w := X.w) (A := X.A.in1) (I.ok.hd calm) it a ai items.toArray) e ne (by simp [ne, ae.symm]) (by simp)
    have len : items.toArray.size = xs.length := by rw [List.size_toArray]; exact rel.length.symm
    rw [← len] at z1 z2
    exact W.done s _ E ⟨⟨old, z1⟩, z2, tup⟩ fun h1 tk kp => ⟨rfl, I.turnedL (t' := tk) (ch := [e, it]) (fun b u hb q => kp b u hb q) own⟩
def iEnA (K : PySem.W.Frag) (ta : TA) : TI := fun σ H R => ta σ H fun vs H1 => ∃ a xs, vs = [.ref a] ∧ ((SqL K H1 a xs ∧ R (Ite K a) H1) ∨ (SqT K H1 a xs ∧ R (IteT K a) H1))
theorem pi_enA {X : Cx} {e : Expr} {ta : TA} {p pos tpos : Pos} {elts : List Expr} {kk : Nat} (hg : Gl X "enumerate") (hm : X.mg "enumerate" = none) (ha : PA X [e] ta) (hs : starEach [e] X.env = [(false, eval e X.env)] := by rfl) :
    PI X (.Tuple elts kk tpos) (.Call (.Name "enumerate" p) [e] [] pos) (iEnA X.K ta) := by
  constructor
  intro pins s σ H R I h
  refine PyProof.Rows.Call_ (ld_blt I hg hm PyProof.Rows.boot_enumerate (PyProof.Rows.callWith_type1 (thn (ha.run pos pins s σ H _ I h) ?_) hs rfl))
  rintro us s1 ⟨vs, H1, I1, rel, a, xs, rfl, way⟩
  rw [Vals.ref1 rel]
  let n := s1.heap.objs.size
  have two : ∀ b ∈ [n + 1, n], FpOk X pins H1 b := by
    intro b hb
    have up : n ≤ b := by simp at hb; omega
    exact I1.fpOk up (I1.hok.fresh up)
  rcases way with ⟨sq, q⟩ | ⟨sq, q⟩
  · obtain ⟨items, _, flat, _⟩ := I1.list sq
    exact call_enumerate_list flat.isList fun h2 isE at_ _ kp => wpAny_pyIter_enum isE
      ⟨n + 1, [n + 1, n], _, _, H1, rfl, I1.kept (t' := s1.toks) kp, turn_enum a (n + 1) n, ⟨⟨_, isE⟩, at_, Nat.succ_ne_self n⟩, two, q⟩
  · obtain ⟨items, _, tup, _⟩ := I1.tuple sq
    have old : a < n := by obtain ⟨u, hu, _⟩ := id tup; exact Heap.lt_size hu
    exact enum_callV (begins_tuple a items.toArray) tup fun h2 isE at_ _ kp => wpAny_pyIter_enum isE
      ⟨n + 1, [n + 1, n], _, _, H1, rfl, I1.kept (t' := s1.toks) kp, turn_enumT a (n + 1) n, ⟨⟨_, isE⟩, ⟨_, at_, rfl, rfl⟩, Nat.succ_ne_self n, Nat.ne_of_lt old, Nat.ne_of_lt (Nat.lt_succ_of_lt old)⟩, two, q⟩
section
variable {K : PySem.W.Frag} {c : Cc} {o o' : Own} {σ σ' : St} {H H' : Hp} {ρ ρ' : Env} {τ τ' τ0 τ1 : List (V × M)} {X : Cx} {e a b : Expr} {es elts : List Expr} {pos p tpos : Pos} {t u : TX} {kk : Nat}
/-! ### enumerate, zip, over data that is fixed -/
def gEnm (lo : Int) : List D → List D
  | [] => []
  | d :: ds => .tup [.int lo, d] :: gEnm (lo + 1) ds
theorem gEnm_at : ∀ {ds : List D} {lo : Int} {i : Nat}, (gEnm lo ds)[i]? = (ds[i]?).map fun d => D.tup [.int (lo + (i : Int)), d]
  | [], lo, i => by simp [gEnm]
  | d :: ds, lo, 0 => by simp [gEnm]
  | d :: ds, lo, i + 1 => by
    rw [gEnm, List.getElem?_cons_succ, gEnm_at, List.getElem?_cons_succ]
    congr 1
    funext d
    have e : lo + 1 + (i : Int) = lo + ((i + 1 : Nat) : Int) := by omega
    rw [e]
theorem gEnm_length : ∀ {ds : List D} {lo : Int}, (gEnm lo ds).length = ds.length
  | [], _ => rfl
  | d :: ds, lo => by rw [gEnm, List.length_cons, gEnm_length, List.length_cons]
theorem new_tup {T : Addr} {x : V} {d : D} {i : Int} (mu : ∀ a l, o a = some l → Mut (H a)) (hT : H T = none) (h : Dat K o H x d) : Grow H (upd H T (.tup [.int i, x])) ∧ Dat K o (upd H T (.tup [.int i, x])) (.ref T) (.tup [.int i, d]) := by
  have g : Grow H (upd H T (.tup [.int i, x])) := .new hT
  have oT : o T = none := by
    cases e : o T with
    | none => rfl
    | some l => have := mu T l e; rw [hT] at this; exact this.elim
  exact ⟨g, .tup ⟨oT, upd_same⟩ (.cons (.int i) (.cons (h.mono (g.le mu)) .nil))⟩
theorem runs_enL {ad : Addr} {ds : List D} {C : Own → Hp → Prop} (h : ∀ o H, C o H → ∃ xs, SqL K H ad xs ∧ Dats K o H xs ds) : Runs K (Ite K ad) (gEnm 0 ds) C := fun o H hc mu => by
  obtain ⟨xs, h1, h2⟩ := h o H hc
  refine ⟨fun i d e => ?_, ⟨xs, h1, by rw [gEnm_length, h2.length]; exact Nat.le_refl _⟩⟩
  rw [gEnm_at] at e
  obtain ⟨d', e1, rfl⟩ := Option.map_eq_some_iff.mp e
  obtain ⟨v, ev, dv⟩ := h2.get e1
  refine ⟨⟨xs, v, h1, ev⟩, fun x H' y => ?_⟩
  obtain ⟨T, x', rfl, hT, rfl, hy⟩ := y
  have := hy xs h1
  rw [ev] at this; cases this
  rw [Int.zero_add]
  exact new_tup mu hT dv
theorem runs_enT {ad : Addr} {ds : List D} {C : Own → Hp → Prop} (h : ∀ o H, C o H → ∃ xs, SqT K H ad xs ∧ Dats K o H xs ds) : Runs K (IteT K ad) (gEnm 0 ds) C := fun o H hc mu => by
  obtain ⟨xs, h1, h2⟩ := h o H hc
  refine ⟨fun i d e => ?_, ⟨xs, h1, by rw [gEnm_length, h2.length]⟩⟩
  rw [gEnm_at] at e
  obtain ⟨d', e1, rfl⟩ := Option.map_eq_some_iff.mp e
  obtain ⟨v, ev, dv⟩ := h2.get e1
  refine ⟨⟨xs, v, h1, ev⟩, fun x H' y => ?_⟩
  obtain ⟨T, x', rfl, hT, rfl, hy⟩ := y
  have := hy xs h1
  rw [ev] at this; cases this
  rw [Int.zero_add]
  exact new_tup mu hT dv
/-- what enumerate walks: as srcOf -/
def enmOf (r : R) (ρ : Env) (k : Src → Env → Prop) : Prop := match r with
  | .im (.tup ds) => k (.fx (gEnm 0 ds)) ρ
  | .im (.lst ds) => k (.fx (gEnm 0 ds)) ρ
  | .tm (.ls ds) => k (.fx (gEnm 0 ds)) ρ
  | .sl i => match ρ[i]? with
    | some (.lo (.ls ds)) => k (.sl i ds (gEnm 0 ds)) ρ
    | some (.pa (.ls ds)) => k (.sl i ds (gEnm 0 ds)) ρ
    | some (.lo (.sq ds)) => k (.fx (gEnm 0 ds)) ρ
    | some (.pa (.sq ds)) => k (.fx (gEnm 0 ds)) ρ
    | some (.hd p v (.ls ds)) => k (.hs i p v ds (gEnm 0 ds)) ρ
    | _ => False
  | _ => False
def iEnm (ta : TL) : TSrc := fun ρ k => ta ρ fun rs ρ1 => match rs with
  | [r] => enmOf r ρ1 k
  | _ => False
theorem en_ok {v : V} {r : R} {ti : Src → Env → Prop} {R' : It → Hp → Prop} (R1 : Rep K c o σ H ρ τ') (z : RelR K o H σ v r τ τ') (h : enmOf r ρ ti)
    (q : ∀ J o' s, Le o H o' H → Rep K c o' σ H ρ τ → SrcOk K J o' H σ s → ti s ρ → R' J H) :
    ∃ ad xs, v = .ref ad ∧ ((SqL K H ad xs ∧ R' (Ite K ad) H) ∨ (SqT K H ad xs ∧ R' (IteT K ad) H)) := by
  unfold enmOf at h
  split at h
  · obtain ⟨rfl, z⟩ := z
    cases z with
    | tup t d => exact ⟨_, _, rfl, .inr ⟨t.sq, q _ o (.fx _) .refl R1 (runs_enT fun o' H' L => ⟨_, (t.mono L).sq, d.mono L⟩) h⟩⟩
  · obtain ⟨rfl, z⟩ := z
    cases z with
    | lst a b d => exact ⟨_, _, rfl, .inl ⟨SqL.of b, q _ o (.fx _) .refl R1 (runs_enL fun o' H' L => ⟨_, SqL.of (L.keep _ _ a b).2, d.mono L⟩) h⟩⟩
  · have z : τ' = τ ++ [(v, _)] := z
    subst z
    obtain ⟨a, xs, rfl, ho, hH, d⟩ := (R1.tm τ.length _ _ (by rw [List.getElem?_append_right (Nat.le_refl _), Nat.sub_self]; rfl)).1
    have R2 := R1.drop (List.prefix_append τ _)
    have e : dropT τ.length o a = none := by unfold dropT; rw [ho]; show (if τ.length < τ.length then _ else none) = none; rw [if_neg (Nat.lt_irrefl _)]
    exact ⟨_, _, rfl, .inl ⟨SqL.of hH, q _ _ (.fx _) (dropT_le _) R2 (runs_enL fun o' H' L => ⟨_, SqL.of (L.keep _ _ e hH).2, (d.mono (dropT_le τ.length)).mono L⟩) h⟩⟩
  · obtain ⟨rfl, z⟩ := z
    split at h
    · rename_i ds e
      obtain ⟨w, e1, a, xs, rfl, ho, hH, d⟩ := R1.sl _ _ e
      rw [z] at e1; cases e1
      refine ⟨_, _, rfl, .inl ⟨SqL.of hH, q _ o (.sl _ ds _) .refl R1 ⟨_, z, runs_enL fun o' H' ⟨l, b, ys, e2, h1, h2, h3⟩ => ?_⟩ h⟩⟩
      cases e2; exact ⟨ys, SqL.of h2, h3⟩
    · rename_i ds e
      obtain ⟨w, e1, _, a, xs, rfl, ho, hH, d⟩ := R1.sl _ _ e
      rw [z] at e1; cases e1
      refine ⟨_, _, rfl, .inl ⟨SqL.of hH, q _ o (.sl _ ds _) .refl R1 ⟨_, z, runs_enL fun o' H' ⟨l, b, ys, e2, h1, h2, h3⟩ => ?_⟩ h⟩⟩
      cases e2; exact ⟨ys, SqL.of h2, h3⟩
    · rename_i ds e
      obtain ⟨w, e1, a, xs, rfl, hl, d⟩ := R1.sl _ _ e
      rw [z] at e1; cases e1
      exact ⟨_, _, rfl, .inl ⟨hl.sq, q _ o (.fx _) .refl R1 (runs_enL fun o' H' L => ⟨_, (hl.mono L).sq, d.mono L⟩) h⟩⟩
    · rename_i ds e
      obtain ⟨w, e1, _, a, xs, rfl, hl, d⟩ := R1.sl _ _ e
      rw [z] at e1; cases e1
      exact ⟨_, _, rfl, .inl ⟨hl.sq, q _ o (.fx _) .refl R1 (runs_enL fun o' H' L => ⟨_, (hl.mono L).sq, d.mono L⟩) h⟩⟩
    · rename_i p v0 ds e
      obtain ⟨e1, _, a, xs, rfl, ho, hH, d⟩ := R1.sl _ _ e
      rw [z] at e1; cases e1
      refine ⟨_, _, rfl, .inl ⟨SqL.of hH, q _ o (.hs _ p _ ds _) .refl R1 (runs_enL fun o' H' ⟨l, b, ys, e2, h1, h2, h3⟩ => ?_) h⟩⟩
      cases e2; exact ⟨ys, SqL.of h2, h3⟩
    · exact h.elim
  · exact h.elim
theorem di_enm {ta : TL} (hg : Gl X "enumerate") (hm : X.mg "enumerate" = none) (ha : DA X c [e] ta) (hs : starEach [e] X.env = [(false, eval e X.env)] := by rfl) : DI X c (.Tuple elts kk tpos) (.Call (.Name "enumerate" p) [e] [] pos) (iEnm ta) :=
  piImp (pi_enA hg hm ha hs) fun σ H R hh => by
    obtain ⟨o, ρ, τ, Q, R0, hh, q⟩ := hh
    refine ⟨o, ρ, τ, _, R0, hh, fun vs H1 o1 rs ρ1 τ1 L1 R1 z1 h1 => ?_⟩
    split at h1
    · cases z1 with
      | cons z t =>
        cases t
        obtain ⟨ad, xs, e, w⟩ := en_ok (R' := fun J H => R J H) R1 z h1 fun J o' s L R' ok hs => q J H1 o' ρ1 s (L1.trans L) R' ok hs
        exact ⟨ad, xs, by rw [e], w⟩
    · exact h1.elim
/-! ### what nobody reaches -/
def sDead : TSX := fun _ _ => False
theorem ds_dead {st : Stmt} : DS X c st sDead := ⟨fun pins s σ H D I ⟨o, ρ, P, _, h, _⟩ => h.elim⟩
end
end Y
namespace Y
open PySem PySem.Spec L2
/-! ### data without booleans: == is sameness -/
mutual
def D.std : D → Bool
  | .non => true
  | .bl _ => false
  | .int _ => true
  | .str _ => true
  | .tup ds => D.stds ds
  | .lst ds => D.stds ds
  | .raw _ => false
def D.stds : List D → Bool
  | [] => true
  | d :: ds => d.std && D.stds ds
end
theorem D.stds_all : ∀ ds : List D, D.stds ds = ds.all D.std
  | [] => rfl
  | d :: ds => by simp only [D.stds, List.all_cons]; rw [D.stds_all ds]
mutual
theorem eqv_std : ∀ d e : D, d.std = true → e.std = true → (D.eqv d e = true ↔ d = e)
  | .non, e, _, k => by cases e <;> simp_all [D.eqv, D.py, PyData.eqv, D.std]
  | .int i, e, _, k => by cases e <;> simp_all [D.eqv, D.py, PyData.eqv, D.std]
  | .str i, e, _, k => by cases e <;> simp_all [D.eqv, D.py, PyData.eqv, D.std]
  | .tup ds, .tup es, h, k => by
    have := eqvs_std ds es (by simpa [D.std] using h) (by simpa [D.std] using k)
    simpa [D.eqv, D.py, PyData.eqv] using this
  | .lst ds, .lst es, h, k => by
    have := eqvs_std ds es (by simpa [D.std] using h) (by simpa [D.std] using k)
    simpa [D.eqv, D.py, PyData.eqv] using this
  | .tup ds, .non, h, k => by simp [D.eqv, D.py, PyData.eqv]
  | .tup ds, .int _, h, k => by simp [D.eqv, D.py, PyData.eqv]
  | .tup ds, .str _, h, k => by simp [D.eqv, D.py, PyData.eqv]
  | .tup ds, .lst _, h, k => by simp [D.eqv, D.py, PyData.eqv]
  | .lst ds, .non, h, k => by simp [D.eqv, D.py, PyData.eqv]
  | .lst ds, .int _, h, k => by simp [D.eqv, D.py, PyData.eqv]
  | .lst ds, .str _, h, k => by simp [D.eqv, D.py, PyData.eqv]
  | .lst ds, .tup _, h, k => by simp [D.eqv, D.py, PyData.eqv]
  | .tup _, .bl _, _, k => by simp [D.std] at k
  | .tup _, .raw _, _, k => by simp [D.std] at k
  | .lst _, .bl _, _, k => by simp [D.std] at k
  | .lst _, .raw _, _, k => by simp [D.std] at k
  | .bl _, _, h, _ => by simp [D.std] at h
  | .raw _, _, h, _ => by simp [D.std] at h
theorem eqvs_std : ∀ ds es : List D, D.stds ds = true → D.stds es = true → (PyData.eqvAll (D.pys ds) (D.pys es) = true ↔ ds = es)
  | [], [], _, _ => by simp [D.pys, PyData.eqvAll]
  | [], _ :: _, _, _ => by simp [D.pys, PyData.eqvAll]
  | _ :: _, [], _, _ => by simp [D.pys, PyData.eqvAll]
  | d :: ds, e :: es, h, k => by
    simp only [D.stds, Bool.and_eq_true] at h k
    have h1 := eqv_std d e h.1 k.1
    have h2 := eqvs_std ds es h.2 k.2
    simp only [D.pys, PyData.eqvAll, Bool.and_eq_true, List.cons.injEq]
    exact ⟨fun z => ⟨h1.mp z.1, h2.mp z.2⟩, fun z => ⟨h1.mpr z.1, h2.mpr z.2⟩⟩
end
section
variable {α : Type} [DecidableEq α] {g : α → D}
/-- a way to write things as data: no booleans, nothing written alike -/
structure Code (g : α → D) : Prop where
  std : ∀ a, (g a).std = true
  inj : ∀ a b, g a = g b → a = b
theorem Code.eqv (h : Code g) (a b : α) : D.eqv (g a) (g b) = decide (a = b) := by
  have e := eqv_std (g a) (g b) (h.std a) (h.std b)
  by_cases z : a = b
  · subst z; rw [decide_eq_true rfl]; exact e.mpr rfl
  · rw [decide_eq_false z]
    cases q : D.eqv (g a) (g b) with
    | false => rfl
    | true => exact absurd (h.inj _ _ (e.mp q)) z
theorem Code.any (h : Code g) (xs : List α) (a : α) : ((xs.map g).any fun z => D.eqv z (g a)) = decide (a ∈ xs) := by
  induction xs with
  | nil => rfl
  | cons x xs ih =>
    rw [List.map_cons, List.any_cons, ih, h.eqv]
    by_cases e : x = a
    · subst e; simp
    · simp [e]
      exact fun z => absurd z.symm e
theorem Code.inj_map (h : Code g) : ∀ {xs ys : List α}, xs.map g = ys.map g → xs = ys
  | [], [], _ => rfl
  | [], _ :: _, e => by cases e
  | _ :: _, [], e => by cases e
  | x :: xs, y :: ys, e => by
    rw [List.map_cons, List.map_cons] at e
    injection e with e1 e2
    rw [h.inj _ _ e1, Code.inj_map h e2]
theorem Code.stds (h : Code g) (xs : List α) : D.stds (xs.map g) = true := by
  rw [D.stds_all, List.all_eq_true]
  intro d hd
  obtain ⟨a, _, rfl⟩ := List.mem_map.mp hd
  exact h.std a
end
/-! ### an index that is written out -/
section
variable {α : Type} {a b c d e f g : α} {l : List α}
theorem atI_c0 : atI (a :: l) 0 = some a := by obtain ⟨x, h, h2⟩ := atI_ok (xs := a :: l) (i := 0) (by omega) (by simp <;> omega); rw [h]; simpa using h2.symm
theorem atI_c1 : atI (a :: b :: l) 1 = some b := by obtain ⟨x, h, h2⟩ := atI_ok (xs := a :: b :: l) (i := 1) (by omega) (by simp <;> omega); rw [h]; simpa using h2.symm
theorem atI_c2 : atI (a :: b :: c :: l) 2 = some c := by obtain ⟨x, h, h2⟩ := atI_ok (xs := a :: b :: c :: l) (i := 2) (by omega) (by simp <;> omega); rw [h]; simpa using h2.symm
theorem atI_c3 : atI (a :: b :: c :: d :: l) 3 = some d := by obtain ⟨x, h, h2⟩ := atI_ok (xs := a :: b :: c :: d :: l) (i := 3) (by omega) (by simp <;> omega); rw [h]; simpa using h2.symm
theorem atI_c4 : atI (a :: b :: c :: d :: e :: l) 4 = some e := by obtain ⟨x, h, h2⟩ := atI_ok (xs := a :: b :: c :: d :: e :: l) (i := 4) (by omega) (by simp <;> omega); rw [h]; simpa using h2.symm
theorem atI_c5 : atI (a :: b :: c :: d :: e :: f :: l) 5 = some f := by obtain ⟨x, h, h2⟩ := atI_ok (xs := a :: b :: c :: d :: e :: f :: l) (i := 5) (by omega) (by simp <;> omega); rw [h]; simpa using h2.symm
end
end Y
namespace Y
open PySem PySem.Spec L2
section
variable {Pg : Program} {w : World} {K : PySem.W.Frag} {mg : Str → Option Value} {base : Heap}
/-! printed by gen.py -/
abbrev pr : Program := PySem.Challenge.pw_wherewritten_k06_whole_resolution
def topS (i : Nat) : Stmt := pr.main.body.getD i (.Pass ⟨0, 0, 0, 0⟩)

/-! ### is_within -/
abbrev st_is_within : Stmt := topS 1
theorem sc_is_within : FnScope ["scopes", "others", "scope"] ["scopes", "others"] (defScope st_is_within) := ⟨rfl, rfl, rfl, by decide +kernel, rfl, by decide +kernel, by decide +kernel⟩
def t_is_within : TSX :=
    sRet (tAndX (tBin (gLe) (tCl (gLen) (lCons (tNm 0) (lNil))) (tCl (gLen) (lCons (tNm 1) (lNil)))) (tCl (gAll fun bs => bs.all id) (lCons (tLcX (iSeq (tNm 0)) (.one 2) (qYes) (tBin (gIns false) (tNm 2) (tNm 1)) [2]) (lNil))))
theorem ok_is_within {k : Nat} {F : TF} (Ds : DefAt K mg "is_within" st_is_within ["scopes", "others"]) (z_len : mg "len" = none) (z_all : mg "all" = none)
    (hB : Body F 3 2 (t_is_within)) : FnD Pg w K mg base Ds (k + 1) F := by
  refine fn_ok Ds.fu sc_is_within hB fun cdv A outer s H E c hr => ?_
  have nd := sc_is_within.nd
  exact ds_one (ds_ret (de_and (de_cmp (le_ok) (de_callB (len_ok) (by rfl) z_len (by decide +kernel) (da_cons (de_var 0) (da_nil))) (de_callB (len_ok) (by rfl) z_len (by decide +kernel) (da_cons (de_var 1) (da_nil)))) (de_one (de_callB (all_ok rfl) (by rfl) z_all (by decide +kernel) (da_cons (de_lc (own := [("scope", 2)]) (bd := .one 2) rfl nd (di_seq (de_var 0)) (by kernel_rfl) (fun _ _ _ _ _ => pg_name (i := 2) nd rfl (by first | exact Or.inl rfl | exact Or.inr rfl)) (fun _ _ _ _ _ => dq_nil) (fun _ _ _ _ _ => de_cmp (in_ok (hu65 hr)) (de_var 2) (de_var 1))) (da_nil))))))

/-! ### resolve_among -/
abbrev st_resolve_among : Stmt := topS 2
theorem sc_resolve_among : FnScope ["named", "phase", "scopes", "inside", "k", "row", "here", "best", "held", "_", "other"] ["named", "phase", "scopes"] (defScope st_resolve_among) := ⟨rfl, rfl, rfl, by decide +kernel, rfl, by decide +kernel, by decide +kernel⟩
def t_resolve_among (F_is_within : TF) : TSX :=
    sSeq (sAsg 3 (tLcX (iSeq (tNm 0)) (.many [4, 5]) (tTru (tCall F_is_within 2 (lCons (tBin gIx (tNm 5) (tIm (.int 2))) (lCons (tNm 2) (lNil))))) (tTp (lCons (tNm 4) (lCons (tNm 5) (lNil)))) [4, 5]))
    (sSeq (sAsg 6 (tLcX (iSeq (tNm 3)) (.many [4, 5]) (tTst (tBin (gEqs2 false) (tBin gIx (tNm 5) (tIm (.int 0))) (tNm 1))) (tTp (lCons (tNm 4) (lCons (tBin gIx (tNm 5) (tIm (.int 2))) (lNil)))) [4, 5]))
    (sSeq (sIf (tNotQ (tTru (tNm 6))) (sRet (tIfX (tTru (tNm 3)) (tTp (lCons (tIm (.str "phase")) (lNil))) (tTp (lCons (tIm (.str "unbound")) (lNil))))) (sNil))
    (sSeq (sAsg 7 (tLcX (iSeq (tNm 6)) (.many [4, 8]) (tNotQ (tTru (tCl (gAll fun bs => bs.any id) (lCons (tLcX (iSeq (tNm 6)) (.many [9, 10]) (qYes) (tAndX (tBin (gEqs true) (tNm 8) (tNm 10)) (tCall F_is_within 2 (lCons (tNm 8) (lCons (tNm 10) (lNil))))) [9, 10]) (lNil))))) (tNm 4) [4, 8]))
    (sSeq (sIf (tTst (tBin (gEqs2 false) (tCl (gLen) (lCons (tNm 7) (lNil))) (tIm (.int 1)))) (sRet (tTp (lCons (tIm (.str "bound")) (lCons (tBin gIx (tNm 7) (tIm (.int 0))) (lNil))))) (sNil))
    (sRet (tTp (lCons (tIm (.str "ambiguous")) (lCons (tBin gIx (tNm 7) (tIm (.int 0))) (lCons (tBin gIx (tNm 7) (tIm (.int 1))) (lNil))))))))))
theorem ok_resolve_among {k : Nat} {F : TF} (Ds : DefAt K mg "resolve_among" st_resolve_among ["named", "phase", "scopes"]) (z_any : mg "any" = none) (z_len : mg "len" = none) {F_is_within : TF} {k_is_within : Nat} (D_is_within : DefAt K mg "is_within" st_is_within ["scopes", "others"]) (G_is_within : FnD Pg w K mg base D_is_within k_is_within F_is_within) (h_is_within : k_is_within ≤ k)
    (hB : Body F 11 3 (t_resolve_among F_is_within)) : FnD Pg w K mg base Ds (k + 1) F := by
  refine fn_ok Ds.fu sc_resolve_among hB fun cdv A outer s H E c hr => ?_
  have nd := sc_resolve_among.nd
  exact ds_cons (ds_setLc (i := 3) (own := [("k", 4), ("row", 5)]) (bd := .many [4, 5]) rfl nd (sw_true rfl rfl rfl (by decide +kernel)) (di_seq (de_var 0)) (by kernel_rfl) (fun _ _ _ _ _ => pg_tup rfl (pgs_cons (pg_name (i := 4) nd rfl (by first | exact Or.inl rfl | exact Or.inr rfl)) (pgs_cons (pg_name (i := 5) nd rfl (by first | exact Or.inl rfl | exact Or.inr rfl)) (pgs_nil)))) (fun _ _ _ _ _ => dq_one (dt_tru (de_call G_is_within (hr.mono h_is_within) (by rfl) D_is_within.mg D_is_within.fu.kp D_is_within.bd (da_cons (de_ix (hu1 hr) (de_var 5) (de_int)) (da_cons (de_var 2) (da_nil)))))) (fun _ _ _ _ _ => de_tup (da_cons (de_var 4) (da_cons (de_var 5) (da_nil)))))
    (ds_cons (ds_set (i := 6) nd (de_lc (own := [("k", 4), ("row", 5)]) (bd := .many [4, 5]) rfl nd (di_seq (de_var 3)) (by kernel_rfl) (fun _ _ _ _ _ => pg_tup rfl (pgs_cons (pg_name (i := 4) nd rfl (by first | exact Or.inl rfl | exact Or.inr rfl)) (pgs_cons (pg_name (i := 5) nd rfl (by first | exact Or.inl rfl | exact Or.inr rfl)) (pgs_nil)))) (fun _ _ _ _ _ => dq_one (dt_cmp (eq2_ok (hu64 hr)) (de_ix (hu1 hr) (de_var 5) (de_int)) (de_var 1))) (fun _ _ _ _ _ => de_tup (da_cons (de_var 4) (da_cons (de_ix (hu1 hr) (de_var 5) (de_int)) (da_nil))))))
    (ds_cons (ds_if (dt_not (dt_tru (de_var 6))) (ds_one (ds_ret (de_if (dt_tru (de_var 3)) (de_tup (da_cons (de_str) (da_nil))) (de_tup (da_cons (de_str) (da_nil)))))) (ds_nil))
    (ds_cons (ds_setLc (i := 7) (own := [("k", 4), ("held", 8)]) (bd := .many [4, 8]) rfl nd (sw_true rfl rfl rfl (by decide +kernel)) (di_seq (de_var 6)) (by kernel_rfl) (fun _ _ _ _ _ => pg_tup rfl (pgs_cons (pg_name (i := 4) nd rfl (by first | exact Or.inl rfl | exact Or.inr rfl)) (pgs_cons (pg_name (i := 8) nd rfl (by first | exact Or.inl rfl | exact Or.inr rfl)) (pgs_nil)))) (fun _ _ _ _ _ => dq_one (dt_not (dt_tru (de_callB (any_ok rfl) (by rfl) z_any (by decide +kernel) (da_cons (de_lc (own := [("_", 9), ("other", 10)]) (bd := .many [9, 10]) rfl nd (di_seq (de_var 6)) (by kernel_rfl) (fun _ _ _ _ _ => pg_tup rfl (pgs_cons (pg_name (i := 9) nd rfl (by first | exact Or.inl rfl | exact Or.inr rfl)) (pgs_cons (pg_name (i := 10) nd rfl (by first | exact Or.inl rfl | exact Or.inr rfl)) (pgs_nil)))) (fun _ _ _ _ _ => dq_nil) (fun _ _ _ _ _ => de_and (de_cmp (ne_ok (hu64 hr)) (de_var 8) (de_var 10)) (de_one (de_call G_is_within (hr.mono h_is_within) (by rfl) D_is_within.mg D_is_within.fu.kp D_is_within.bd (da_cons (de_var 8) (da_cons (de_var 10) (da_nil))))))) (da_nil)))))) (fun _ _ _ _ _ => de_var 4))
    (ds_cons (ds_if (dt_cmp (eq2_ok (hu64 hr)) (de_callB (len_ok) (by rfl) z_len (by decide +kernel) (da_cons (de_var 7) (da_nil))) (de_int)) (ds_one (ds_ret (de_tup (da_cons (de_str) (da_cons (de_ix (hu1 hr) (de_var 7) (de_int)) (da_nil)))))) (ds_nil))
    (ds_one (ds_ret (de_tup (da_cons (de_str) (da_cons (de_ix (hu1 hr) (de_var 7) (de_int)) (da_cons (de_ix (hu1 hr) (de_var 7) (de_int)) (da_nil)))))))))))

/-! ### resolve -/
abbrev st_resolve : Stmt := topS 3
theorem sc_resolve : FnScope ["table", "phase", "identifier", "named", "k", "row"] ["table", "phase", "identifier"] (defScope st_resolve) := ⟨rfl, rfl, rfl, by decide +kernel, rfl, by decide +kernel, by decide +kernel⟩
def t_resolve (F_resolve_among : TF) : TSX :=
    sSeq (sAsg 3 (tLcX (iEnm (lCons (tNm 0) (lNil))) (.many [4, 5]) (tTst (tBin (gEqs2 false) (tBin gIx (tNm 5) (tIm (.int 1))) (tBin gIx (tNm 2) (tIm (.int 1))))) (tTp (lCons (tNm 4) (lCons (tNm 5) (lNil)))) [4, 5]))
    (sRet (tCall F_resolve_among 3 (lCons (tNm 3) (lCons (tNm 1) (lCons (tBin gIx (tNm 2) (tIm (.int 3))) (lNil))))))
theorem ok_resolve {k : Nat} {F : TF} (Ds : DefAt K mg "resolve" st_resolve ["table", "phase", "identifier"]) (z_enumerate : mg "enumerate" = none) {F_resolve_among : TF} {k_resolve_among : Nat} (D_resolve_among : DefAt K mg "resolve_among" st_resolve_among ["named", "phase", "scopes"]) (G_resolve_among : FnD Pg w K mg base D_resolve_among k_resolve_among F_resolve_among) (h_resolve_among : k_resolve_among ≤ k)
    (hB : Body F 6 3 (t_resolve F_resolve_among)) : FnD Pg w K mg base Ds (k + 1) F := by
  refine fn_ok Ds.fu sc_resolve hB fun cdv A outer s H E c hr => ?_
  have nd := sc_resolve.nd
  exact ds_cons (ds_setLc (i := 3) (own := [("k", 4), ("row", 5)]) (bd := .many [4, 5]) rfl nd (sw_true rfl rfl rfl (by decide +kernel)) (di_enm (by rfl) z_enumerate (da_cons (de_var 0) (da_nil))) (by kernel_rfl) (fun _ _ _ _ _ => pg_tup rfl (pgs_cons (pg_name (i := 4) nd rfl (by first | exact Or.inl rfl | exact Or.inr rfl)) (pgs_cons (pg_name (i := 5) nd rfl (by first | exact Or.inl rfl | exact Or.inr rfl)) (pgs_nil)))) (fun _ _ _ _ _ => dq_one (dt_cmp (eq2_ok (hu64 hr)) (de_ix (hu1 hr) (de_var 5) (de_int)) (de_ix (hu1 hr) (de_var 2) (de_int)))) (fun _ _ _ _ _ => de_tup (da_cons (de_var 4) (da_cons (de_var 5) (da_nil)))))
    (ds_one (ds_ret (de_call G_resolve_among (hr.mono h_resolve_among) (by rfl) D_resolve_among.mg D_resolve_among.fu.kp D_resolve_among.bd (da_cons (de_var 3) (da_cons (de_var 1) (da_cons (de_ix (hu1 hr) (de_var 2) (de_int)) (da_nil)))))))

/-! ### same_binder -/
abbrev st_same_binder : Stmt := topS 4
theorem sc_same_binder : FnScope ["first", "second"] ["first", "second"] (defScope st_same_binder) := ⟨rfl, rfl, rfl, by decide +kernel, rfl, by decide +kernel, by decide +kernel⟩
def t_same_binder : TSX :=
    sRet (tAndX (tBin (gEqs2 false) (tBin gIx (tNm 0) (tIm (.int 1))) (tBin gIx (tNm 1) (tIm (.int 1)))) (tBin (gEqs2 false) (tBin gIx (tNm 0) (tIm (.int 3))) (tBin gIx (tNm 1) (tIm (.int 3)))))
theorem ok_same_binder {k : Nat} {F : TF} (Ds : DefAt K mg "same_binder" st_same_binder ["first", "second"]) 
    (hB : Body F 2 2 (t_same_binder)) : FnD Pg w K mg base Ds (k + 1) F := by
  refine fn_ok Ds.fu sc_same_binder hB fun cdv A outer s H E c hr => ?_
  have nd := sc_same_binder.nd
  exact ds_one (ds_ret (de_and (de_cmp (eq2_ok (hu64 hr)) (de_ix (hu1 hr) (de_var 0) (de_int)) (de_ix (hu1 hr) (de_var 1) (de_int))) (de_one (de_cmp (eq2_ok (hu64 hr)) (de_ix (hu1 hr) (de_var 0) (de_int)) (de_ix (hu1 hr) (de_var 1) (de_int))))))

/-! ### same_outcomes -/
abbrev st_same_outcomes : Stmt := topS 5
theorem sc_same_outcomes : FnScope ["first", "second", "table"] ["first", "second", "table"] (defScope st_same_outcomes) := ⟨rfl, rfl, rfl, by decide +kernel, rfl, by decide +kernel, by decide +kernel⟩
def t_same_outcomes : TSX :=
    sSeq (sIf (tOrQ (tTst (tBin (gEqs2 false) (tBin gIx (tBin gIx (tNm 0) (tIm (.int 1))) (tIm (.int 0))) (tIm (.str "ambiguous")))) (tTst (tBin (gEqs2 false) (tBin gIx (tBin gIx (tNm 1) (tIm (.int 1))) (tIm (.int 0))) (tIm (.str "ambiguous"))))) (sRet (tIm .non)) (sNil))
    (sSeq (sIf (tAndQ (tTst (tBin (gEqs2 false) (tBin gIx (tBin gIx (tNm 0) (tIm (.int 1))) (tIm (.int 0))) (tIm (.str "bound")))) (tTst (tBin (gEqs2 false) (tBin gIx (tBin gIx (tNm 1) (tIm (.int 1))) (tIm (.int 0))) (tIm (.str "bound"))))) (sRet (tBin (gEqs2 false) (tBin gIx (tBin gIx (tNm 2) (tBin gIx (tBin gIx (tNm 0) (tIm (.int 1))) (tIm (.int 1)))) (tIm (.int 3))) (tBin gIx (tBin gIx (tNm 2) (tBin gIx (tBin gIx (tNm 1) (tIm (.int 1))) (tIm (.int 1)))) (tIm (.int 3))))) (sNil))
    (sRet (tAndX (tBin (gEqs true) (tBin gIx (tBin gIx (tNm 0) (tIm (.int 1))) (tIm (.int 0))) (tIm (.str "bound"))) (tAndX (tBin (gEqs true) (tBin gIx (tBin gIx (tNm 1) (tIm (.int 1))) (tIm (.int 0))) (tIm (.str "bound"))) (tBin (gEqs2 false) (tBin gIx (tNm 0) (tIm (.int 0))) (tBin gIx (tNm 1) (tIm (.int 0))))))))
theorem ok_same_outcomes {k : Nat} {F : TF} (Ds : DefAt K mg "same_outcomes" st_same_outcomes ["first", "second", "table"]) 
    (hB : Body F 3 3 (t_same_outcomes)) : FnD Pg w K mg base Ds (k + 1) F := by
  refine fn_ok Ds.fu sc_same_outcomes hB fun cdv A outer s H E c hr => ?_
  have nd := sc_same_outcomes.nd
  exact ds_cons (ds_if (dw_pt (dw_or (dt_cmp (eq2_ok (hu64 hr)) (de_ix (hu1 hr) (de_ix (hu1 hr) (de_var 0) (de_int)) (de_int)) (de_str)) (dw_or1 (dt_cmp (eq2_ok (hu64 hr)) (de_ix (hu1 hr) (de_ix (hu1 hr) (de_var 1) (de_int)) (de_int)) (de_str))))) (ds_one (ds_ret (de_non))) (ds_nil))
    (ds_cons (ds_if (dw_pt (dw_and (dt_cmp (eq2_ok (hu64 hr)) (de_ix (hu1 hr) (de_ix (hu1 hr) (de_var 0) (de_int)) (de_int)) (de_str)) (dw_and1 (dt_cmp (eq2_ok (hu64 hr)) (de_ix (hu1 hr) (de_ix (hu1 hr) (de_var 1) (de_int)) (de_int)) (de_str))))) (ds_one (ds_ret (de_cmp (eq2_ok (hu64 hr)) (de_ix (hu1 hr) (de_ix (hu1 hr) (de_var 2) (de_ix (hu1 hr) (de_ix (hu1 hr) (de_var 0) (de_int)) (de_int))) (de_int)) (de_ix (hu1 hr) (de_ix (hu1 hr) (de_var 2) (de_ix (hu1 hr) (de_ix (hu1 hr) (de_var 1) (de_int)) (de_int))) (de_int))))) (ds_nil))
    (ds_one (ds_ret (de_and (de_cmp (ne_ok (hu64 hr)) (de_ix (hu1 hr) (de_ix (hu1 hr) (de_var 0) (de_int)) (de_int)) (de_str)) (de_and (de_cmp (ne_ok (hu64 hr)) (de_ix (hu1 hr) (de_ix (hu1 hr) (de_var 1) (de_int)) (de_int)) (de_str)) (de_one (de_cmp (eq2_ok (hu64 hr)) (de_ix (hu1 hr) (de_var 0) (de_int)) (de_ix (hu1 hr) (de_var 1) (de_int)))))))))

/-! ### same_reference -/
abbrev st_same_reference : Stmt := topS 6
theorem sc_same_reference : FnScope ["table", "phase", "first", "second", "one", "other"] ["table", "phase", "first", "second"] (defScope st_same_reference) := ⟨rfl, rfl, rfl, by decide +kernel, rfl, by decide +kernel, by decide +kernel⟩
def t_same_reference (F_resolve : TF) (F_same_outcomes : TF) : TSX :=
    sSeq (sAsg 4 (tTp (lCons (tBin gIx (tNm 2) (tIm (.int 1))) (lCons (tCall F_resolve 3 (lCons (tNm 0) (lCons (tNm 1) (lCons (tNm 2) (lNil))))) (lNil)))))
    (sSeq (sAsg 5 (tTp (lCons (tBin gIx (tNm 3) (tIm (.int 1))) (lCons (tCall F_resolve 3 (lCons (tNm 0) (lCons (tNm 1) (lCons (tNm 3) (lNil))))) (lNil)))))
    (sRet (tCall F_same_outcomes 3 (lCons (tNm 4) (lCons (tNm 5) (lCons (tNm 0) (lNil)))))))
theorem ok_same_reference {k : Nat} {F : TF} (Ds : DefAt K mg "same_reference" st_same_reference ["table", "phase", "first", "second"]) {F_resolve : TF} {k_resolve : Nat} (D_resolve : DefAt K mg "resolve" st_resolve ["table", "phase", "identifier"]) (G_resolve : FnD Pg w K mg base D_resolve k_resolve F_resolve) (h_resolve : k_resolve ≤ k) {F_same_outcomes : TF} {k_same_outcomes : Nat} (D_same_outcomes : DefAt K mg "same_outcomes" st_same_outcomes ["first", "second", "table"]) (G_same_outcomes : FnD Pg w K mg base D_same_outcomes k_same_outcomes F_same_outcomes) (h_same_outcomes : k_same_outcomes ≤ k)
    (hB : Body F 6 4 (t_same_reference F_resolve F_same_outcomes)) : FnD Pg w K mg base Ds (k + 1) F := by
  refine fn_ok Ds.fu sc_same_reference hB fun cdv A outer s H E c hr => ?_
  have nd := sc_same_reference.nd
  exact ds_cons (ds_set (i := 4) nd (de_tup (da_cons (de_ix (hu1 hr) (de_var 2) (de_int)) (da_cons (de_call G_resolve (hr.mono h_resolve) (by rfl) D_resolve.mg D_resolve.fu.kp D_resolve.bd (da_cons (de_var 0) (da_cons (de_var 1) (da_cons (de_var 2) (da_nil))))) (da_nil)))))
    (ds_cons (ds_set (i := 5) nd (de_tup (da_cons (de_ix (hu1 hr) (de_var 3) (de_int)) (da_cons (de_call G_resolve (hr.mono h_resolve) (by rfl) D_resolve.mg D_resolve.fu.kp D_resolve.bd (da_cons (de_var 0) (da_cons (de_var 1) (da_cons (de_var 3) (da_nil))))) (da_nil)))))
    (ds_one (ds_ret (de_call G_same_outcomes (hr.mono h_same_outcomes) (by rfl) D_same_outcomes.mg D_same_outcomes.fu.kp D_same_outcomes.bd (da_cons (de_var 4) (da_cons (de_var 5) (da_cons (de_var 0) (da_nil))))))))

/-! ### judge_outcome -/
abbrev st_judge_outcome : Stmt := topS 7
theorem sc_judge_outcome : FnScope ["table", "phase", "identifier", "told"] ["table", "phase", "identifier", "told"] (defScope st_judge_outcome) := ⟨rfl, rfl, rfl, by decide +kernel, rfl, by decide +kernel, by decide +kernel⟩
def t_judge_outcome (F_resolve : TF) : TSX :=
    sRet (tBin (gEqs2 false) (tCall F_resolve 3 (lCons (tNm 0) (lCons (tNm 1) (lCons (tNm 2) (lNil))))) (tNm 3))
theorem ok_judge_outcome {k : Nat} {F : TF} (Ds : DefAt K mg "judge_outcome" st_judge_outcome ["table", "phase", "identifier", "told"]) {F_resolve : TF} {k_resolve : Nat} (D_resolve : DefAt K mg "resolve" st_resolve ["table", "phase", "identifier"]) (G_resolve : FnD Pg w K mg base D_resolve k_resolve F_resolve) (h_resolve : k_resolve ≤ k)
    (hB : Body F 4 4 (t_judge_outcome F_resolve)) : FnD Pg w K mg base Ds (k + 1) F := by
  refine fn_ok Ds.fu sc_judge_outcome hB fun cdv A outer s H E c hr => ?_
  have nd := sc_judge_outcome.nd
  exact ds_one (ds_ret (de_cmp (eq2_ok (hu64 hr)) (de_call G_resolve (hr.mono h_resolve) (by rfl) D_resolve.mg D_resolve.fu.kp D_resolve.bd (da_cons (de_var 0) (da_cons (de_var 1) (da_cons (de_var 2) (da_nil))))) (de_var 3)))

/-! ### _law_tape -/
abbrev st__law_tape : Stmt := topS 9
theorem sc__law_tape : FnScope ["script", "cells", "cell", "seed"] ["script"] (defScope st__law_tape) := ⟨rfl, rfl, rfl, by decide +kernel, rfl, by decide +kernel, by decide +kernel⟩
def b__law_tape_1 : TSX :=
    sAsg 3 (tBin gMod (tCl (gInt) (lCons (tBin gAdd (tBin gMul (tNm 3) (tIm (.int 31))) (tNm 2)) (lNil))) (tIm (.int 2147483647)))
def t__law_tape : TSX :=
    sSeq (sAsg 1 (tLcX (iSeq (tNm 0)) (.one 2) (qYes) (tCl (gAbs) (lCons (tCl (gInt) (lCons (tNm 2) (lNil))) (lNil))) [2]))
    (sSeq (sAsg 3 (tIm (.int 7)))
    (sSeq (sFor (iSeq (tNm 1)) (.one 2) (b__law_tape_1))
    (sRet (tDspK (lCons (tIm (.str "cells")) (lCons (tNm 1) (lCons (tIm (.str "at")) (lCons (tIm (.int 0)) (lCons (tIm (.str "left")) (lCons (tIm (.int 0)) (lCons (tIm (.str "seed")) (lCons (tNm 3) (lCons (tIm (.str "salt")) (lCons (tIm (.int 0)) (lNil)))))))))))))))
theorem ok__law_tape {k : Nat} {F : TF} (Ds : DefAt K mg "_law_tape" st__law_tape ["script"]) (z_int : mg "int" = none) (z_abs : mg "abs" = none)
    (hB : Body F 4 1 (t__law_tape)) : FnD Pg w K mg base Ds (k + 1) F := by
  refine fn_ok Ds.fu sc__law_tape hB fun cdv A outer s H E c hr => ?_
  have nd := sc__law_tape.nd
  exact ds_cons (ds_setLc (i := 1) (own := [("cell", 2)]) (bd := .one 2) rfl nd (sw_true rfl rfl rfl (by decide +kernel)) (di_seq (de_var 0)) (by kernel_rfl) (fun _ _ _ _ _ => pg_name (i := 2) nd rfl (by first | exact Or.inl rfl | exact Or.inr rfl)) (fun _ _ _ _ _ => dq_nil) (fun _ _ _ _ _ => de_callB (abs_ok) (by rfl) z_abs (by decide +kernel) (da_cons (de_callT (int_ok) (by rfl) z_int (by decide +kernel) (da_cons (de_var 2) (da_nil))) (da_nil))))
    (ds_cons (ds_set (i := 3) nd (de_int))
    (ds_cons (ds_for (bd := .one 2) PassesOwn.never rfl (di_seq (de_var 1)) (pg_name (i := 2) nd rfl (by first | exact Or.inl rfl | exact Or.inr rfl)) (ds_one (ds_set (i := 3) nd (de_op mod_ok (de_callT (int_ok) (by rfl) z_int (by decide +kernel) (da_cons (de_op add_ok (de_op mul_ok (de_var 3) (de_int)) (de_var 2)) (da_nil))) (de_int)))))
    (ds_one (ds_ret (de_dspK (dps_cons (de_str) (de_var 1) (dps_cons (de_str) (de_int) (dps_cons (de_str) (de_int) (dps_cons (de_str) (de_var 3) (dps_cons (de_str) (de_int) (dps_nil)))))))))))

/-! ### _law_take -/
abbrev st__law_take : Stmt := topS 10
theorem sc__law_take : FnScope ["tape", "many", "drawn", "mixed"] ["tape", "many"] (defScope st__law_take) := ⟨rfl, rfl, rfl, by decide +kernel, rfl, by decide +kernel, by decide +kernel⟩
def t__law_take : TSX :=
    sSeq (sIf (tAndQ (tTst (tBin (gEqs2 false) (tBin gIx (tNm 0) (tIm (.str "left"))) (tIm (.int 0)))) (tTst (tBin (gLt) (tBin gIx (tNm 0) (tIm (.str "at"))) (tCl (gLen) (lCons (tBin gIx (tNm 0) (tIm (.str "cells"))) (lNil)))))) (sSeq (sSetI 0 (tIm (.str "left")) (tBin gIx (tBin gIx (tNm 0) (tIm (.str "cells"))) (tBin gIx (tNm 0) (tIm (.str "at")))))
    (sSetI 0 (tIm (.str "at")) (tBin gAdd (tBin gIx (tNm 0) (tIm (.str "at"))) (tIm (.int 1))))) (sNil))
    (sSeq (sIf (tTst (tBin (gGt) (tBin gIx (tNm 0) (tIm (.str "left"))) (tIm (.int 0)))) (sSeq (sAsg 2 (tBin gMod (tCl (gInt) (lCons (tBin gIx (tNm 0) (tIm (.str "left"))) (lNil))) (tNm 1)))
    (sSeq (sSetI 0 (tIm (.str "left")) (tBin gDiv (tBin gIx (tNm 0) (tIm (.str "left"))) (tNm 1)))
    (sRet (tNm 2)))) (sNil))
    (sSeq (sSetI 0 (tIm (.str "salt")) (tBin gAdd (tBin gIx (tNm 0) (tIm (.str "salt"))) (tIm (.int 1))))
    (sSeq (sAsg 3 (tBin gMod (tCl (gInt) (lCons (tBin gAdd (tBin gMul (tBin gIx (tNm 0) (tIm (.str "seed"))) (tIm (.int 48271))) (tBin gMul (tBin gIx (tNm 0) (tIm (.str "salt"))) (tIm (.int 69621)))) (lNil))) (tIm (.int 2147483647))))
    (sSeq (sAsg 3 (tBin gMod (tCl (gInt) (lCons (tBin gAdd (tBin gAdd (tBin gMul (tNm 3) (tNm 3)) (tBin gMul (tBin gIx (tNm 0) (tIm (.str "salt"))) (tIm (.int 40692)))) (tIm (.int 12345))) (lNil))) (tIm (.int 2147483399))))
    (sRet (tBin gMod (tCl (gInt) (lCons (tNm 3) (lNil))) (tNm 1)))))))
theorem ok__law_take {k : Nat} {F : TF} (Ds : DefAt K mg "_law_take" st__law_take ["tape", "many"]) (z_len : mg "len" = none) (z_int : mg "int" = none)
    (hB : Body F 4 2 (t__law_take)) : FnD Pg w K mg base Ds (k + 1) F := by
  refine fn_ok Ds.fu sc__law_take hB fun cdv A outer s H E c hr => ?_
  have nd := sc__law_take.nd
  exact ds_cons (ds_if (dw_pt (dw_and (dt_cmp (eq2_ok (hu64 hr)) (de_ix (hu1 hr) (de_var 0) (de_str)) (de_int)) (dw_and1 (dt_cmp (lt_ok) (de_ix (hu1 hr) (de_var 0) (de_str)) (de_callB (len_ok) (by rfl) z_len (by decide +kernel) (da_cons (de_ix (hu1 hr) (de_var 0) (de_str)) (da_nil))))))) (ds_cons (ds_setI 0 (hu1 hr) (de_ix (hu1 hr) (de_ix (hu1 hr) (de_var 0) (de_str)) (de_ix (hu1 hr) (de_var 0) (de_str))) (de_str))
    (ds_one (ds_setI 0 (hu1 hr) (de_op add_ok (de_ix (hu1 hr) (de_var 0) (de_str)) (de_int)) (de_str)))) (ds_nil))
    (ds_cons (ds_if (dt_cmp (gt_ok) (de_ix (hu1 hr) (de_var 0) (de_str)) (de_int)) (ds_cons (ds_set (i := 2) nd (de_op mod_ok (de_callT (int_ok) (by rfl) z_int (by decide +kernel) (da_cons (de_ix (hu1 hr) (de_var 0) (de_str)) (da_nil))) (de_var 1)))
    (ds_cons (ds_setI 0 (hu1 hr) (de_op div_ok (de_ix (hu1 hr) (de_var 0) (de_str)) (de_var 1)) (de_str))
    (ds_one (ds_ret (de_var 2))))) (ds_nil))
    (ds_cons (ds_setI 0 (hu1 hr) (de_op add_ok (de_ix (hu1 hr) (de_var 0) (de_str)) (de_int)) (de_str))
    (ds_cons (ds_set (i := 3) nd (de_op mod_ok (de_callT (int_ok) (by rfl) z_int (by decide +kernel) (da_cons (de_op add_ok (de_op mul_ok (de_ix (hu1 hr) (de_var 0) (de_str)) (de_int)) (de_op mul_ok (de_ix (hu1 hr) (de_var 0) (de_str)) (de_int))) (da_nil))) (de_int)))
    (ds_cons (ds_set (i := 3) nd (de_op mod_ok (de_callT (int_ok) (by rfl) z_int (by decide +kernel) (da_cons (de_op add_ok (de_op add_ok (de_op mul_ok (de_var 3) (de_var 3)) (de_op mul_ok (de_ix (hu1 hr) (de_var 0) (de_str)) (de_int))) (de_int)) (da_nil))) (de_int)))
    (ds_one (ds_ret (de_op mod_ok (de_callT (int_ok) (by rfl) z_int (by decide +kernel) (da_cons (de_var 3) (da_nil))) (de_var 1))))))))

/-! ### _law_is_integer -/
abbrev st__law_is_integer : Stmt := topS 11
theorem sc__law_is_integer : FnScope ["actual"] ["actual"] (defScope st__law_is_integer) := ⟨rfl, rfl, rfl, by decide +kernel, rfl, by decide +kernel, by decide +kernel⟩
def t__law_is_integer : TSX :=
    sRet (tAndX (tCl (gIsi) (lCons (tNm 0) (lCons (tIm (.raw (.ty "int"))) (lNil)))) (tNotX (tCl (gIsi) (lCons (tNm 0) (lCons (tIm (.raw (.ty "bool"))) (lNil))))))
theorem ok__law_is_integer {k : Nat} {F : TF} (Ds : DefAt K mg "_law_is_integer" st__law_is_integer ["actual"]) (z_int : mg "int" = none) (z_isinstance : mg "isinstance" = none) (z_bool : mg "bool" = none)
    (hB : Body F 1 1 (t__law_is_integer)) : FnD Pg w K mg base Ds (k + 1) F := by
  refine fn_ok Ds.fu sc__law_is_integer hB fun cdv A outer s H E c hr => ?_
  have nd := sc__law_is_integer.nd
  exact ds_one (ds_ret (de_and (de_callB (isi_ok) (by rfl) z_isinstance (by decide +kernel) (da_cons (de_var 0) (da_cons (de_bltn (v := .ty "int") (by rfl) z_int (by decide +kernel) rfl) (da_nil)))) (de_one (de_not (de_callB (isi_ok) (by rfl) z_isinstance (by decide +kernel) (da_cons (de_var 0) (da_cons (de_bltn (v := .ty "bool") (by rfl) z_bool (by decide +kernel) rfl) (da_nil))))))))

/-! ### _law_same_items -/
abbrev st__law_same_items : Stmt := topS 12
theorem sc__law_same_items : FnScope ["actual", "expected", "k"] ["actual", "expected"] (defScope st__law_same_items) := ⟨rfl, rfl, rfl, by decide +kernel, rfl, by decide +kernel, by decide +kernel⟩
def b__law_same_items_1 (F__law_same : TF) : TSX :=
    sIf (tNotQ (tTru (tCall F__law_same 2 (lCons (tBin gIx (tNm 0) (tNm 2)) (lCons (tBin gIx (tNm 1) (tNm 2)) (lNil)))))) (sRet (tIm (.bl false))) (sNil)
def t__law_same_items (F__law_same : TF) : TSX :=
    sSeq (sIf (tTst (tBin (gEqs true) (tCl (gLen) (lCons (tNm 0) (lNil))) (tCl (gLen) (lCons (tNm 1) (lNil))))) (sRet (tIm (.bl false))) (sNil))
    (sSeq (sFor (iRg1 (lCons (tCl (gLen) (lCons (tNm 1) (lNil))) (lNil))) (.one 2) (b__law_same_items_1 F__law_same))
    (sRet (tIm (.bl true))))
theorem ok__law_same_items {k : Nat} {F : TF} (Ds : DefAt K mg "_law_same_items" st__law_same_items ["actual", "expected"]) (z_len : mg "len" = none) (z_range : mg "range" = none) {F__law_same : TF} {k__law_same : Nat} (D__law_same : DefAt K mg "_law_same" st__law_same ["actual", "expected"]) (G__law_same : FnD Pg w K mg base D__law_same k__law_same F__law_same) (h__law_same : k__law_same ≤ k)
    (hB : Body F 3 2 (t__law_same_items F__law_same)) : FnD Pg w K mg base Ds (k + 1) F := by
  refine fn_ok Ds.fu sc__law_same_items hB fun cdv A outer s H E c hr => ?_
  have nd := sc__law_same_items.nd
  exact ds_cons (ds_if (dt_cmp (ne_ok (hu64 hr)) (de_callB (len_ok) (by rfl) z_len (by decide +kernel) (da_cons (de_var 0) (da_nil))) (de_callB (len_ok) (by rfl) z_len (by decide +kernel) (da_cons (de_var 1) (da_nil)))) (ds_one (ds_ret (de_bl))) (ds_nil))
    (ds_cons (ds_for (bd := .one 2) PassesOwn.never rfl (di_rng1 (by rfl) z_range (da_cons (de_callB (len_ok) (by rfl) z_len (by decide +kernel) (da_cons (de_var 1) (da_nil))) (da_nil))) (pg_name (i := 2) nd rfl (by first | exact Or.inl rfl | exact Or.inr rfl)) (ds_one (ds_if (dt_not (dt_tru (de_call G__law_same (hr.mono h__law_same) (by rfl) D__law_same.mg D__law_same.fu.kp D__law_same.bd (da_cons (de_ix (hu1 hr) (de_var 0) (de_var 2)) (da_cons (de_ix (hu1 hr) (de_var 1) (de_var 2)) (da_nil)))))) (ds_one (ds_ret (de_bl))) (ds_nil))))
    (ds_one (ds_ret (de_bl))))

/-! ### _law_same -/
abbrev st__law_same : Stmt := topS 13
theorem sc__law_same : FnScope ["actual", "expected", "key"] ["actual", "expected"] (defScope st__law_same) := ⟨rfl, rfl, rfl, by decide +kernel, rfl, by decide +kernel, by decide +kernel⟩
def b__law_same_1 (F__law_is_integer : TF) (F__law_same_items : TF) (F__law_same : TF) : TSX :=
    sIf (tOrQ (tTst (tBin (gIns true) (tNm 2) (tNm 0))) (tNotQ (tTru (tCall F__law_same 2 (lCons (tBin gIx (tNm 0) (tNm 2)) (lCons (tBin gIx (tNm 1) (tNm 2)) (lNil))))))) (sRet (tIm (.bl false))) (sNil)
def b__law_same_2 (F__law_is_integer : TF) (F__law_same_items : TF) (F__law_same : TF) : TSX :=
    sIf (tTru (tCl (gIsi) (lCons (tNm 2) (lCons (tIm (.raw (.ty "bool"))) (lNil))))) (sRet (tIm (.bl false))) (sNil)
def t__law_same (F__law_is_integer : TF) (F__law_same_items : TF) (F__law_same : TF) : TSX :=
    sSeq (sIf (tTst (tBin (gIs false) (tNm 1) (tIm .non))) (sRet (tBin (gIs false) (tNm 0) (tIm .non))) (sNil))
    (sSeq (sIf (tTru (tCl (gIsi) (lCons (tNm 1) (lCons (tIm (.raw (.ty "bool"))) (lNil))))) (sRet (tAndX (tCl (gIsi) (lCons (tNm 0) (lCons (tIm (.raw (.ty "bool"))) (lNil)))) (tBin (gEqs2 false) (tNm 0) (tNm 1)))) (sNil))
    (sSeq (sIf (tTru (tCl (gIsi) (lCons (tNm 1) (lCons (tIm (.raw (.ty "int"))) (lNil))))) (sRet (tAndX (tCall F__law_is_integer 1 (lCons (tNm 0) (lNil))) (tBin (gEqs2 false) (tNm 0) (tNm 1)))) (sNil))
    (sSeq (sIf (tTru (tCl (gIsi) (lCons (tNm 1) (lCons (tIm (.raw (.ty "str"))) (lNil))))) (sRet (tAndX (tCl (gIsi) (lCons (tNm 0) (lCons (tIm (.raw (.ty "str"))) (lNil)))) (tBin (gEqs2 false) (tNm 0) (tNm 1)))) (sNil))
    (sSeq (sIf (tTru (tCl (gIsi) (lCons (tNm 1) (lCons (tIm (.raw (.ty "tuple"))) (lNil))))) (sRet (tAndX (tCl (gIsi) (lCons (tNm 0) (lCons (tIm (.raw (.ty "tuple"))) (lNil)))) (tCall F__law_same_items 2 (lCons (tNm 0) (lCons (tNm 1) (lNil)))))) (sNil))
    (sSeq (sIf (tTru (tCl (gIsi) (lCons (tNm 1) (lCons (tIm (.raw (.ty "list"))) (lNil))))) (sRet (tAndX (tCl (gIsi) (lCons (tNm 0) (lCons (tIm (.raw (.ty "list"))) (lNil)))) (tCall F__law_same_items 2 (lCons (tNm 0) (lCons (tNm 1) (lNil)))))) (sNil))
    (sSeq (sIf (tOrQ (tNotQ (tTru (tCl (gIsi) (lCons (tNm 0) (lCons (tIm (.raw (.ty "dict"))) (lNil)))))) (tTst (tBin (gEqs true) (tCl (gLen) (lCons (tNm 0) (lNil))) (tCl (gLen) (lCons (tNm 1) (lNil)))))) (sRet (tIm (.bl false))) (sNil))
    (sSeq (sFor (iSeq (tNm 1)) (.one 2) (b__law_same_1 F__law_is_integer F__law_same_items F__law_same))
    (sSeq (sFor (iSeq (tNm 0)) (.one 2) (b__law_same_2 F__law_is_integer F__law_same_items F__law_same))
    (sRet (tIm (.bl true)))))))))))
theorem ok__law_same {k : Nat} {F : TF} (Ds : DefAt K mg "_law_same" st__law_same ["actual", "expected"]) (z_bool : mg "bool" = none) (z_isinstance : mg "isinstance" = none) (z_int : mg "int" = none) (z_str : mg "str" = none) (z_tuple : mg "tuple" = none) (z_list : mg "list" = none) (z_dict : mg "dict" = none) (z_len : mg "len" = none) {F__law_is_integer : TF} {k__law_is_integer : Nat} (D__law_is_integer : DefAt K mg "_law_is_integer" st__law_is_integer ["actual"]) (G__law_is_integer : FnD Pg w K mg base D__law_is_integer k__law_is_integer F__law_is_integer) (h__law_is_integer : k__law_is_integer ≤ k) {F__law_same_items : TF} {k__law_same_items : Nat} (D__law_same_items : DefAt K mg "_law_same_items" st__law_same_items ["actual", "expected"]) (G__law_same_items : FnD Pg w K mg base D__law_same_items k__law_same_items F__law_same_items) (h__law_same_items : k__law_same_items ≤ k) {F__law_same : TF} {k__law_same : Nat} (G__law_same : FnD Pg w K mg base Ds k__law_same F__law_same) (h__law_same : k__law_same ≤ k)
    (hB : Body F 3 2 (t__law_same F__law_is_integer F__law_same_items F__law_same)) : FnD Pg w K mg base Ds (k + 1) F := by
  refine fn_ok Ds.fu sc__law_same hB fun cdv A outer s H E c hr => ?_
  have nd := sc__law_same.nd
  exact ds_cons (ds_if (dt_cmp (is_ok) (de_var 1) (de_non)) (ds_one (ds_ret (de_cmp (is_ok) (de_var 0) (de_non)))) (ds_nil))
    (ds_cons (ds_if (dt_tru (de_callB (isi_ok) (by rfl) z_isinstance (by decide +kernel) (da_cons (de_var 1) (da_cons (de_bltn (v := .ty "bool") (by rfl) z_bool (by decide +kernel) rfl) (da_nil))))) (ds_one (ds_ret (de_and (de_callB (isi_ok) (by rfl) z_isinstance (by decide +kernel) (da_cons (de_var 0) (da_cons (de_bltn (v := .ty "bool") (by rfl) z_bool (by decide +kernel) rfl) (da_nil)))) (de_one (de_cmp (eq2_ok (hu64 hr)) (de_var 0) (de_var 1)))))) (ds_nil))
    (ds_cons (ds_if (dt_tru (de_callB (isi_ok) (by rfl) z_isinstance (by decide +kernel) (da_cons (de_var 1) (da_cons (de_bltn (v := .ty "int") (by rfl) z_int (by decide +kernel) rfl) (da_nil))))) (ds_one (ds_ret (de_and (de_call G__law_is_integer (hr.mono h__law_is_integer) (by rfl) D__law_is_integer.mg D__law_is_integer.fu.kp D__law_is_integer.bd (da_cons (de_var 0) (da_nil))) (de_one (de_cmp (eq2_ok (hu64 hr)) (de_var 0) (de_var 1)))))) (ds_nil))
    (ds_cons (ds_if (dt_tru (de_callB (isi_ok) (by rfl) z_isinstance (by decide +kernel) (da_cons (de_var 1) (da_cons (de_bltn (v := .ty "str") (by rfl) z_str (by decide +kernel) rfl) (da_nil))))) (ds_one (ds_ret (de_and (de_callB (isi_ok) (by rfl) z_isinstance (by decide +kernel) (da_cons (de_var 0) (da_cons (de_bltn (v := .ty "str") (by rfl) z_str (by decide +kernel) rfl) (da_nil)))) (de_one (de_cmp (eq2_ok (hu64 hr)) (de_var 0) (de_var 1)))))) (ds_nil))
    (ds_cons (ds_if (dt_tru (de_callB (isi_ok) (by rfl) z_isinstance (by decide +kernel) (da_cons (de_var 1) (da_cons (de_bltn (v := .ty "tuple") (by rfl) z_tuple (by decide +kernel) rfl) (da_nil))))) (ds_one (ds_ret (de_and (de_callB (isi_ok) (by rfl) z_isinstance (by decide +kernel) (da_cons (de_var 0) (da_cons (de_bltn (v := .ty "tuple") (by rfl) z_tuple (by decide +kernel) rfl) (da_nil)))) (de_one (de_call G__law_same_items (hr.mono h__law_same_items) (by rfl) D__law_same_items.mg D__law_same_items.fu.kp D__law_same_items.bd (da_cons (de_var 0) (da_cons (de_var 1) (da_nil)))))))) (ds_nil))
    (ds_cons (ds_if (dt_tru (de_callB (isi_ok) (by rfl) z_isinstance (by decide +kernel) (da_cons (de_var 1) (da_cons (de_bltn (v := .ty "list") (by rfl) z_list (by decide +kernel) rfl) (da_nil))))) (ds_one (ds_ret (de_and (de_callB (isi_ok) (by rfl) z_isinstance (by decide +kernel) (da_cons (de_var 0) (da_cons (de_bltn (v := .ty "list") (by rfl) z_list (by decide +kernel) rfl) (da_nil)))) (de_one (de_call G__law_same_items (hr.mono h__law_same_items) (by rfl) D__law_same_items.mg D__law_same_items.fu.kp D__law_same_items.bd (da_cons (de_var 0) (da_cons (de_var 1) (da_nil)))))))) (ds_nil))
    (ds_cons (ds_if (dw_pt (dw_or (dt_not (dt_tru (de_callB (isi_ok) (by rfl) z_isinstance (by decide +kernel) (da_cons (de_var 0) (da_cons (de_bltn (v := .ty "dict") (by rfl) z_dict (by decide +kernel) rfl) (da_nil)))))) (dw_or1 (dt_cmp (ne_ok (hu64 hr)) (de_callB (len_ok) (by rfl) z_len (by decide +kernel) (da_cons (de_var 0) (da_nil))) (de_callB (len_ok) (by rfl) z_len (by decide +kernel) (da_cons (de_var 1) (da_nil))))))) (ds_one (ds_ret (de_bl))) (ds_nil))
    (ds_cons (ds_for (bd := .one 2) PassesOwn.never rfl (di_seq (de_var 1)) (pg_name (i := 2) nd rfl (by first | exact Or.inl rfl | exact Or.inr rfl)) (ds_one (ds_if (dw_pt (dw_or (dt_cmp (notin_ok (hu65 hr)) (de_var 2) (de_var 0)) (dw_or1 (dt_not (dt_tru (de_call G__law_same (hr.mono h__law_same) (by rfl) Ds.mg Ds.fu.kp Ds.bd (da_cons (de_ix (hu1 hr) (de_var 0) (de_var 2)) (da_cons (de_ix (hu1 hr) (de_var 1) (de_var 2)) (da_nil))))))))) (ds_one (ds_ret (de_bl))) (ds_nil))))
    (ds_cons (ds_for (bd := .one 2) PassesOwn.never rfl (di_seq (de_var 0)) (pg_name (i := 2) nd rfl (by first | exact Or.inl rfl | exact Or.inr rfl)) (ds_one (ds_if (dt_tru (de_callB (isi_ok) (by rfl) z_isinstance (by decide +kernel) (da_cons (de_var 2) (da_cons (de_bltn (v := .ty "bool") (by rfl) z_bool (by decide +kernel) rfl) (da_nil))))) (ds_one (ds_ret (de_bl))) (ds_nil))))
    (ds_one (ds_ret (de_bl)))))))))))

/-! ### _law_set -/
abbrev st__law_set : Stmt := topS 14
theorem sc__law_set : FnScope ["tape", "much", "scopes", "k", "scope"] ["tape", "much"] (defScope st__law_set) := ⟨rfl, rfl, rfl, by decide +kernel, rfl, by decide +kernel, by decide +kernel⟩
def t__law_set (F__law_take : TF) : TSX :=
    sSeq (sAsg 2 (tLcX (iRg1 (lCons (tIm (.int 6)) (lNil))) (.one 3) (qYes) (tTp (lCons (tIm (.str "m")) (lCons (tNm 3) (lCons (tBin gDiv (tCall F__law_take 2 (lCons (tNm 0) (lCons (tIm (.int 7)) (lNil)))) (tIm (.int 6))) (lNil))))) [3]))
    (sRet (tCl (gTuple) (lCons (tCl (gSorted) (lCons (tLcX (iSeq (tNm 2)) (.one 4) (tTst (tBin (gLt) (tCall F__law_take 2 (lCons (tNm 0) (lCons (tIm (.int 4)) (lNil)))) (tNm 1))) (tNm 4) [4]) (lNil))) (lNil))))
theorem ok__law_set {k : Nat} {F : TF} (Ds : DefAt K mg "_law_set" st__law_set ["tape", "much"]) (z_range : mg "range" = none) (z_sorted : mg "sorted" = none) (z_tuple : mg "tuple" = none) {F__law_take : TF} {k__law_take : Nat} (D__law_take : DefAt K mg "_law_take" st__law_take ["tape", "many"]) (G__law_take : FnD Pg w K mg base D__law_take k__law_take F__law_take) (h__law_take : k__law_take ≤ k)
    (hB : Body F 5 2 (t__law_set F__law_take)) : FnD Pg w K mg base Ds (k + 1) F := by
  refine fn_ok Ds.fu sc__law_set hB fun cdv A outer s H E c hr => ?_
  have nd := sc__law_set.nd
  exact ds_cons (ds_setLc (i := 2) (own := [("k", 3)]) (bd := .one 3) rfl nd (sw_true rfl rfl rfl (by decide +kernel)) (di_rng1 (by rfl) z_range (da_cons (de_int) (da_nil))) (by kernel_rfl) (fun _ _ _ _ _ => pg_name (i := 3) nd rfl (by first | exact Or.inl rfl | exact Or.inr rfl)) (fun _ _ _ _ _ => dq_nil) (fun _ _ _ _ _ => de_tup (da_cons (de_str) (da_cons (de_var 3) (da_cons (de_op div_ok (de_call G__law_take (hr.mono h__law_take) (by rfl) D__law_take.mg D__law_take.fu.kp D__law_take.bd (da_cons (de_var 0) (da_cons (de_int) (da_nil)))) (de_int)) (da_nil))))))
    (ds_one (ds_ret (de_callT (tuple_ok) (by rfl) z_tuple (by decide +kernel) (da_cons (de_callB (sorted_ok rfl (hu80 hr)) (by rfl) z_sorted (by decide +kernel) (da_cons (de_lc (own := [("scope", 4)]) (bd := .one 4) rfl nd (di_seq (de_var 2)) (by kernel_rfl) (fun _ _ _ _ _ => pg_name (i := 4) nd rfl (by first | exact Or.inl rfl | exact Or.inr rfl)) (fun _ _ _ _ _ => dq_one (dt_cmp (lt_ok) (de_call G__law_take (hr.mono h__law_take) (by rfl) D__law_take.mg D__law_take.fu.kp D__law_take.bd (da_cons (de_var 0) (da_cons (de_int) (da_nil)))) (de_var 1))) (fun _ _ _ _ _ => de_var 4)) (da_nil))) (da_nil)))))

/-! ### _law_table -/
abbrev st__law_table : Stmt := topS 15
theorem sc__law_table : FnScope ["tape", "table", "keys", "k", "key", "target"] ["tape"] (defScope st__law_table) := ⟨rfl, rfl, rfl, by decide +kernel, rfl, by decide +kernel, by decide +kernel⟩
def b__law_table_1 (F__law_take : TF) (F__law_set : TF) : TSX :=
    sSeq (sAsg 4 (tTp (lCons (tBin gDiv (tCall F__law_take 2 (lCons (tNm 0) (lCons (tIm (.int 5)) (lNil)))) (tIm (.int 2))) (lCons (tBin gIx (tLs (lCons (tIm (.str "x")) (lCons (tIm (.str "y")) (lNil)))) (tBin gDiv (tCall F__law_take 2 (lCons (tNm 0) (lCons (tIm (.int 5)) (lNil)))) (tIm (.int 4)))) (lCons (tCall F__law_set 2 (lCons (tNm 0) (lCons (tBin gAdd (tIm (.int 1)) (tCall F__law_take 2 (lCons (tNm 0) (lCons (tIm (.int 2)) (lNil))))) (lNil)))) (lNil))))))
    (sIf (tTst (tBin (gIns true) (tNm 4) (tNm 2))) (sSeq (sDrop (tMt gApp 2 (lCons (tNm 4) (lNil))))
    (sSeq (sAsg 5 (tBin gIx (tLs (lCons (tTp (lCons (tIm (.str "local")) (lCons (tIm (.str "m")) (lCons (tCall F__law_take 2 (lCons (tNm 0) (lCons (tIm (.int 3)) (lNil)))) (lNil))))) (lCons (tTp (lCons (tIm (.str "prim")) (lCons (tIm (.str "list")) (lNil)))) (lCons (tTp (lCons (tIm (.str "top")) (lCons (tIm (.str "m")) (lCons (tIm (.int 0)) (lCons (tIm (.int 1)) (lNil)))))) (lNil))))) (tCall F__law_take 2 (lCons (tNm 0) (lCons (tIm (.int 3)) (lNil))))))
    (sDrop (tMt gApp 1 (lCons (tBin gAdd (tNm 4) (tTp (lCons (tNm 5) (lNil)))) (lNil)))))) (sNil))
def t__law_table (F__law_take : TF) (F__law_set : TF) : TSX :=
    sSeq (sAsg 1 (tLs (lNil)))
    (sSeq (sAsg 2 (tLs (lNil)))
    (sSeq (sFor (iRg1 (lCons (tCall F__law_take 2 (lCons (tNm 0) (lCons (tIm (.int 15)) (lNil)))) (lNil))) (.one 3) (b__law_table_1 F__law_take F__law_set))
    (sRet (tNm 1))))
theorem ok__law_table {k : Nat} {F : TF} (Ds : DefAt K mg "_law_table" st__law_table ["tape"]) (z_range : mg "range" = none) {F__law_take : TF} {k__law_take : Nat} (D__law_take : DefAt K mg "_law_take" st__law_take ["tape", "many"]) (G__law_take : FnD Pg w K mg base D__law_take k__law_take F__law_take) (h__law_take : k__law_take ≤ k) {F__law_set : TF} {k__law_set : Nat} (D__law_set : DefAt K mg "_law_set" st__law_set ["tape", "much"]) (G__law_set : FnD Pg w K mg base D__law_set k__law_set F__law_set) (h__law_set : k__law_set ≤ k)
    (hB : Body F 6 1 (t__law_table F__law_take F__law_set)) : FnD Pg w K mg base Ds (k + 1) F := by
  refine fn_ok Ds.fu sc__law_table hB fun cdv A outer s H E c hr => ?_
  have nd := sc__law_table.nd
  exact ds_cons (ds_set (i := 1) nd (de_lst (da_nil)))
    (ds_cons (ds_set (i := 2) nd (de_lst (da_nil)))
    (ds_cons (ds_for (bd := .one 3) PassesOwn.never rfl (di_rng1 (by rfl) z_range (da_cons (de_call G__law_take (hr.mono h__law_take) (by rfl) D__law_take.mg D__law_take.fu.kp D__law_take.bd (da_cons (de_var 0) (da_cons (de_int) (da_nil)))) (da_nil))) (pg_name (i := 3) nd rfl (by first | exact Or.inl rfl | exact Or.inr rfl)) (ds_cons (ds_set (i := 4) nd (de_tup (da_cons (de_op div_ok (de_call G__law_take (hr.mono h__law_take) (by rfl) D__law_take.mg D__law_take.fu.kp D__law_take.bd (da_cons (de_var 0) (da_cons (de_int) (da_nil)))) (de_int)) (da_cons (de_ix (hu1 hr) (de_lst (da_cons (de_str) (da_cons (de_str) (da_nil)))) (de_op div_ok (de_call G__law_take (hr.mono h__law_take) (by rfl) D__law_take.mg D__law_take.fu.kp D__law_take.bd (da_cons (de_var 0) (da_cons (de_int) (da_nil)))) (de_int))) (da_cons (de_call G__law_set (hr.mono h__law_set) (by rfl) D__law_set.mg D__law_set.fu.kp D__law_set.bd (da_cons (de_var 0) (da_cons (de_op add_ok (de_int) (de_call G__law_take (hr.mono h__law_take) (by rfl) D__law_take.mg D__law_take.fu.kp D__law_take.bd (da_cons (de_var 0) (da_cons (de_int) (da_nil))))) (da_nil)))) (da_nil))))))
    (ds_one (ds_if (dt_cmp (notin_ok (hu65 hr)) (de_var 4) (de_var 2)) (ds_cons (ds_expr (de_mt 2 PySem.F.plainAttrs_list PySem.F.slot_list_append PySem.F.type_list_append app_ok (da_cons (de_var 4) (da_nil))))
    (ds_cons (ds_set (i := 5) nd (de_ix (hu1 hr) (de_lst (da_cons (de_tup (da_cons (de_str) (da_cons (de_str) (da_cons (de_call G__law_take (hr.mono h__law_take) (by rfl) D__law_take.mg D__law_take.fu.kp D__law_take.bd (da_cons (de_var 0) (da_cons (de_int) (da_nil)))) (da_nil))))) (da_cons (de_tup (da_cons (de_str) (da_cons (de_str) (da_nil)))) (da_cons (de_tup (da_cons (de_str) (da_cons (de_str) (da_cons (de_int) (da_cons (de_int) (da_nil)))))) (da_nil))))) (de_call G__law_take (hr.mono h__law_take) (by rfl) D__law_take.mg D__law_take.fu.kp D__law_take.bd (da_cons (de_var 0) (da_cons (de_int) (da_nil))))))
    (ds_one (ds_expr (de_mt 1 PySem.F.plainAttrs_list PySem.F.slot_list_append PySem.F.type_list_append app_ok (da_cons (de_op add_ok (de_var 4) (de_tup (da_cons (de_var 5) (da_nil)))) (da_nil))))))) (ds_nil)))))
    (ds_one (ds_ret (de_var 1)))))

/-! ### _law_includes -/
abbrev st__law_includes : Stmt := topS 16
theorem sc__law_includes : FnScope ["outer", "inner", "scope"] ["outer", "inner"] (defScope st__law_includes) := ⟨rfl, rfl, rfl, by decide +kernel, rfl, by decide +kernel, by decide +kernel⟩
def t__law_includes : TSX :=
    sRet (tBin (gEqs2 false) (tLcX (iSeq (tNm 1)) (.one 2) (tTst (tBin (gIns true) (tNm 2) (tNm 0))) (tNm 2) [2]) (tLs (lNil)))
theorem ok__law_includes {k : Nat} {F : TF} (Ds : DefAt K mg "_law_includes" st__law_includes ["outer", "inner"]) 
    (hB : Body F 3 2 (t__law_includes)) : FnD Pg w K mg base Ds (k + 1) F := by
  refine fn_ok Ds.fu sc__law_includes hB fun cdv A outer s H E c hr => ?_
  have nd := sc__law_includes.nd
  exact ds_one (ds_ret (de_cmp (eq2_ok (hu64 hr)) (de_lc (own := [("scope", 2)]) (bd := .one 2) rfl nd (di_seq (de_var 1)) (by kernel_rfl) (fun _ _ _ _ _ => pg_name (i := 2) nd rfl (by first | exact Or.inl rfl | exact Or.inr rfl)) (fun _ _ _ _ _ => dq_one (dt_cmp (notin_ok (hu65 hr)) (de_var 2) (de_var 0))) (fun _ _ _ _ _ => de_var 2)) (de_lst (da_nil))))

/-! ### _law_outcome -/
abbrev st__law_outcome : Stmt := topS 17
theorem sc__law_outcome : FnScope ["table", "phase", "identifier", "inside", "k", "here", "greatest", "above", "j"] ["table", "phase", "identifier"] (defScope st__law_outcome) := ⟨rfl, rfl, rfl, by decide +kernel, rfl, by decide +kernel, by decide +kernel⟩
def b__law_outcome_1 (F__law_includes : TF) : TSX :=
    sSeq (sAsg 7 (tLcX (iSeq (tNm 5)) (.one 8) (tAndQ (tTst (tBin (gEqs true) (tNm 8) (tNm 4))) (tTru (tCall F__law_includes 2 (lCons (tBin gIx (tBin gIx (tNm 0) (tNm 8)) (tIm (.int 2))) (lCons (tBin gIx (tBin gIx (tNm 0) (tNm 4)) (tIm (.int 2))) (lNil)))))) (tNm 8) [8]))
    (sIf (tTst (tBin (gEqs2 false) (tNm 7) (tLs (lNil)))) (sDrop (tMt gApp 6 (lCons (tNm 4) (lNil)))) (sNil))
def t__law_outcome (F__law_includes : TF) : TSX :=
    sSeq (sAsg 3 (tLcX (iRg1 (lCons (tCl (gLen) (lCons (tNm 0) (lNil))) (lNil))) (.one 4) (tAndQ (tTst (tBin (gEqs2 false) (tBin gIx (tBin gIx (tNm 0) (tNm 4)) (tIm (.int 1))) (tBin gIx (tNm 2) (tIm (.int 1))))) (tTru (tCall F__law_includes 2 (lCons (tBin gIx (tNm 2) (tIm (.int 3))) (lCons (tBin gIx (tBin gIx (tNm 0) (tNm 4)) (tIm (.int 2))) (lNil)))))) (tNm 4) [4]))
    (sSeq (sAsg 5 (tLcX (iSeq (tNm 3)) (.one 4) (tTst (tBin (gEqs2 false) (tBin gIx (tBin gIx (tNm 0) (tNm 4)) (tIm (.int 0))) (tNm 1))) (tNm 4) [4]))
    (sSeq (sIf (tTst (tBin (gEqs2 false) (tNm 5) (tLs (lNil)))) (sRet (tIfX (tTst (tBin (gEqs true) (tNm 3) (tLs (lNil)))) (tTp (lCons (tIm (.str "phase")) (lNil))) (tTp (lCons (tIm (.str "unbound")) (lNil))))) (sNil))
    (sSeq (sAsg 6 (tLs (lNil)))
    (sSeq (sFor (iSeq (tNm 5)) (.one 4) (b__law_outcome_1 F__law_includes))
    (sRet (tIfX (tTst (tBin (gEqs2 false) (tCl (gLen) (lCons (tNm 6) (lNil))) (tIm (.int 1)))) (tTp (lCons (tIm (.str "bound")) (lCons (tBin gIx (tNm 6) (tIm (.int 0))) (lNil)))) (tTp (lCons (tIm (.str "ambiguous")) (lCons (tBin gIx (tNm 6) (tIm (.int 0))) (lCons (tBin gIx (tNm 6) (tIm (.int 1))) (lNil)))))))))))
theorem ok__law_outcome {k : Nat} {F : TF} (Ds : DefAt K mg "_law_outcome" st__law_outcome ["table", "phase", "identifier"]) (z_range : mg "range" = none) (z_len : mg "len" = none) {F__law_includes : TF} {k__law_includes : Nat} (D__law_includes : DefAt K mg "_law_includes" st__law_includes ["outer", "inner"]) (G__law_includes : FnD Pg w K mg base D__law_includes k__law_includes F__law_includes) (h__law_includes : k__law_includes ≤ k)
    (hB : Body F 9 3 (t__law_outcome F__law_includes)) : FnD Pg w K mg base Ds (k + 1) F := by
  refine fn_ok Ds.fu sc__law_outcome hB fun cdv A outer s H E c hr => ?_
  have nd := sc__law_outcome.nd
  exact ds_cons (ds_setLc (i := 3) (own := [("k", 4)]) (bd := .one 4) rfl nd (sw_true rfl rfl rfl (by decide +kernel)) (di_rng1 (by rfl) z_range (da_cons (de_callB (len_ok) (by rfl) z_len (by decide +kernel) (da_cons (de_var 0) (da_nil))) (da_nil))) (by kernel_rfl) (fun _ _ _ _ _ => pg_name (i := 4) nd rfl (by first | exact Or.inl rfl | exact Or.inr rfl)) (fun _ _ _ _ _ => dq_one (dw_pt (dw_and (dt_cmp (eq2_ok (hu64 hr)) (de_ix (hu1 hr) (de_ix (hu1 hr) (de_var 0) (de_var 4)) (de_int)) (de_ix (hu1 hr) (de_var 2) (de_int))) (dw_and1 (dt_tru (de_call G__law_includes (hr.mono h__law_includes) (by rfl) D__law_includes.mg D__law_includes.fu.kp D__law_includes.bd (da_cons (de_ix (hu1 hr) (de_var 2) (de_int)) (da_cons (de_ix (hu1 hr) (de_ix (hu1 hr) (de_var 0) (de_var 4)) (de_int)) (da_nil))))))))) (fun _ _ _ _ _ => de_var 4))
    (ds_cons (ds_setLc (i := 5) (own := [("k", 4)]) (bd := .one 4) rfl nd (sw_true rfl rfl rfl (by decide +kernel)) (di_seq (de_var 3)) (by kernel_rfl) (fun _ _ _ _ _ => pg_name (i := 4) nd rfl (by first | exact Or.inl rfl | exact Or.inr rfl)) (fun _ _ _ _ _ => dq_one (dt_cmp (eq2_ok (hu64 hr)) (de_ix (hu1 hr) (de_ix (hu1 hr) (de_var 0) (de_var 4)) (de_int)) (de_var 1))) (fun _ _ _ _ _ => de_var 4))
    (ds_cons (ds_if (dt_cmp (eq2_ok (hu64 hr)) (de_var 5) (de_lst (da_nil))) (ds_one (ds_ret (de_if (dt_cmp (ne_ok (hu64 hr)) (de_var 3) (de_lst (da_nil))) (de_tup (da_cons (de_str) (da_nil))) (de_tup (da_cons (de_str) (da_nil)))))) (ds_nil))
    (ds_cons (ds_set (i := 6) nd (de_lst (da_nil)))
    (ds_cons (ds_for (bd := .one 4) PassesOwn.never rfl (di_seq (de_var 5)) (pg_name (i := 4) nd rfl (by first | exact Or.inl rfl | exact Or.inr rfl)) (ds_cons (ds_setLc (i := 7) (own := [("j", 8)]) (bd := .one 8) rfl nd (sw_true rfl rfl rfl (by decide +kernel)) (di_seq (de_var 5)) (by kernel_rfl) (fun _ _ _ _ _ => pg_name (i := 8) nd rfl (by first | exact Or.inl rfl | exact Or.inr rfl)) (fun _ _ _ _ _ => dq_one (dw_pt (dw_and (dt_cmp (ne_ok (hu64 hr)) (de_var 8) (de_var 4)) (dw_and1 (dt_tru (de_call G__law_includes (hr.mono h__law_includes) (by rfl) D__law_includes.mg D__law_includes.fu.kp D__law_includes.bd (da_cons (de_ix (hu1 hr) (de_ix (hu1 hr) (de_var 0) (de_var 8)) (de_int)) (da_cons (de_ix (hu1 hr) (de_ix (hu1 hr) (de_var 0) (de_var 4)) (de_int)) (da_nil))))))))) (fun _ _ _ _ _ => de_var 8))
    (ds_one (ds_if (dt_cmp (eq2_ok (hu64 hr)) (de_var 7) (de_lst (da_nil))) (ds_one (ds_expr (de_mt 6 PySem.F.plainAttrs_list PySem.F.slot_list_append PySem.F.type_list_append app_ok (da_cons (de_var 4) (da_nil))))) (ds_nil)))))
    (ds_one (ds_ret (de_if (dt_cmp (eq2_ok (hu64 hr)) (de_callB (len_ok) (by rfl) z_len (by decide +kernel) (da_cons (de_var 6) (da_nil))) (de_int)) (de_tup (da_cons (de_str) (da_cons (de_ix (hu1 hr) (de_var 6) (de_int)) (da_nil)))) (de_tup (da_cons (de_str) (da_cons (de_ix (hu1 hr) (de_var 6) (de_int)) (da_cons (de_ix (hu1 hr) (de_var 6) (de_int)) (da_nil))))))))))))

/-! ### _law_same_reference -/
abbrev st__law_same_reference : Stmt := topS 18
theorem sc__law_same_reference : FnScope ["table", "phase", "first", "second", "one", "other"] ["table", "phase", "first", "second"] (defScope st__law_same_reference) := ⟨rfl, rfl, rfl, by decide +kernel, rfl, by decide +kernel, by decide +kernel⟩
def t__law_same_reference (F__law_outcome : TF) : TSX :=
    sSeq (sAsg 4 (tCall F__law_outcome 3 (lCons (tNm 0) (lCons (tNm 1) (lCons (tNm 2) (lNil))))))
    (sSeq (sAsg 5 (tCall F__law_outcome 3 (lCons (tNm 0) (lCons (tNm 1) (lCons (tNm 3) (lNil))))))
    (sSeq (sIf (tOrQ (tTst (tBin (gEqs2 false) (tBin gIx (tNm 4) (tIm (.int 0))) (tIm (.str "ambiguous")))) (tTst (tBin (gEqs2 false) (tBin gIx (tNm 5) (tIm (.int 0))) (tIm (.str "ambiguous"))))) (sRet (tIm .non)) (sNil))
    (sSeq (sIf (tOrQ (tTst (tBin (gEqs2 false) (tBin gIx (tNm 4) (tIm (.int 0))) (tIm (.str "bound")))) (tTst (tBin (gEqs2 false) (tBin gIx (tNm 5) (tIm (.int 0))) (tIm (.str "bound"))))) (sRet (tAndX (tBin (gEqs2 false) (tBin gIx (tNm 4) (tIm (.int 0))) (tBin gIx (tNm 5) (tIm (.int 0)))) (tBin (gEqs2 false) (tBin gIx (tBin gIx (tNm 0) (tBin gIx (tNm 4) (tIm (.int 1)))) (tIm (.int 3))) (tBin gIx (tBin gIx (tNm 0) (tBin gIx (tNm 5) (tIm (.int 1)))) (tIm (.int 3)))))) (sNil))
    (sRet (tBin (gEqs2 false) (tBin gIx (tNm 2) (tIm (.int 1))) (tBin gIx (tNm 3) (tIm (.int 1))))))))
theorem ok__law_same_reference {k : Nat} {F : TF} (Ds : DefAt K mg "_law_same_reference" st__law_same_reference ["table", "phase", "first", "second"]) {F__law_outcome : TF} {k__law_outcome : Nat} (D__law_outcome : DefAt K mg "_law_outcome" st__law_outcome ["table", "phase", "identifier"]) (G__law_outcome : FnD Pg w K mg base D__law_outcome k__law_outcome F__law_outcome) (h__law_outcome : k__law_outcome ≤ k)
    (hB : Body F 6 4 (t__law_same_reference F__law_outcome)) : FnD Pg w K mg base Ds (k + 1) F := by
  refine fn_ok Ds.fu sc__law_same_reference hB fun cdv A outer s H E c hr => ?_
  have nd := sc__law_same_reference.nd
  exact ds_cons (ds_set (i := 4) nd (de_call G__law_outcome (hr.mono h__law_outcome) (by rfl) D__law_outcome.mg D__law_outcome.fu.kp D__law_outcome.bd (da_cons (de_var 0) (da_cons (de_var 1) (da_cons (de_var 2) (da_nil))))))
    (ds_cons (ds_set (i := 5) nd (de_call G__law_outcome (hr.mono h__law_outcome) (by rfl) D__law_outcome.mg D__law_outcome.fu.kp D__law_outcome.bd (da_cons (de_var 0) (da_cons (de_var 1) (da_cons (de_var 3) (da_nil))))))
    (ds_cons (ds_if (dw_pt (dw_or (dt_cmp (eq2_ok (hu64 hr)) (de_ix (hu1 hr) (de_var 4) (de_int)) (de_str)) (dw_or1 (dt_cmp (eq2_ok (hu64 hr)) (de_ix (hu1 hr) (de_var 5) (de_int)) (de_str))))) (ds_one (ds_ret (de_non))) (ds_nil))
    (ds_cons (ds_if (dw_pt (dw_or (dt_cmp (eq2_ok (hu64 hr)) (de_ix (hu1 hr) (de_var 4) (de_int)) (de_str)) (dw_or1 (dt_cmp (eq2_ok (hu64 hr)) (de_ix (hu1 hr) (de_var 5) (de_int)) (de_str))))) (ds_one (ds_ret (de_and (de_cmp (eq2_ok (hu64 hr)) (de_ix (hu1 hr) (de_var 4) (de_int)) (de_ix (hu1 hr) (de_var 5) (de_int))) (de_one (de_cmp (eq2_ok (hu64 hr)) (de_ix (hu1 hr) (de_ix (hu1 hr) (de_var 0) (de_ix (hu1 hr) (de_var 4) (de_int))) (de_int)) (de_ix (hu1 hr) (de_ix (hu1 hr) (de_var 0) (de_ix (hu1 hr) (de_var 5) (de_int))) (de_int))))))) (ds_nil))
    (ds_one (ds_ret (de_cmp (eq2_ok (hu64 hr)) (de_ix (hu1 hr) (de_var 2) (de_int)) (de_ix (hu1 hr) (de_var 3) (de_int))))))))

/-! ### _law_identifier -/
abbrev st__law_identifier : Stmt := topS 19
theorem sc__law_identifier : FnScope ["tape"] ["tape"] (defScope st__law_identifier) := ⟨rfl, rfl, rfl, by decide +kernel, rfl, by decide +kernel, by decide +kernel⟩
def t__law_identifier (F__law_take : TF) (F__law_set : TF) : TSX :=
    sRet (tTp (lCons (tIm (.str "id")) (lCons (tBin gIx (tLs (lCons (tIm (.str "x")) (lCons (tIm (.str "x")) (lCons (tIm (.str "y")) (lCons (tIm (.str "z")) (lNil)))))) (tCall F__law_take 2 (lCons (tNm 0) (lCons (tIm (.int 4)) (lNil))))) (lCons (tTp (lCons (tIm (.str "m")) (lCons (tCall F__law_take 2 (lCons (tNm 0) (lCons (tIm (.int 9)) (lNil)))) (lNil)))) (lCons (tCall F__law_set 2 (lCons (tNm 0) (lCons (tBin gAdd (tIm (.int 2)) (tCall F__law_take 2 (lCons (tNm 0) (lCons (tIm (.int 3)) (lNil))))) (lNil)))) (lNil))))))
theorem ok__law_identifier {k : Nat} {F : TF} (Ds : DefAt K mg "_law_identifier" st__law_identifier ["tape"]) {F__law_take : TF} {k__law_take : Nat} (D__law_take : DefAt K mg "_law_take" st__law_take ["tape", "many"]) (G__law_take : FnD Pg w K mg base D__law_take k__law_take F__law_take) (h__law_take : k__law_take ≤ k) {F__law_set : TF} {k__law_set : Nat} (D__law_set : DefAt K mg "_law_set" st__law_set ["tape", "much"]) (G__law_set : FnD Pg w K mg base D__law_set k__law_set F__law_set) (h__law_set : k__law_set ≤ k)
    (hB : Body F 1 1 (t__law_identifier F__law_take F__law_set)) : FnD Pg w K mg base Ds (k + 1) F := by
  refine fn_ok Ds.fu sc__law_identifier hB fun cdv A outer s H E c hr => ?_
  have nd := sc__law_identifier.nd
  exact ds_one (ds_ret (de_tup (da_cons (de_str) (da_cons (de_ix (hu1 hr) (de_lst (da_cons (de_str) (da_cons (de_str) (da_cons (de_str) (da_cons (de_str) (da_nil)))))) (de_call G__law_take (hr.mono h__law_take) (by rfl) D__law_take.mg D__law_take.fu.kp D__law_take.bd (da_cons (de_var 0) (da_cons (de_int) (da_nil))))) (da_cons (de_tup (da_cons (de_str) (da_cons (de_call G__law_take (hr.mono h__law_take) (by rfl) D__law_take.mg D__law_take.fu.kp D__law_take.bd (da_cons (de_var 0) (da_cons (de_int) (da_nil)))) (da_nil)))) (da_cons (de_call G__law_set (hr.mono h__law_set) (by rfl) D__law_set.mg D__law_set.fu.kp D__law_set.bd (da_cons (de_var 0) (da_cons (de_op add_ok (de_int) (de_call G__law_take (hr.mono h__law_take) (by rfl) D__law_take.mg D__law_take.fu.kp D__law_take.bd (da_cons (de_var 0) (da_cons (de_int) (da_nil))))) (da_nil)))) (da_nil)))))))

/-! ### law -/
abbrev st_law : Stmt := topS 20
theorem sc_law : FnScope ["script", "tape", "table", "k", "phase", "first", "second", "due", "others", "other"] ["script"] (defScope st_law) := ⟨rfl, rfl, rfl, by decide +kernel, rfl, by decide +kernel, by decide +kernel⟩
def b_law_1 (F__law_tape : TF) (F__law_table : TF) (F__law_take : TF) (F__law_identifier : TF) (F__law_outcome : TF) (F_resolve : TF) (F__law_same : TF) (F_judge_outcome : TF) (F_same_binder : TF) (F_same_reference : TF) (F__law_same_reference : TF) : TSX :=
    sSeq (sAsg 4 (tCall F__law_take 2 (lCons (tNm 1) (lCons (tIm (.int 4)) (lNil)))))
    (sSeq (sAsg 5 (tCall F__law_identifier 1 (lCons (tNm 1) (lNil))))
    (sSeq (sAsg 6 (tCall F__law_identifier 1 (lCons (tNm 1) (lNil))))
    (sSeq (sIf (tTst (tBin (gEqs2 false) (tCall F__law_take 2 (lCons (tNm 1) (lCons (tIm (.int 3)) (lNil)))) (tIm (.int 0)))) (sAsg 6 (tBin gAdd (tBin gAdd (tSlc (tNm 5) (pNo) (pSo (tIm (.int 2)))) (tSlc (tNm 6) (pSo (tIm (.int 2))) (pSo (tIm (.int 3))))) (tSlc (tNm 5) (pSo (tIm (.int 3))) (pNo)))) (sNil))
    (sSeq (sAsg 7 (tCall F__law_outcome 3 (lCons (tNm 2) (lCons (tNm 4) (lCons (tNm 5) (lNil))))))
    (sSeq (sIf (tOrQ (tNotQ (tTru (tCall F__law_same 2 (lCons (tCall F_resolve 3 (lCons (tCl (gList) (lCons (tNm 2) (lNil))) (lCons (tNm 4) (lCons (tNm 5) (lNil))))) (lCons (tNm 7) (lNil)))))) (tTst (tBin (gIs true) (tCall F_judge_outcome 4 (lCons (tNm 2) (lCons (tNm 4) (lCons (tNm 5) (lCons (tNm 7) (lNil)))))) (tIm (.bl true))))) (sRet (tIm (.bl false))) (sNil))
    (sSeq (sAsg 8 (tLs (lCons (tTp (lCons (tIm (.str "unbound")) (lNil))) (lCons (tTp (lCons (tIm (.str "phase")) (lNil))) (lCons (tTp (lCons (tIm (.str "bound")) (lCons (tIm (.int 0)) (lNil)))) (lCons (tTp (lCons (tIm (.str "bound")) (lCons (tIm (.int 1)) (lNil)))) (lCons (tTp (lCons (tIm (.str "ambiguous")) (lCons (tIm (.int 0)) (lCons (tIm (.int 1)) (lNil))))) (lCons (tTp (lCons (tIm (.str "ambiguous")) (lCons (tIm (.int 1)) (lCons (tIm (.int 2)) (lNil))))) (lCons (tTp (lCons (tIm (.str "bound")) (lCons (tIm (.int 2)) (lNil)))) (lNil))))))))))
    (sSeq (sAsg 9 (tBin gIx (tNm 8) (tCall F__law_take 2 (lCons (tNm 1) (lCons (tIm (.int 7)) (lNil))))))
    (sSeq (sIf (tNotQ (tTru (tCall F__law_same 2 (lCons (tCall F_judge_outcome 4 (lCons (tNm 2) (lCons (tNm 4) (lCons (tNm 5) (lCons (tNm 9) (lNil)))))) (lCons (tBin (gEqs2 false) (tNm 9) (tNm 7)) (lNil)))))) (sRet (tIm (.bl false))) (sNil))
    (sSeq (sIf (tNotQ (tTru (tCall F__law_same 2 (lCons (tCall F_same_binder 2 (lCons (tNm 5) (lCons (tNm 6) (lNil)))) (lCons (tAndX (tBin (gEqs2 false) (tBin gIx (tNm 5) (tIm (.int 1))) (tBin gIx (tNm 6) (tIm (.int 1)))) (tBin (gEqs2 false) (tBin gIx (tNm 5) (tIm (.int 3))) (tBin gIx (tNm 6) (tIm (.int 3))))) (lNil)))))) (sRet (tIm (.bl false))) (sNil))
    (sIf (tNotQ (tTru (tCall F__law_same 2 (lCons (tCall F_same_reference 4 (lCons (tCl (gTuple) (lCons (tNm 2) (lNil))) (lCons (tNm 4) (lCons (tNm 5) (lCons (tNm 6) (lNil)))))) (lCons (tCall F__law_same_reference 4 (lCons (tNm 2) (lCons (tNm 4) (lCons (tNm 5) (lCons (tNm 6) (lNil)))))) (lNil)))))) (sRet (tIm (.bl false))) (sNil)))))))))))
def t_law (F__law_tape : TF) (F__law_table : TF) (F__law_take : TF) (F__law_identifier : TF) (F__law_outcome : TF) (F_resolve : TF) (F__law_same : TF) (F_judge_outcome : TF) (F_same_binder : TF) (F_same_reference : TF) (F__law_same_reference : TF) : TSX :=
    sSeq (sAsg 1 (tCall F__law_tape 1 (lCons (tNm 0) (lNil))))
    (sSeq (sAsg 2 (tCall F__law_table 1 (lCons (tNm 1) (lNil))))
    (sSeq (sFor (iRg1 (lCons (tIm (.int 3)) (lNil))) (.one 3) (b_law_1 F__law_tape F__law_table F__law_take F__law_identifier F__law_outcome F_resolve F__law_same F_judge_outcome F_same_binder F_same_reference F__law_same_reference))
    (sRet (tIm (.bl true)))))
theorem ok_law {k : Nat} {F : TF} (Ds : DefAt K mg "law" st_law ["script"]) (z_range : mg "range" = none) (z_list : mg "list" = none) (z_tuple : mg "tuple" = none) {F__law_tape : TF} {k__law_tape : Nat} (D__law_tape : DefAt K mg "_law_tape" st__law_tape ["script"]) (G__law_tape : FnD Pg w K mg base D__law_tape k__law_tape F__law_tape) (h__law_tape : k__law_tape ≤ k) {F__law_table : TF} {k__law_table : Nat} (D__law_table : DefAt K mg "_law_table" st__law_table ["tape"]) (G__law_table : FnD Pg w K mg base D__law_table k__law_table F__law_table) (h__law_table : k__law_table ≤ k) {F__law_take : TF} {k__law_take : Nat} (D__law_take : DefAt K mg "_law_take" st__law_take ["tape", "many"]) (G__law_take : FnD Pg w K mg base D__law_take k__law_take F__law_take) (h__law_take : k__law_take ≤ k) {F__law_identifier : TF} {k__law_identifier : Nat} (D__law_identifier : DefAt K mg "_law_identifier" st__law_identifier ["tape"]) (G__law_identifier : FnD Pg w K mg base D__law_identifier k__law_identifier F__law_identifier) (h__law_identifier : k__law_identifier ≤ k) {F__law_outcome : TF} {k__law_outcome : Nat} (D__law_outcome : DefAt K mg "_law_outcome" st__law_outcome ["table", "phase", "identifier"]) (G__law_outcome : FnD Pg w K mg base D__law_outcome k__law_outcome F__law_outcome) (h__law_outcome : k__law_outcome ≤ k) {F_resolve : TF} {k_resolve : Nat} (D_resolve : DefAt K mg "resolve" st_resolve ["table", "phase", "identifier"]) (G_resolve : FnD Pg w K mg base D_resolve k_resolve F_resolve) (h_resolve : k_resolve ≤ k) {F__law_same : TF} {k__law_same : Nat} (D__law_same : DefAt K mg "_law_same" st__law_same ["actual", "expected"]) (G__law_same : FnD Pg w K mg base D__law_same k__law_same F__law_same) (h__law_same : k__law_same ≤ k) {F_judge_outcome : TF} {k_judge_outcome : Nat} (D_judge_outcome : DefAt K mg "judge_outcome" st_judge_outcome ["table", "phase", "identifier", "told"]) (G_judge_outcome : FnD Pg w K mg base D_judge_outcome k_judge_outcome F_judge_outcome) (h_judge_outcome : k_judge_outcome ≤ k) {F_same_binder : TF} {k_same_binder : Nat} (D_same_binder : DefAt K mg "same_binder" st_same_binder ["first", "second"]) (G_same_binder : FnD Pg w K mg base D_same_binder k_same_binder F_same_binder) (h_same_binder : k_same_binder ≤ k) {F_same_reference : TF} {k_same_reference : Nat} (D_same_reference : DefAt K mg "same_reference" st_same_reference ["table", "phase", "first", "second"]) (G_same_reference : FnD Pg w K mg base D_same_reference k_same_reference F_same_reference) (h_same_reference : k_same_reference ≤ k) {F__law_same_reference : TF} {k__law_same_reference : Nat} (D__law_same_reference : DefAt K mg "_law_same_reference" st__law_same_reference ["table", "phase", "first", "second"]) (G__law_same_reference : FnD Pg w K mg base D__law_same_reference k__law_same_reference F__law_same_reference) (h__law_same_reference : k__law_same_reference ≤ k)
    (hB : Body F 10 1 (t_law F__law_tape F__law_table F__law_take F__law_identifier F__law_outcome F_resolve F__law_same F_judge_outcome F_same_binder F_same_reference F__law_same_reference)) : FnD Pg w K mg base Ds (k + 1) F := by
  refine fn_ok Ds.fu sc_law hB fun cdv A outer s H E c hr => ?_
  have nd := sc_law.nd
  exact ds_cons (ds_set (i := 1) nd (de_call G__law_tape (hr.mono h__law_tape) (by rfl) D__law_tape.mg D__law_tape.fu.kp D__law_tape.bd (da_cons (de_var 0) (da_nil))))
    (ds_cons (ds_set (i := 2) nd (de_call G__law_table (hr.mono h__law_table) (by rfl) D__law_table.mg D__law_table.fu.kp D__law_table.bd (da_cons (de_var 1) (da_nil))))
    (ds_cons (ds_for (bd := .one 3) PassesOwn.never rfl (di_rng1 (by rfl) z_range (da_cons (de_int) (da_nil))) (pg_name (i := 3) nd rfl (by first | exact Or.inl rfl | exact Or.inr rfl)) (ds_cons (ds_set (i := 4) nd (de_call G__law_take (hr.mono h__law_take) (by rfl) D__law_take.mg D__law_take.fu.kp D__law_take.bd (da_cons (de_var 1) (da_cons (de_int) (da_nil)))))
    (ds_cons (ds_set (i := 5) nd (de_call G__law_identifier (hr.mono h__law_identifier) (by rfl) D__law_identifier.mg D__law_identifier.fu.kp D__law_identifier.bd (da_cons (de_var 1) (da_nil))))
    (ds_cons (ds_set (i := 6) nd (de_call G__law_identifier (hr.mono h__law_identifier) (by rfl) D__law_identifier.mg D__law_identifier.fu.kp D__law_identifier.bd (da_cons (de_var 1) (da_nil))))
    (ds_cons (ds_if (dt_cmp (eq2_ok (hu64 hr)) (de_call G__law_take (hr.mono h__law_take) (by rfl) D__law_take.mg D__law_take.fu.kp D__law_take.bd (da_cons (de_var 1) (da_cons (de_int) (da_nil)))) (de_int)) (ds_one (ds_set (i := 6) nd (de_op add_ok (de_op add_ok (de_slice (de_var 5) (do_no) (do_so (de_int))) (de_slice (de_var 6) (do_so (de_int)) (do_so (de_int)))) (de_slice (de_var 5) (do_so (de_int)) (do_no))))) (ds_nil))
    (ds_cons (ds_set (i := 7) nd (de_call G__law_outcome (hr.mono h__law_outcome) (by rfl) D__law_outcome.mg D__law_outcome.fu.kp D__law_outcome.bd (da_cons (de_var 2) (da_cons (de_var 4) (da_cons (de_var 5) (da_nil))))))
    (ds_cons (ds_if (dw_pt (dw_or (dt_not (dt_tru (de_call G__law_same (hr.mono h__law_same) (by rfl) D__law_same.mg D__law_same.fu.kp D__law_same.bd (da_cons (de_call G_resolve (hr.mono h_resolve) (by rfl) D_resolve.mg D_resolve.fu.kp D_resolve.bd (da_cons (de_callT (list_ok) (by rfl) z_list (by decide +kernel) (da_cons (de_var 2) (da_nil))) (da_cons (de_var 4) (da_cons (de_var 5) (da_nil))))) (da_cons (de_var 7) (da_nil)))))) (dw_or1 (dt_cmp (isnot_ok) (de_call G_judge_outcome (hr.mono h_judge_outcome) (by rfl) D_judge_outcome.mg D_judge_outcome.fu.kp D_judge_outcome.bd (da_cons (de_var 2) (da_cons (de_var 4) (da_cons (de_var 5) (da_cons (de_var 7) (da_nil)))))) (de_bl))))) (ds_one (ds_ret (de_bl))) (ds_nil))
    (ds_cons (ds_set (i := 8) nd (de_lst (da_cons (de_tup (da_cons (de_str) (da_nil))) (da_cons (de_tup (da_cons (de_str) (da_nil))) (da_cons (de_tup (da_cons (de_str) (da_cons (de_int) (da_nil)))) (da_cons (de_tup (da_cons (de_str) (da_cons (de_int) (da_nil)))) (da_cons (de_tup (da_cons (de_str) (da_cons (de_int) (da_cons (de_int) (da_nil))))) (da_cons (de_tup (da_cons (de_str) (da_cons (de_int) (da_cons (de_int) (da_nil))))) (da_cons (de_tup (da_cons (de_str) (da_cons (de_int) (da_nil)))) (da_nil))))))))))
    (ds_cons (ds_set (i := 9) nd (de_ix (hu1 hr) (de_var 8) (de_call G__law_take (hr.mono h__law_take) (by rfl) D__law_take.mg D__law_take.fu.kp D__law_take.bd (da_cons (de_var 1) (da_cons (de_int) (da_nil))))))
    (ds_cons (ds_if (dt_not (dt_tru (de_call G__law_same (hr.mono h__law_same) (by rfl) D__law_same.mg D__law_same.fu.kp D__law_same.bd (da_cons (de_call G_judge_outcome (hr.mono h_judge_outcome) (by rfl) D_judge_outcome.mg D_judge_outcome.fu.kp D_judge_outcome.bd (da_cons (de_var 2) (da_cons (de_var 4) (da_cons (de_var 5) (da_cons (de_var 9) (da_nil)))))) (da_cons (de_cmp (eq2_ok (hu64 hr)) (de_var 9) (de_var 7)) (da_nil)))))) (ds_one (ds_ret (de_bl))) (ds_nil))
    (ds_cons (ds_if (dt_not (dt_tru (de_call G__law_same (hr.mono h__law_same) (by rfl) D__law_same.mg D__law_same.fu.kp D__law_same.bd (da_cons (de_call G_same_binder (hr.mono h_same_binder) (by rfl) D_same_binder.mg D_same_binder.fu.kp D_same_binder.bd (da_cons (de_var 5) (da_cons (de_var 6) (da_nil)))) (da_cons (de_and (de_cmp (eq2_ok (hu64 hr)) (de_ix (hu1 hr) (de_var 5) (de_int)) (de_ix (hu1 hr) (de_var 6) (de_int))) (de_one (de_cmp (eq2_ok (hu64 hr)) (de_ix (hu1 hr) (de_var 5) (de_int)) (de_ix (hu1 hr) (de_var 6) (de_int))))) (da_nil)))))) (ds_one (ds_ret (de_bl))) (ds_nil))
    (ds_one (ds_if (dt_not (dt_tru (de_call G__law_same (hr.mono h__law_same) (by rfl) D__law_same.mg D__law_same.fu.kp D__law_same.bd (da_cons (de_call G_same_reference (hr.mono h_same_reference) (by rfl) D_same_reference.mg D_same_reference.fu.kp D_same_reference.bd (da_cons (de_callT (tuple_ok) (by rfl) z_tuple (by decide +kernel) (da_cons (de_var 2) (da_nil))) (da_cons (de_var 4) (da_cons (de_var 5) (da_cons (de_var 6) (da_nil)))))) (da_cons (de_call G__law_same_reference (hr.mono h__law_same_reference) (by rfl) D__law_same_reference.mg D__law_same_reference.fu.kp D__law_same_reference.bd (da_cons (de_var 2) (da_cons (de_var 4) (da_cons (de_var 5) (da_cons (de_var 6) (da_nil)))))) (da_nil)))))) (ds_one (ds_ret (de_bl))) (ds_nil))))))))))))))
    (ds_one (ds_ret (de_bl)))))

/-! ### what the top holds -/
structure Top (K : PySem.W.Frag) (mg : Str → Option Value) where
  D_is_within : DefAt K mg "is_within" st_is_within ["scopes", "others"]
  D_resolve_among : DefAt K mg "resolve_among" st_resolve_among ["named", "phase", "scopes"]
  D_resolve : DefAt K mg "resolve" st_resolve ["table", "phase", "identifier"]
  D_same_binder : DefAt K mg "same_binder" st_same_binder ["first", "second"]
  D_same_outcomes : DefAt K mg "same_outcomes" st_same_outcomes ["first", "second", "table"]
  D_same_reference : DefAt K mg "same_reference" st_same_reference ["table", "phase", "first", "second"]
  D_judge_outcome : DefAt K mg "judge_outcome" st_judge_outcome ["table", "phase", "identifier", "told"]
  D__law_tape : DefAt K mg "_law_tape" st__law_tape ["script"]
  D__law_take : DefAt K mg "_law_take" st__law_take ["tape", "many"]
  D__law_is_integer : DefAt K mg "_law_is_integer" st__law_is_integer ["actual"]
  D__law_same_items : DefAt K mg "_law_same_items" st__law_same_items ["actual", "expected"]
  D__law_same : DefAt K mg "_law_same" st__law_same ["actual", "expected"]
  D__law_set : DefAt K mg "_law_set" st__law_set ["tape", "much"]
  D__law_table : DefAt K mg "_law_table" st__law_table ["tape"]
  D__law_includes : DefAt K mg "_law_includes" st__law_includes ["outer", "inner"]
  D__law_outcome : DefAt K mg "_law_outcome" st__law_outcome ["table", "phase", "identifier"]
  D__law_same_reference : DefAt K mg "_law_same_reference" st__law_same_reference ["table", "phase", "first", "second"]
  D__law_identifier : DefAt K mg "_law_identifier" st__law_identifier ["tape"]
  D_law : DefAt K mg "law" st_law ["script"]
  z_len : mg "len" = none
  z_all : mg "all" = none
  z_any : mg "any" = none
  z_enumerate : mg "enumerate" = none
  z_int : mg "int" = none
  z_abs : mg "abs" = none
  z_isinstance : mg "isinstance" = none
  z_bool : mg "bool" = none
  z_range : mg "range" = none
  z_str : mg "str" = none
  z_tuple : mg "tuple" = none
  z_list : mg "list" = none
  z_dict : mg "dict" = none
  z_sorted : mg "sorted" = none
  bl : ∀ (s : Shared) (v : Value), BindsTo s D_law.fd ⟨[v], []⟩ [("script", v)]
def tp_mk {K : PySem.W.Frag} {h : Heap} {mg : Str → Option Value} (X : K.In h) (G : h.Ns mainGlobals mg)
    {f0 : Addr} {od0 an0 : Option Addr} {sl0 : Array (Option Value)} {oc0 kV0 dc0 pm0 cd0 ct0 : Value}
    (a0 : PySem.W.nsIn K mainGlobals "is_within" = some (some (.ref f0))) (l0 : K.lookup f0 = some ⟨oc0, od0, .func (PySem.W.fnOf "is_within" "is_within" (defArgs st_is_within) (defBody st_is_within) (defScope st_is_within) .none kV0 dc0 pm0 an0 cd0 ct0), sl0⟩) (c0 : PySem.W.codeIn K cd0 "is_within" = true) (k0 : PySem.W.keepIn K (.ref f0) = true)
    {f1 : Addr} {od1 an1 : Option Addr} {sl1 : Array (Option Value)} {oc1 kV1 dc1 pm1 cd1 ct1 : Value}
    (a1 : PySem.W.nsIn K mainGlobals "resolve_among" = some (some (.ref f1))) (l1 : K.lookup f1 = some ⟨oc1, od1, .func (PySem.W.fnOf "resolve_among" "resolve_among" (defArgs st_resolve_among) (defBody st_resolve_among) (defScope st_resolve_among) .none kV1 dc1 pm1 an1 cd1 ct1), sl1⟩) (c1 : PySem.W.codeIn K cd1 "resolve_among" = true) (k1 : PySem.W.keepIn K (.ref f1) = true)
    {f2 : Addr} {od2 an2 : Option Addr} {sl2 : Array (Option Value)} {oc2 kV2 dc2 pm2 cd2 ct2 : Value}
    (a2 : PySem.W.nsIn K mainGlobals "resolve" = some (some (.ref f2))) (l2 : K.lookup f2 = some ⟨oc2, od2, .func (PySem.W.fnOf "resolve" "resolve" (defArgs st_resolve) (defBody st_resolve) (defScope st_resolve) .none kV2 dc2 pm2 an2 cd2 ct2), sl2⟩) (c2 : PySem.W.codeIn K cd2 "resolve" = true) (k2 : PySem.W.keepIn K (.ref f2) = true)
    {f3 : Addr} {od3 an3 : Option Addr} {sl3 : Array (Option Value)} {oc3 kV3 dc3 pm3 cd3 ct3 : Value}
    (a3 : PySem.W.nsIn K mainGlobals "same_binder" = some (some (.ref f3))) (l3 : K.lookup f3 = some ⟨oc3, od3, .func (PySem.W.fnOf "same_binder" "same_binder" (defArgs st_same_binder) (defBody st_same_binder) (defScope st_same_binder) .none kV3 dc3 pm3 an3 cd3 ct3), sl3⟩) (c3 : PySem.W.codeIn K cd3 "same_binder" = true) (k3 : PySem.W.keepIn K (.ref f3) = true)
    {f4 : Addr} {od4 an4 : Option Addr} {sl4 : Array (Option Value)} {oc4 kV4 dc4 pm4 cd4 ct4 : Value}
    (a4 : PySem.W.nsIn K mainGlobals "same_outcomes" = some (some (.ref f4))) (l4 : K.lookup f4 = some ⟨oc4, od4, .func (PySem.W.fnOf "same_outcomes" "same_outcomes" (defArgs st_same_outcomes) (defBody st_same_outcomes) (defScope st_same_outcomes) .none kV4 dc4 pm4 an4 cd4 ct4), sl4⟩) (c4 : PySem.W.codeIn K cd4 "same_outcomes" = true) (k4 : PySem.W.keepIn K (.ref f4) = true)
    {f5 : Addr} {od5 an5 : Option Addr} {sl5 : Array (Option Value)} {oc5 kV5 dc5 pm5 cd5 ct5 : Value}
    (a5 : PySem.W.nsIn K mainGlobals "same_reference" = some (some (.ref f5))) (l5 : K.lookup f5 = some ⟨oc5, od5, .func (PySem.W.fnOf "same_reference" "same_reference" (defArgs st_same_reference) (defBody st_same_reference) (defScope st_same_reference) .none kV5 dc5 pm5 an5 cd5 ct5), sl5⟩) (c5 : PySem.W.codeIn K cd5 "same_reference" = true) (k5 : PySem.W.keepIn K (.ref f5) = true)
    {f6 : Addr} {od6 an6 : Option Addr} {sl6 : Array (Option Value)} {oc6 kV6 dc6 pm6 cd6 ct6 : Value}
    (a6 : PySem.W.nsIn K mainGlobals "judge_outcome" = some (some (.ref f6))) (l6 : K.lookup f6 = some ⟨oc6, od6, .func (PySem.W.fnOf "judge_outcome" "judge_outcome" (defArgs st_judge_outcome) (defBody st_judge_outcome) (defScope st_judge_outcome) .none kV6 dc6 pm6 an6 cd6 ct6), sl6⟩) (c6 : PySem.W.codeIn K cd6 "judge_outcome" = true) (k6 : PySem.W.keepIn K (.ref f6) = true)
    {f7 : Addr} {od7 an7 : Option Addr} {sl7 : Array (Option Value)} {oc7 kV7 dc7 pm7 cd7 ct7 : Value}
    (a7 : PySem.W.nsIn K mainGlobals "_law_tape" = some (some (.ref f7))) (l7 : K.lookup f7 = some ⟨oc7, od7, .func (PySem.W.fnOf "_law_tape" "_law_tape" (defArgs st__law_tape) (defBody st__law_tape) (defScope st__law_tape) .none kV7 dc7 pm7 an7 cd7 ct7), sl7⟩) (c7 : PySem.W.codeIn K cd7 "_law_tape" = true) (k7 : PySem.W.keepIn K (.ref f7) = true)
    {f8 : Addr} {od8 an8 : Option Addr} {sl8 : Array (Option Value)} {oc8 kV8 dc8 pm8 cd8 ct8 : Value}
    (a8 : PySem.W.nsIn K mainGlobals "_law_take" = some (some (.ref f8))) (l8 : K.lookup f8 = some ⟨oc8, od8, .func (PySem.W.fnOf "_law_take" "_law_take" (defArgs st__law_take) (defBody st__law_take) (defScope st__law_take) .none kV8 dc8 pm8 an8 cd8 ct8), sl8⟩) (c8 : PySem.W.codeIn K cd8 "_law_take" = true) (k8 : PySem.W.keepIn K (.ref f8) = true)
    {f9 : Addr} {od9 an9 : Option Addr} {sl9 : Array (Option Value)} {oc9 kV9 dc9 pm9 cd9 ct9 : Value}
    (a9 : PySem.W.nsIn K mainGlobals "_law_is_integer" = some (some (.ref f9))) (l9 : K.lookup f9 = some ⟨oc9, od9, .func (PySem.W.fnOf "_law_is_integer" "_law_is_integer" (defArgs st__law_is_integer) (defBody st__law_is_integer) (defScope st__law_is_integer) .none kV9 dc9 pm9 an9 cd9 ct9), sl9⟩) (c9 : PySem.W.codeIn K cd9 "_law_is_integer" = true) (k9 : PySem.W.keepIn K (.ref f9) = true)
    {f10 : Addr} {od10 an10 : Option Addr} {sl10 : Array (Option Value)} {oc10 kV10 dc10 pm10 cd10 ct10 : Value}
    (a10 : PySem.W.nsIn K mainGlobals "_law_same_items" = some (some (.ref f10))) (l10 : K.lookup f10 = some ⟨oc10, od10, .func (PySem.W.fnOf "_law_same_items" "_law_same_items" (defArgs st__law_same_items) (defBody st__law_same_items) (defScope st__law_same_items) .none kV10 dc10 pm10 an10 cd10 ct10), sl10⟩) (c10 : PySem.W.codeIn K cd10 "_law_same_items" = true) (k10 : PySem.W.keepIn K (.ref f10) = true)
    {f11 : Addr} {od11 an11 : Option Addr} {sl11 : Array (Option Value)} {oc11 kV11 dc11 pm11 cd11 ct11 : Value}
    (a11 : PySem.W.nsIn K mainGlobals "_law_same" = some (some (.ref f11))) (l11 : K.lookup f11 = some ⟨oc11, od11, .func (PySem.W.fnOf "_law_same" "_law_same" (defArgs st__law_same) (defBody st__law_same) (defScope st__law_same) .none kV11 dc11 pm11 an11 cd11 ct11), sl11⟩) (c11 : PySem.W.codeIn K cd11 "_law_same" = true) (k11 : PySem.W.keepIn K (.ref f11) = true)
    {f12 : Addr} {od12 an12 : Option Addr} {sl12 : Array (Option Value)} {oc12 kV12 dc12 pm12 cd12 ct12 : Value}
    (a12 : PySem.W.nsIn K mainGlobals "_law_set" = some (some (.ref f12))) (l12 : K.lookup f12 = some ⟨oc12, od12, .func (PySem.W.fnOf "_law_set" "_law_set" (defArgs st__law_set) (defBody st__law_set) (defScope st__law_set) .none kV12 dc12 pm12 an12 cd12 ct12), sl12⟩) (c12 : PySem.W.codeIn K cd12 "_law_set" = true) (k12 : PySem.W.keepIn K (.ref f12) = true)
    {f13 : Addr} {od13 an13 : Option Addr} {sl13 : Array (Option Value)} {oc13 kV13 dc13 pm13 cd13 ct13 : Value}
    (a13 : PySem.W.nsIn K mainGlobals "_law_table" = some (some (.ref f13))) (l13 : K.lookup f13 = some ⟨oc13, od13, .func (PySem.W.fnOf "_law_table" "_law_table" (defArgs st__law_table) (defBody st__law_table) (defScope st__law_table) .none kV13 dc13 pm13 an13 cd13 ct13), sl13⟩) (c13 : PySem.W.codeIn K cd13 "_law_table" = true) (k13 : PySem.W.keepIn K (.ref f13) = true)
    {f14 : Addr} {od14 an14 : Option Addr} {sl14 : Array (Option Value)} {oc14 kV14 dc14 pm14 cd14 ct14 : Value}
    (a14 : PySem.W.nsIn K mainGlobals "_law_includes" = some (some (.ref f14))) (l14 : K.lookup f14 = some ⟨oc14, od14, .func (PySem.W.fnOf "_law_includes" "_law_includes" (defArgs st__law_includes) (defBody st__law_includes) (defScope st__law_includes) .none kV14 dc14 pm14 an14 cd14 ct14), sl14⟩) (c14 : PySem.W.codeIn K cd14 "_law_includes" = true) (k14 : PySem.W.keepIn K (.ref f14) = true)
    {f15 : Addr} {od15 an15 : Option Addr} {sl15 : Array (Option Value)} {oc15 kV15 dc15 pm15 cd15 ct15 : Value}
    (a15 : PySem.W.nsIn K mainGlobals "_law_outcome" = some (some (.ref f15))) (l15 : K.lookup f15 = some ⟨oc15, od15, .func (PySem.W.fnOf "_law_outcome" "_law_outcome" (defArgs st__law_outcome) (defBody st__law_outcome) (defScope st__law_outcome) .none kV15 dc15 pm15 an15 cd15 ct15), sl15⟩) (c15 : PySem.W.codeIn K cd15 "_law_outcome" = true) (k15 : PySem.W.keepIn K (.ref f15) = true)
    {f16 : Addr} {od16 an16 : Option Addr} {sl16 : Array (Option Value)} {oc16 kV16 dc16 pm16 cd16 ct16 : Value}
    (a16 : PySem.W.nsIn K mainGlobals "_law_same_reference" = some (some (.ref f16))) (l16 : K.lookup f16 = some ⟨oc16, od16, .func (PySem.W.fnOf "_law_same_reference" "_law_same_reference" (defArgs st__law_same_reference) (defBody st__law_same_reference) (defScope st__law_same_reference) .none kV16 dc16 pm16 an16 cd16 ct16), sl16⟩) (c16 : PySem.W.codeIn K cd16 "_law_same_reference" = true) (k16 : PySem.W.keepIn K (.ref f16) = true)
    {f17 : Addr} {od17 an17 : Option Addr} {sl17 : Array (Option Value)} {oc17 kV17 dc17 pm17 cd17 ct17 : Value}
    (a17 : PySem.W.nsIn K mainGlobals "_law_identifier" = some (some (.ref f17))) (l17 : K.lookup f17 = some ⟨oc17, od17, .func (PySem.W.fnOf "_law_identifier" "_law_identifier" (defArgs st__law_identifier) (defBody st__law_identifier) (defScope st__law_identifier) .none kV17 dc17 pm17 an17 cd17 ct17), sl17⟩) (c17 : PySem.W.codeIn K cd17 "_law_identifier" = true) (k17 : PySem.W.keepIn K (.ref f17) = true)
    {f18 : Addr} {od18 an18 : Option Addr} {sl18 : Array (Option Value)} {oc18 kV18 dc18 pm18 cd18 ct18 : Value}
    (a18 : PySem.W.nsIn K mainGlobals "law" = some (some (.ref f18))) (l18 : K.lookup f18 = some ⟨oc18, od18, .func (PySem.W.fnOf "law" "law" (defArgs st_law) (defBody st_law) (defScope st_law) .none kV18 dc18 pm18 an18 cd18 ct18), sl18⟩) (c18 : PySem.W.codeIn K cd18 "law" = true) (k18 : PySem.W.keepIn K (.ref f18) = true)
    (z0 : PySem.W.nsIn K mainGlobals "len" = some none)
    (z1 : PySem.W.nsIn K mainGlobals "all" = some none)
    (z2 : PySem.W.nsIn K mainGlobals "any" = some none)
    (z3 : PySem.W.nsIn K mainGlobals "enumerate" = some none)
    (z4 : PySem.W.nsIn K mainGlobals "int" = some none)
    (z5 : PySem.W.nsIn K mainGlobals "abs" = some none)
    (z6 : PySem.W.nsIn K mainGlobals "isinstance" = some none)
    (z7 : PySem.W.nsIn K mainGlobals "bool" = some none)
    (z8 : PySem.W.nsIn K mainGlobals "range" = some none)
    (z9 : PySem.W.nsIn K mainGlobals "str" = some none)
    (z10 : PySem.W.nsIn K mainGlobals "tuple" = some none)
    (z11 : PySem.W.nsIn K mainGlobals "list" = some none)
    (z12 : PySem.W.nsIn K mainGlobals "dict" = some none)
    (z13 : PySem.W.nsIn K mainGlobals "sorted" = some none)
    : Top K mg where
  D_is_within := ⟨_, _, fun_mk (st := st_is_within) l0 c0 k0, PySem.W.mg_of X G a0, (fun_mk (st := st_is_within) l0 c0 k0).binds (ps := ["scopes", "others"]) fun _ _ _ _ _ _ us hl => match us, hl with | [_, _], _ => rfl⟩
  D_resolve_among := ⟨_, _, fun_mk (st := st_resolve_among) l1 c1 k1, PySem.W.mg_of X G a1, (fun_mk (st := st_resolve_among) l1 c1 k1).binds (ps := ["named", "phase", "scopes"]) fun _ _ _ _ _ _ us hl => match us, hl with | [_, _, _], _ => rfl⟩
  D_resolve := ⟨_, _, fun_mk (st := st_resolve) l2 c2 k2, PySem.W.mg_of X G a2, (fun_mk (st := st_resolve) l2 c2 k2).binds (ps := ["table", "phase", "identifier"]) fun _ _ _ _ _ _ us hl => match us, hl with | [_, _, _], _ => rfl⟩
  D_same_binder := ⟨_, _, fun_mk (st := st_same_binder) l3 c3 k3, PySem.W.mg_of X G a3, (fun_mk (st := st_same_binder) l3 c3 k3).binds (ps := ["first", "second"]) fun _ _ _ _ _ _ us hl => match us, hl with | [_, _], _ => rfl⟩
  D_same_outcomes := ⟨_, _, fun_mk (st := st_same_outcomes) l4 c4 k4, PySem.W.mg_of X G a4, (fun_mk (st := st_same_outcomes) l4 c4 k4).binds (ps := ["first", "second", "table"]) fun _ _ _ _ _ _ us hl => match us, hl with | [_, _, _], _ => rfl⟩
  D_same_reference := ⟨_, _, fun_mk (st := st_same_reference) l5 c5 k5, PySem.W.mg_of X G a5, (fun_mk (st := st_same_reference) l5 c5 k5).binds (ps := ["table", "phase", "first", "second"]) fun _ _ _ _ _ _ us hl => match us, hl with | [_, _, _, _], _ => rfl⟩
  D_judge_outcome := ⟨_, _, fun_mk (st := st_judge_outcome) l6 c6 k6, PySem.W.mg_of X G a6, (fun_mk (st := st_judge_outcome) l6 c6 k6).binds (ps := ["table", "phase", "identifier", "told"]) fun _ _ _ _ _ _ us hl => match us, hl with | [_, _, _, _], _ => rfl⟩
  D__law_tape := ⟨_, _, fun_mk (st := st__law_tape) l7 c7 k7, PySem.W.mg_of X G a7, (fun_mk (st := st__law_tape) l7 c7 k7).binds (ps := ["script"]) fun _ _ _ _ _ _ us hl => match us, hl with | [_], _ => rfl⟩
  D__law_take := ⟨_, _, fun_mk (st := st__law_take) l8 c8 k8, PySem.W.mg_of X G a8, (fun_mk (st := st__law_take) l8 c8 k8).binds (ps := ["tape", "many"]) fun _ _ _ _ _ _ us hl => match us, hl with | [_, _], _ => rfl⟩
  D__law_is_integer := ⟨_, _, fun_mk (st := st__law_is_integer) l9 c9 k9, PySem.W.mg_of X G a9, (fun_mk (st := st__law_is_integer) l9 c9 k9).binds (ps := ["actual"]) fun _ _ _ _ _ _ us hl => match us, hl with | [_], _ => rfl⟩
  D__law_same_items := ⟨_, _, fun_mk (st := st__law_same_items) l10 c10 k10, PySem.W.mg_of X G a10, (fun_mk (st := st__law_same_items) l10 c10 k10).binds (ps := ["actual", "expected"]) fun _ _ _ _ _ _ us hl => match us, hl with | [_, _], _ => rfl⟩
  D__law_same := ⟨_, _, fun_mk (st := st__law_same) l11 c11 k11, PySem.W.mg_of X G a11, (fun_mk (st := st__law_same) l11 c11 k11).binds (ps := ["actual", "expected"]) fun _ _ _ _ _ _ us hl => match us, hl with | [_, _], _ => rfl⟩
  D__law_set := ⟨_, _, fun_mk (st := st__law_set) l12 c12 k12, PySem.W.mg_of X G a12, (fun_mk (st := st__law_set) l12 c12 k12).binds (ps := ["tape", "much"]) fun _ _ _ _ _ _ us hl => match us, hl with | [_, _], _ => rfl⟩
  D__law_table := ⟨_, _, fun_mk (st := st__law_table) l13 c13 k13, PySem.W.mg_of X G a13, (fun_mk (st := st__law_table) l13 c13 k13).binds (ps := ["tape"]) fun _ _ _ _ _ _ us hl => match us, hl with | [_], _ => rfl⟩
  D__law_includes := ⟨_, _, fun_mk (st := st__law_includes) l14 c14 k14, PySem.W.mg_of X G a14, (fun_mk (st := st__law_includes) l14 c14 k14).binds (ps := ["outer", "inner"]) fun _ _ _ _ _ _ us hl => match us, hl with | [_, _], _ => rfl⟩
  D__law_outcome := ⟨_, _, fun_mk (st := st__law_outcome) l15 c15 k15, PySem.W.mg_of X G a15, (fun_mk (st := st__law_outcome) l15 c15 k15).binds (ps := ["table", "phase", "identifier"]) fun _ _ _ _ _ _ us hl => match us, hl with | [_, _, _], _ => rfl⟩
  D__law_same_reference := ⟨_, _, fun_mk (st := st__law_same_reference) l16 c16 k16, PySem.W.mg_of X G a16, (fun_mk (st := st__law_same_reference) l16 c16 k16).binds (ps := ["table", "phase", "first", "second"]) fun _ _ _ _ _ _ us hl => match us, hl with | [_, _, _, _], _ => rfl⟩
  D__law_identifier := ⟨_, _, fun_mk (st := st__law_identifier) l17 c17 k17, PySem.W.mg_of X G a17, (fun_mk (st := st__law_identifier) l17 c17 k17).binds (ps := ["tape"]) fun _ _ _ _ _ _ us hl => match us, hl with | [_], _ => rfl⟩
  D_law := ⟨_, _, fun_mk (st := st_law) l18 c18 k18, PySem.W.mg_of X G a18, (fun_mk (st := st_law) l18 c18 k18).binds (ps := ["script"]) fun _ _ _ _ _ _ us hl => match us, hl with | [_], _ => rfl⟩
  z_len := PySem.W.mg_none_of X G z0
  z_all := PySem.W.mg_none_of X G z1
  z_any := PySem.W.mg_none_of X G z2
  z_enumerate := PySem.W.mg_none_of X G z3
  z_int := PySem.W.mg_none_of X G z4
  z_abs := PySem.W.mg_none_of X G z5
  z_isinstance := PySem.W.mg_none_of X G z6
  z_bool := PySem.W.mg_none_of X G z7
  z_range := PySem.W.mg_none_of X G z8
  z_str := PySem.W.mg_none_of X G z9
  z_tuple := PySem.W.mg_none_of X G z10
  z_list := PySem.W.mg_none_of X G z11
  z_dict := PySem.W.mg_none_of X G z12
  z_sorted := PySem.W.mg_none_of X G z13
  bl := fun s v => .of_eq rfl
theorem go_is_within (T : Top K mg) {k : Nat} {F : TF}  (hB : Body F 3 2 (t_is_within)) : FnD Pg w K mg base T.D_is_within (k + 1) F := ok_is_within T.D_is_within T.z_len T.z_all hB
theorem go_resolve_among (T : Top K mg) {k : Nat} {F : TF} {F_is_within : TF} {k_is_within : Nat} (G_is_within : FnD Pg w K mg base T.D_is_within k_is_within F_is_within) (h_is_within : k_is_within ≤ k) (hB : Body F 11 3 (t_resolve_among F_is_within)) : FnD Pg w K mg base T.D_resolve_among (k + 1) F := ok_resolve_among T.D_resolve_among T.z_any T.z_len T.D_is_within G_is_within h_is_within hB
theorem go_resolve (T : Top K mg) {k : Nat} {F : TF} {F_resolve_among : TF} {k_resolve_among : Nat} (G_resolve_among : FnD Pg w K mg base T.D_resolve_among k_resolve_among F_resolve_among) (h_resolve_among : k_resolve_among ≤ k) (hB : Body F 6 3 (t_resolve F_resolve_among)) : FnD Pg w K mg base T.D_resolve (k + 1) F := ok_resolve T.D_resolve T.z_enumerate T.D_resolve_among G_resolve_among h_resolve_among hB
theorem go_same_binder (T : Top K mg) {k : Nat} {F : TF}  (hB : Body F 2 2 (t_same_binder)) : FnD Pg w K mg base T.D_same_binder (k + 1) F := ok_same_binder T.D_same_binder hB
theorem go_same_outcomes (T : Top K mg) {k : Nat} {F : TF}  (hB : Body F 3 3 (t_same_outcomes)) : FnD Pg w K mg base T.D_same_outcomes (k + 1) F := ok_same_outcomes T.D_same_outcomes hB
theorem go_same_reference (T : Top K mg) {k : Nat} {F : TF} {F_resolve : TF} {k_resolve : Nat} (G_resolve : FnD Pg w K mg base T.D_resolve k_resolve F_resolve) (h_resolve : k_resolve ≤ k) {F_same_outcomes : TF} {k_same_outcomes : Nat} (G_same_outcomes : FnD Pg w K mg base T.D_same_outcomes k_same_outcomes F_same_outcomes) (h_same_outcomes : k_same_outcomes ≤ k) (hB : Body F 6 4 (t_same_reference F_resolve F_same_outcomes)) : FnD Pg w K mg base T.D_same_reference (k + 1) F := ok_same_reference T.D_same_reference T.D_resolve G_resolve h_resolve T.D_same_outcomes G_same_outcomes h_same_outcomes hB
theorem go_judge_outcome (T : Top K mg) {k : Nat} {F : TF} {F_resolve : TF} {k_resolve : Nat} (G_resolve : FnD Pg w K mg base T.D_resolve k_resolve F_resolve) (h_resolve : k_resolve ≤ k) (hB : Body F 4 4 (t_judge_outcome F_resolve)) : FnD Pg w K mg base T.D_judge_outcome (k + 1) F := ok_judge_outcome T.D_judge_outcome T.D_resolve G_resolve h_resolve hB
theorem go__law_tape (T : Top K mg) {k : Nat} {F : TF}  (hB : Body F 4 1 (t__law_tape)) : FnD Pg w K mg base T.D__law_tape (k + 1) F := ok__law_tape T.D__law_tape T.z_int T.z_abs hB
theorem go__law_take (T : Top K mg) {k : Nat} {F : TF}  (hB : Body F 4 2 (t__law_take)) : FnD Pg w K mg base T.D__law_take (k + 1) F := ok__law_take T.D__law_take T.z_len T.z_int hB
theorem go__law_is_integer (T : Top K mg) {k : Nat} {F : TF}  (hB : Body F 1 1 (t__law_is_integer)) : FnD Pg w K mg base T.D__law_is_integer (k + 1) F := ok__law_is_integer T.D__law_is_integer T.z_int T.z_isinstance T.z_bool hB
theorem go__law_same_items (T : Top K mg) {k : Nat} {F : TF} {F__law_same : TF} {k__law_same : Nat} (G__law_same : FnD Pg w K mg base T.D__law_same k__law_same F__law_same) (h__law_same : k__law_same ≤ k) (hB : Body F 3 2 (t__law_same_items F__law_same)) : FnD Pg w K mg base T.D__law_same_items (k + 1) F := ok__law_same_items T.D__law_same_items T.z_len T.z_range T.D__law_same G__law_same h__law_same hB
theorem go__law_same (T : Top K mg) {k : Nat} {F : TF} {F__law_is_integer : TF} {k__law_is_integer : Nat} (G__law_is_integer : FnD Pg w K mg base T.D__law_is_integer k__law_is_integer F__law_is_integer) (h__law_is_integer : k__law_is_integer ≤ k) {F__law_same_items : TF} {k__law_same_items : Nat} (G__law_same_items : FnD Pg w K mg base T.D__law_same_items k__law_same_items F__law_same_items) (h__law_same_items : k__law_same_items ≤ k) {F__law_same : TF} {k__law_same : Nat} (G__law_same : FnD Pg w K mg base T.D__law_same k__law_same F__law_same) (h__law_same : k__law_same ≤ k) (hB : Body F 3 2 (t__law_same F__law_is_integer F__law_same_items F__law_same)) : FnD Pg w K mg base T.D__law_same (k + 1) F := ok__law_same T.D__law_same T.z_bool T.z_isinstance T.z_int T.z_str T.z_tuple T.z_list T.z_dict T.z_len T.D__law_is_integer G__law_is_integer h__law_is_integer T.D__law_same_items G__law_same_items h__law_same_items G__law_same h__law_same hB
theorem go__law_set (T : Top K mg) {k : Nat} {F : TF} {F__law_take : TF} {k__law_take : Nat} (G__law_take : FnD Pg w K mg base T.D__law_take k__law_take F__law_take) (h__law_take : k__law_take ≤ k) (hB : Body F 5 2 (t__law_set F__law_take)) : FnD Pg w K mg base T.D__law_set (k + 1) F := ok__law_set T.D__law_set T.z_range T.z_sorted T.z_tuple T.D__law_take G__law_take h__law_take hB
theorem go__law_table (T : Top K mg) {k : Nat} {F : TF} {F__law_take : TF} {k__law_take : Nat} (G__law_take : FnD Pg w K mg base T.D__law_take k__law_take F__law_take) (h__law_take : k__law_take ≤ k) {F__law_set : TF} {k__law_set : Nat} (G__law_set : FnD Pg w K mg base T.D__law_set k__law_set F__law_set) (h__law_set : k__law_set ≤ k) (hB : Body F 6 1 (t__law_table F__law_take F__law_set)) : FnD Pg w K mg base T.D__law_table (k + 1) F := ok__law_table T.D__law_table T.z_range T.D__law_take G__law_take h__law_take T.D__law_set G__law_set h__law_set hB
theorem go__law_includes (T : Top K mg) {k : Nat} {F : TF}  (hB : Body F 3 2 (t__law_includes)) : FnD Pg w K mg base T.D__law_includes (k + 1) F := ok__law_includes T.D__law_includes hB
theorem go__law_outcome (T : Top K mg) {k : Nat} {F : TF} {F__law_includes : TF} {k__law_includes : Nat} (G__law_includes : FnD Pg w K mg base T.D__law_includes k__law_includes F__law_includes) (h__law_includes : k__law_includes ≤ k) (hB : Body F 9 3 (t__law_outcome F__law_includes)) : FnD Pg w K mg base T.D__law_outcome (k + 1) F := ok__law_outcome T.D__law_outcome T.z_range T.z_len T.D__law_includes G__law_includes h__law_includes hB
theorem go__law_same_reference (T : Top K mg) {k : Nat} {F : TF} {F__law_outcome : TF} {k__law_outcome : Nat} (G__law_outcome : FnD Pg w K mg base T.D__law_outcome k__law_outcome F__law_outcome) (h__law_outcome : k__law_outcome ≤ k) (hB : Body F 6 4 (t__law_same_reference F__law_outcome)) : FnD Pg w K mg base T.D__law_same_reference (k + 1) F := ok__law_same_reference T.D__law_same_reference T.D__law_outcome G__law_outcome h__law_outcome hB
theorem go__law_identifier (T : Top K mg) {k : Nat} {F : TF} {F__law_take : TF} {k__law_take : Nat} (G__law_take : FnD Pg w K mg base T.D__law_take k__law_take F__law_take) (h__law_take : k__law_take ≤ k) {F__law_set : TF} {k__law_set : Nat} (G__law_set : FnD Pg w K mg base T.D__law_set k__law_set F__law_set) (h__law_set : k__law_set ≤ k) (hB : Body F 1 1 (t__law_identifier F__law_take F__law_set)) : FnD Pg w K mg base T.D__law_identifier (k + 1) F := ok__law_identifier T.D__law_identifier T.D__law_take G__law_take h__law_take T.D__law_set G__law_set h__law_set hB
theorem go_law (T : Top K mg) {k : Nat} {F : TF} {F__law_tape : TF} {k__law_tape : Nat} (G__law_tape : FnD Pg w K mg base T.D__law_tape k__law_tape F__law_tape) (h__law_tape : k__law_tape ≤ k) {F__law_table : TF} {k__law_table : Nat} (G__law_table : FnD Pg w K mg base T.D__law_table k__law_table F__law_table) (h__law_table : k__law_table ≤ k) {F__law_take : TF} {k__law_take : Nat} (G__law_take : FnD Pg w K mg base T.D__law_take k__law_take F__law_take) (h__law_take : k__law_take ≤ k) {F__law_identifier : TF} {k__law_identifier : Nat} (G__law_identifier : FnD Pg w K mg base T.D__law_identifier k__law_identifier F__law_identifier) (h__law_identifier : k__law_identifier ≤ k) {F__law_outcome : TF} {k__law_outcome : Nat} (G__law_outcome : FnD Pg w K mg base T.D__law_outcome k__law_outcome F__law_outcome) (h__law_outcome : k__law_outcome ≤ k) {F_resolve : TF} {k_resolve : Nat} (G_resolve : FnD Pg w K mg base T.D_resolve k_resolve F_resolve) (h_resolve : k_resolve ≤ k) {F__law_same : TF} {k__law_same : Nat} (G__law_same : FnD Pg w K mg base T.D__law_same k__law_same F__law_same) (h__law_same : k__law_same ≤ k) {F_judge_outcome : TF} {k_judge_outcome : Nat} (G_judge_outcome : FnD Pg w K mg base T.D_judge_outcome k_judge_outcome F_judge_outcome) (h_judge_outcome : k_judge_outcome ≤ k) {F_same_binder : TF} {k_same_binder : Nat} (G_same_binder : FnD Pg w K mg base T.D_same_binder k_same_binder F_same_binder) (h_same_binder : k_same_binder ≤ k) {F_same_reference : TF} {k_same_reference : Nat} (G_same_reference : FnD Pg w K mg base T.D_same_reference k_same_reference F_same_reference) (h_same_reference : k_same_reference ≤ k) {F__law_same_reference : TF} {k__law_same_reference : Nat} (G__law_same_reference : FnD Pg w K mg base T.D__law_same_reference k__law_same_reference F__law_same_reference) (h__law_same_reference : k__law_same_reference ≤ k) (hB : Body F 10 1 (t_law F__law_tape F__law_table F__law_take F__law_identifier F__law_outcome F_resolve F__law_same F_judge_outcome F_same_binder F_same_reference F__law_same_reference)) : FnD Pg w K mg base T.D_law (k + 1) F := ok_law T.D_law T.z_range T.z_list T.z_tuple T.D__law_tape G__law_tape h__law_tape T.D__law_table G__law_table h__law_table T.D__law_take G__law_take h__law_take T.D__law_identifier G__law_identifier h__law_identifier T.D__law_outcome G__law_outcome h__law_outcome T.D_resolve G_resolve h_resolve T.D__law_same G__law_same h__law_same T.D_judge_outcome G_judge_outcome h_judge_outcome T.D_same_binder G_same_binder h_same_binder T.D_same_reference G_same_reference h_same_reference T.D__law_same_reference G__law_same_reference h__law_same_reference hB
end
end Y
namespace Y
open PySem PySem.Spec L2
/-! ### the tape -/
def tapeD (cells : List Int) (at_ left seed salt : Int) : List (Key × D) := [(.inr "cells", .lst (cells.map .int)), (.inr "at", .int at_), (.inr "left", .int left), (.inr "seed", .int seed), (.inr "salt", .int salt)]
structure Tape (n : Int) (cells : List Int) (at_ left seed salt : Int) : Prop where
  pos : ∀ c ∈ cells, 0 ≤ c
  a0 : 0 ≤ at_
  a1 : at_ ≤ cells.length
  l0 : 0 ≤ left
  s0 : 0 ≤ seed
  s1 : seed < 2147483647
  t0 : 0 ≤ salt
  t1 : salt ≤ n
def TapeOk (n : Int) (kv : List (Key × D)) : Prop := ∃ cells at_ left seed salt, kv = tapeD cells at_ left seed salt ∧ Tape n cells at_ left seed salt
theorem TapeOk.le {n m : Int} {kv : List (Key × D)} (h : TapeOk n kv) (l : n ≤ m) : TapeOk m kv := by
  obtain ⟨c, a, b, d, e, rfl, t⟩ := h
  exact ⟨c, a, b, d, e, rfl, ⟨t.pos, t.a0, t.a1, t.l0, t.s0, t.s1, t.t0, Int.le_trans t.t1 l⟩⟩
section
variable {cells : List Int} {at_ left seed salt : Int}
theorem tg_cells : getK (tapeD cells at_ left seed salt) (.inr "cells") = some (.lst (cells.map .int)) := rfl
theorem tg_at : getK (tapeD cells at_ left seed salt) (.inr "at") = some (.int at_) := rfl
theorem tg_left : getK (tapeD cells at_ left seed salt) (.inr "left") = some (.int left) := rfl
theorem tg_seed : getK (tapeD cells at_ left seed salt) (.inr "seed") = some (.int seed) := rfl
theorem tg_salt : getK (tapeD cells at_ left seed salt) (.inr "salt") = some (.int salt) := rfl
theorem tp_at (x : Int) : putD (tapeD cells at_ left seed salt) (.inr "at") (.int x) = tapeD cells x left seed salt := rfl
theorem tp_left (x : Int) : putD (tapeD cells at_ left seed salt) (.inr "left") (.int x) = tapeD cells at_ x seed salt := rfl
theorem tp_salt (x : Int) : putD (tapeD cells at_ left seed salt) (.inr "salt") (.int x) = tapeD cells at_ left seed x := rfl
end
end Y
namespace Y
set_option hygiene false
open PySem PySem.Spec L2
local macro_rules | `(tactic| walk_at "y") => `(tactic| dsimp only [sNil, sBk, sCt, sDrop, sIf, asg, sAsg, sRet, sRetN, tIm, tNm, tBin, w2, vw, Sl.m?, tTst, tTru, M.tru, tAndQ, tOrQ, tNotQ, tAndX, tOrX, tNotX, tIfX, lNil, lCons, tFrz, froz, tTp, tLs, tCl, vws, tMt, Sl.m!, Sl.up, M.res, gLen, gInt, gAdd, gSub, gMul, gDiv, gMod, gPow, gII, gI0, gEqs, gEqs2, gIx, gPop, gApp, gRev, gExt, gTuple, gList, gDict, gIs, gIsi, gAll, gIns, gSorted, gSl, M.lq?, M.lst?, M.sq?, M.dat?, M.isNon, gLt, gLe, gGt, gGe, sFor, iSeq, srcOf, iEnm, enmOf, iRg1, iRg2, bnd, setAll, backS, Sl.isP, tSlc, pNo, pSo, sSetI, hasM, setM, tDspK, tDspT, pairG, D.key?, D.keys?, D.tkey?, putAll, tNewK, tNewT, tNeg, sUnp, tCall, argMs, argM, argS, slots, putB, stepB, putS_lo_ls_ls, putS_lo_ls_dk, putS_lo_ls_dt, putS_lo_ls_no, putS_pa_ls_ls, putS_pa_ls_dk, putS_pa_ls_dt, putS_pa_ls_no, putS_lo_rd_ls, putS_lo_rd_dk, putS_lo_rd_dt, putS_lo_rd_no, putS_pa_rd_ls, putS_pa_rd_dk, putS_pa_rd_dt, putS_pa_rd_no, putS_lo_dk_ls, putS_lo_dk_dk, putS_lo_dk_dt, putS_lo_dk_no, putS_pa_dk_ls, putS_pa_dk_dk, putS_pa_dk_dt, putS_pa_dk_no, putS_lo_dt_ls, putS_lo_dt_dk, putS_lo_dt_dt, putS_lo_dt_no, putS_pa_dt_ls, putS_pa_dt_dk, putS_pa_dt_dt, putS_pa_dt_no, putS_lo_im, putS_lo_sq, putS_pa_im, putS_pa_sq, M.own, M.fit, fins, Sl.fin, envOf, tLcX, compL, wipeE, restE, keepS, qYes, kD, dGet, List.getElem?_cons_zero, List.getElem?_cons_succ, List.getElem?_nil, List.set_cons_zero, List.set_cons_succ, List.map_cons, List.map_nil, List.take_succ_cons, List.take_zero, List.length_cons, List.length_nil, List.head?_cons, List.tail_cons, Option.join_some, List.cons_append, List.nil_append, List.replicate, tg_cells, tg_at, tg_left, tg_seed, tg_salt, tp_at, tp_left, tp_salt])
local macro_rules | `(tactic| walk_at "n") => `(tactic| ((try dsimp only); refine seq_step fun R hR => ?_; walk_at "y"))
local macro_rules | `(tactic| walk_at "i") => `(tactic| simp only [Bool.false_xor, Bool.true_xor, Bool.not_true, Bool.not_false, Bool.false_eq_true, reduceIte, isiT, M.ty, String.reduceBEq, Bool.or_false, Bool.false_or, Bool.and_false, Bool.and_true, Bool.true_and, Bool.false_and, Bool.or_true, List.mem_cons, true_or, or_true, true_and, and_true, String.reduceEq, decide_true, decide_false])
local macro_rules | `(tactic| walk_at "s") => `(tactic| (subst hR; walk_at "n"))
local macro_rules | `(tactic| walk_at "z") => `(tactic| (simp only [List.map_cons, List.map_nil, atI_c0, atI_c1, atI_c2, atI_c3, atI_c4, atI_c5]; (try walk_at "y")))
def F_take : TF := fun ms G => ∃ (kv : List (Key × D)) (many n : Int), ms = [.dk kv, .im (.int many)] ∧ 0 < many ∧ many < 1000000 ∧ n ≤ 100000 ∧ TapeOk n kv ∧
  ∀ (r : Int) (kv' : List (Key × D)), 0 ≤ r → r < many → TapeOk (n + 1) kv' → G (.im (.int r)) [some (.dk kv'), some (.im (.int many))]
theorem body_take : Body F_take 4 2 t__law_take := by
  rintro ms G hl ⟨kv, many, n, rfl, h0, h1, hn, ⟨cells, at_, left, seed, salt, rfl, T⟩, q⟩
  show t__law_take _ [Sl.pa (.dk (tapeD cells at_ left seed salt)), Sl.pa (.im (.int many)), .no, .no]
  unfold t__law_take
  walk_at "n"
  have go : ∀ at_ left, Tape n cells at_ left seed salt → R [Sl.pa (.dk (tapeD cells at_ left seed salt)), Sl.pa (.im (.int many)), .no, .no] := by
    clear T
    intro at_ left T
    have tl : (tapeD cells at_ left seed salt).length < sizeLine := by rw [sizeLine_eq]; show 5 < _; omega
    have := T.t0
    have := T.t1
    have := T.s0
    have := T.s1
    have := T.l0
    subst hR
    walk_at "n"
    by_cases hz : 0 < left
    · rw [if_pos (by simpa using hz)]
      walk_at "n"
      refine ⟨h0, ?_⟩
      subst hR
      walk_at "n"
      refine ⟨cDiv (by omega), trivial, tl, ?_⟩
      subst hR
      walk_at "y"
      exact q _ _ (Int.emod_nonneg _ (by omega)) (Int.emod_lt_of_pos _ h0) ⟨_, _, _, _, _, rfl, ⟨T.pos, T.a0, T.a1, Int.ediv_nonneg T.l0 (by omega), T.s0, T.s1, T.t0, by omega⟩⟩
    · rw [if_neg (by simpa using hz)]
      subst hR
      walk_at "n"
      refine ⟨trivial, tl, ?_⟩
      subst hR
      walk_at "n"
      refine ⟨cMul (by omega) (by omega), cMul (by omega) (by omega), by omega, ?_⟩
      generalize hm : (seed * 48271 + (salt + 1) * 69621) % 2147483647 = mx
      have x1 : 0 ≤ mx := by rw [← hm]; exact Int.emod_nonneg _ (by omega)
      have x2 : mx < 2147483647 := by rw [← hm]; exact Int.emod_lt_of_pos _ (by omega)
      subst hR
      walk_at "n"
      refine ⟨cMul (by omega) (by omega), cMul (by omega) (by omega), by omega, ?_⟩
      subst hR
      walk_at "y"
      exact ⟨h0, q _ _ (Int.emod_nonneg _ (by omega)) (Int.emod_lt_of_pos _ h0) ⟨_, _, _, _, _, rfl, ⟨T.pos, T.a0, T.a1, T.l0, T.s0, T.s1, by omega, by omega⟩⟩⟩
  by_cases hz : left = 0
  · rw [if_pos (by simpa using hz), List.length_map]
    by_cases ha : at_ < cells.length
    · rw [if_pos (by simpa using ha)]
      walk_at "n"
      obtain ⟨x, hx, hx2⟩ := atI_ok T.a0 ha
      have hx0 := T.pos x (List.mem_of_getElem? hx2)
      rw [atI_map, hx]
      have tl : (tapeD cells at_ left seed salt).length < sizeLine := by rw [sizeLine_eq]; show 5 < _; omega
      refine ⟨trivial, tl, ?_⟩
      rw [tp_left]
      subst hR
      walk_at "y"
      refine ⟨trivial, tl, ?_⟩
      exact go _ _ ⟨T.pos, by have := T.a0; omega, by omega, hx0, T.s0, T.s1, T.t0, T.t1⟩
    · rw [if_neg (by simpa using ha)]
      exact go _ _ T
  · rw [if_neg (by simpa using hz), if_neg (by decide)]
    exact go _ _ T
theorem loop_tape {P : EndP} {gd : Env → Prop} {s0 s1 : Sl} (hg : ∀ s2 s3, gd [s0, s1, s2, s3]) : ∀ (cs : List Int) (seed : Int) (s2 : Sl), 0 ≤ seed → seed < 2147483647 →
    (∀ (seed : Int) (s2 : Sl), 0 ≤ seed → seed < 2147483647 → P.nx [s0, s1, s2, .lo (.im (.int seed))]) → loopS (.one 2) b__law_tape_1 gd P (cs.map D.int) [s0, s1, s2, .lo (.im (.int seed))] := by
  intro cs
  induction cs with
  | nil => intro seed s2 h1 h2 q; exact ⟨hg _ _, q seed s2 h1 h2⟩
  | cons c cs ih =>
    intro seed s2 h1 h2 q
    refine loop_step (hg _ _) fun L hL => ?_
    unfold b__law_tape_1
    walk_at "y"
    refine ⟨cMul (by omega) (by omega), by omega, ?_⟩
    rw [hL]
    exact ih _ _ (Int.emod_nonneg _ (by omega)) (Int.emod_lt_of_pos _ (by omega)) q
def absI (i : Int) : Int := if i < 0 then -i else i
def F_tape : TF := fun ms G => ∃ ns : List Int, ms = [.sq (ns.map D.int)] ∧ ns.length ≤ 1000 ∧ ∀ kv fin, TapeOk 0 kv → G (.dk kv) fin
theorem body_tape : Body F_tape 4 1 t__law_tape := by
  rintro ms G hl ⟨ns, rfl, hn, q⟩
  show t__law_tape _ [Sl.pa (.sq (ns.map D.int)), .no, .no, .no]
  unfold t__law_tape
  walk_at "n"
  refine comp_fix D.int (fun i => some (.int (absI i))) trivial ns [] (fun i _ acc L hacc h => ?_) (by rw [sizeLine_eq]; simp; omega) ?_
  · walk_at "y"
    rw [if_pos rfl]
    exact ⟨hacc, h⟩
  · have e : [] ++ ns.filterMap (fun i => some (D.int (absI i))) = (ns.map absI).map D.int := by simp
    rw [e]
    subst hR
    walk_at "n"
    subst hR
    walk_at "n"
    refine ⟨rfl, fun v => ?_⟩
    refine loop_tape (fun s2 s3 => rfl) _ _ _ (by omega) (by omega) fun seed s2 h1 h2 => ⟨rfl, ?_⟩
    subst hR
    walk_at "y"
    refine ⟨by omega, ?_⟩
    refine q _ _ ⟨ns.map absI, 0, 0, seed, 0, rfl, ⟨fun c hc => ?_, by omega, by omega, by omega, h1, h2, by omega, by omega⟩⟩
    obtain ⟨i, _, rfl⟩ := List.mem_map.mp hc
    unfold absI; split <;> omega
/-! ### scopes -/
abbrev Sc := Int × Int
def scD (s : Sc) : D := .tup [.str "m", .int s.1, .int s.2]
theorem set_comp1 {k : List D → Env → Prop} {s1 : Sl} : ∀ (n : Nat) (lo : Int) (m : Int) (kv : List (Key × D)) (acc : List Sc), 0 ≤ m → m + n ≤ 100000 → TapeOk m kv → acc.Nodup → (∀ s ∈ acc, s.1 < lo) → acc.length + n ≤ 1000 →
    (∀ (acc' : List Sc) kv', acc'.Nodup → acc'.length = acc.length + n → TapeOk (m + n) kv' → k (acc'.map scD) [.pa (.dk kv'), s1, .no, .no, .no]) →
    compL (.one 3) qYes (tTp (lCons (tIm (.str "m")) (lCons (tNm 3) (lCons (tBin gDiv (tCall F_take 2 (lCons (tNm 0) (lCons (tIm (.int 7)) lNil))) (tIm (.int 6))) lNil)))) [3] (fun _ => True) k (gRng lo n) (acc.map scD) [.pa (.dk kv), s1, .no, .no, .no] := by
  intro n
  induction n with
  | zero => intro lo m kv acc h0 h1 h2 h3 h4 h5 q; exact ⟨trivial, q acc kv h3 rfl (by simpa using h2)⟩
  | succ n ih =>
    intro lo m kv acc h0 h1 h2 h3 h4 h5 q
    rw [gRng_succ]
    refine comp_step trivial fun L hL => ?_
    walk_at "y"
    rw [if_pos rfl]
    refine ⟨rfl, by simp, kv, 7, m, rfl, by omega, by omega, by omega, h2, fun r kv' r0 r1 t => ⟨rfl, ?_⟩⟩
    walk_at "y"
    refine ⟨cDiv (by omega), by rw [sizeLine_eq]; omega, by rw [List.length_map, sizeLine_eq]; omega, ?_⟩
    rw [show acc.map scD ++ [D.tup [D.str (Str.ofString "m"), D.int lo, D.int (r / 6)]] = (acc ++ [(lo, r / 6)]).map scD by simp [scD], hL]
    refine ih (lo + 1) (m + 1) kv' (acc ++ [(lo, r / 6)]) (by omega) (by omega) t (List.nodup_append.mpr ⟨h3, by simp, fun a ha b hb z => ?_⟩) (fun s hs => ?_) (by simp; omega) fun acc' kv2 g1 g2 g3 => q acc' kv2 g1 (by simp at g2; omega) (g3.le (by omega))
    · rw [List.mem_singleton.mp hb] at z
      have := h4 a ha
      rw [z] at this
      exact absurd this (Int.lt_irrefl _)
    · rcases List.mem_append.mp hs with hs | hs
      · have := h4 s hs; omega
      · rw [List.mem_singleton.mp hs]; show lo < lo + 1; omega
theorem set_comp2 {k : List D → Env → Prop} {much : Int} {s2 : Sl} {gd : Env → Prop} (hg : ∀ kv, gd [.pa (.dk kv), .pa (.im (.int much)), s2, .no, .no]) : ∀ (xs : List Sc) (m : Int) (kv : List (Key × D)) (acc : List Sc), 0 ≤ m → m + xs.length ≤ 100000 → TapeOk m kv → (acc ++ xs).Nodup → acc.length + xs.length ≤ 1000 →
    (∀ (acc' : List Sc) kv', acc'.Nodup → acc'.length ≤ 1000 → TapeOk (m + xs.length) kv' → k (acc'.map scD) [.pa (.dk kv'), .pa (.im (.int much)), s2, .no, .no]) →
    compL (.one 4) (tTst (tBin gLt (tCall F_take 2 (lCons (tNm 0) (lCons (tIm (.int 4)) lNil))) (tNm 1))) (tNm 4) [4] gd k (xs.map scD) (acc.map scD) [.pa (.dk kv), .pa (.im (.int much)), s2, .no, .no] := by
  intro xs
  induction xs with
  | nil => intro m kv acc h0 h1 h2 h3 h5 q; exact ⟨hg _, q acc kv (by simpa using h3) (by omega) (by simpa using h2)⟩
  | cons x xs ih =>
    intro m kv acc h0 h1 h2 h3 h5 q
    rw [List.length_cons] at h1 h5
    refine comp_step (hg _) fun L hL => ?_
    unfold scD
    walk_at "y"
    refine ⟨rfl, by simp, kv, 4, m, rfl, by omega, by omega, by omega, h2, fun r kv' r0 r1 t => ⟨rfl, ?_⟩⟩
    walk_at "y"
    have le : m + 1 + (xs.length : Int) = m + ((x :: xs).length : Int) := by rw [List.length_cons]; omega
    split
    · refine ⟨by rw [List.length_map, sizeLine_eq]; omega, ?_⟩
      rw [show List.map (fun s : Sc => D.tup [D.str (Str.ofString "m"), D.int s.1, D.int s.2]) acc ++ [D.tup [D.str (Str.ofString "m"), D.int x.1, D.int x.2]] = (acc ++ [x]).map scD by simp [scD], hL]
      exact ih (m + 1) kv' (acc ++ [x]) (by omega) (by omega) t (by rw [List.append_assoc]; exact h3) (by simp; omega) fun acc' kv2 g1 g2 g3 => q acc' kv2 g1 g2 (le ▸ g3)
    · rw [hL]
      refine ih (m + 1) kv' acc (by omega) (by omega) t ?_ (by omega) fun acc' kv2 g1 g2 g3 => q acc' kv2 g1 g2 (le ▸ g3)
      have e := List.nodup_append.mp h3
      exact List.nodup_append.mpr ⟨e.1, (List.nodup_cons.mp e.2.1).2, fun a ha b hb => e.2.2 a ha b (List.mem_cons_of_mem _ hb)⟩
theorem alike_sc (a b : Sc) : PySem.W.alike (scD a).py (scD b).py = true := by simp [scD, D.py, D.pys, PySem.W.alike, PySem.W.alikeAll]
theorem strOk_m : PyData.strOk (Str.ofString "m") = true := by decide +kernel
theorem ok_sc (a : Sc) : ∀ n, D.ok (n + 1) (scD a) = true := fun n => by simp [scD, D.ok, D.oks, strOk_m]
theorem oks_sc (S : List Sc) (n : Nat) : D.oks (n + 1) (S.map scD) = true := by
  rw [D.oks_all, List.all_eq_true]
  intro d hd
  obtain ⟨a, _, rfl⟩ := List.mem_map.mp hd
  exact ok_sc a n
theorem canSort_sc (S : List Sc) : CanSort (S.map scD) := by
  refine ⟨?_, ?_, ?_⟩
  · rw [List.map_map]; exact PySem.W.AllAlike.of fun b b' => alike_sc b b'
  · rw [List.map_map]; exact PySem.W.Sortable.tuples fun b => ⟨.str "m", [.int b.1, .int b.2], by simp [scD, D.py, D.pys]⟩
  · intro d hd
    obtain ⟨a, ha, rfl⟩ := List.mem_map.mp hd
    exact ok_sc a 63
def leSc (a b : Sc) : Bool := PySem.W.dataLe false (fun s : Sc => (scD s).py) a b
theorem leSc_total : PySem.W.TotalLe leSc := PySem.W.sortLe_total (PyProof.Rows.listOrd PyProof.Rows.itemOrd) false fun s : Sc => PySem.W.keyToks (scD s).py
def Srt (S : List Sc) : Prop := S.Pairwise fun a b => leSc a b = true
theorem sort_sc (S : List Sc) : ∃ T : List Sc, T.Perm S ∧ Srt T ∧ sortD (S.map scD) = T.map scD :=
  ⟨S.mergeSort leSc, List.mergeSort_perm _ _, PySem.W.sort_pairwise leSc_total _, (PySem.W.sort_maps scD fun _ _ _ _ => rfl).symm⟩
def F_set : TF := fun ms G => ∃ (kv : List (Key × D)) (much m : Int), ms = [.dk kv, .im (.int much)] ∧ 0 ≤ m ∧ m ≤ 90000 ∧ TapeOk m kv ∧
  ∀ (S : List Sc) (kv' : List (Key × D)), S.Nodup → Srt S → S.length ≤ 1000 → TapeOk (m + 12) kv' → G (.im (.tup (S.map scD))) [some (.dk kv'), some (.im (.int much))]
theorem body_set : Body F_set 5 2 (t__law_set F_take) := by
  rintro ms G hl ⟨kv, much, m, rfl, h0, h1, ht, q⟩
  show t__law_set _ _ [Sl.pa (.dk kv), Sl.pa (.im (.int much)), .no, .no, .no]
  unfold t__law_set
  walk_at "n"
  refine ⟨by decide, by decide, ?_⟩
  refine set_comp1 6 0 m kv [] h0 (by omega) ht (by simp) (by simp) (by simp) fun S kv1 g1 g2 g3 => ?_
  subst hR
  walk_at "y"
  refine ⟨rfl, fun v => ?_⟩
  refine set_comp2 (fun kv => rfl) S (m + 6) kv1 [] (by omega) (by simp at g2; omega) g3 (by simpa using g1) (by simp at g2 ⊢; omega) fun S2 kv2 e1 e2 e3 => ?_
  walk_at "y"
  obtain ⟨T, hp, hTs, hT⟩ := sort_sc S2
  rw [hT]
  refine ⟨canSort_sc S2, q T kv2 (hp.nodup_iff.mpr e1) hTs (by rw [hp.length_eq]; exact e2) (e3.le (by simp at g2; omega))⟩
end Y
namespace Y
set_option hygiene false
open PySem PySem.Spec L2
local macro_rules | `(tactic| walk_at "y") => `(tactic| dsimp only [sNil, sBk, sCt, sDrop, sIf, asg, sAsg, sRet, sRetN, tIm, tNm, tBin, w2, vw, Sl.m?, tTst, tTru, M.tru, tAndQ, tOrQ, tNotQ, tAndX, tOrX, tNotX, tIfX, lNil, lCons, tFrz, froz, tTp, tLs, tCl, vws, tMt, Sl.m!, Sl.up, M.res, gLen, gInt, gAdd, gSub, gMul, gDiv, gMod, gPow, gII, gI0, gEqs, gEqs2, gIx, gPop, gApp, gRev, gExt, gTuple, gList, gDict, gIs, gIsi, gAll, gIns, gSorted, gSl, M.lq?, M.lst?, M.sq?, M.dat?, M.isNon, gLt, gLe, gGt, gGe, sFor, iSeq, srcOf, iEnm, enmOf, iRg1, iRg2, bnd, setAll, backS, Sl.isP, tSlc, pNo, pSo, sSetI, hasM, setM, tDspK, tDspT, pairG, D.key?, D.keys?, D.tkey?, putAll, tNewK, tNewT, tNeg, sUnp, tCall, argMs, argM, argS, slots, putB, stepB, putS_lo_ls_ls, putS_lo_ls_dk, putS_lo_ls_dt, putS_lo_ls_no, putS_pa_ls_ls, putS_pa_ls_dk, putS_pa_ls_dt, putS_pa_ls_no, putS_lo_rd_ls, putS_lo_rd_dk, putS_lo_rd_dt, putS_lo_rd_no, putS_pa_rd_ls, putS_pa_rd_dk, putS_pa_rd_dt, putS_pa_rd_no, putS_lo_dk_ls, putS_lo_dk_dk, putS_lo_dk_dt, putS_lo_dk_no, putS_pa_dk_ls, putS_pa_dk_dk, putS_pa_dk_dt, putS_pa_dk_no, putS_lo_dt_ls, putS_lo_dt_dk, putS_lo_dt_dt, putS_lo_dt_no, putS_pa_dt_ls, putS_pa_dt_dk, putS_pa_dt_dt, putS_pa_dt_no, putS_lo_im, putS_lo_sq, putS_pa_im, putS_pa_sq, M.own, M.fit, fins, Sl.fin, envOf, tLcX, compL, wipeE, restE, keepS, qYes, kD, dGet, List.getElem?_cons_zero, List.getElem?_cons_succ, List.getElem?_nil, List.set_cons_zero, List.set_cons_succ, List.map_cons, List.map_nil, List.take_succ_cons, List.take_zero, List.length_cons, List.length_nil, List.head?_cons, List.tail_cons, Option.join_some, List.cons_append, List.nil_append, List.replicate, tg_cells, tg_at, tg_left, tg_seed, tg_salt, tp_at, tp_left, tp_salt])
local macro_rules | `(tactic| walk_at "n") => `(tactic| ((try dsimp only); refine seq_step fun R hR => ?_; walk_at "y"))
local macro_rules | `(tactic| walk_at "i") => `(tactic| simp only [Bool.false_xor, Bool.true_xor, Bool.not_true, Bool.not_false, Bool.false_eq_true, reduceIte, isiT, M.ty, String.reduceBEq, Bool.or_false, Bool.false_or, Bool.and_false, Bool.and_true, Bool.true_and, Bool.false_and, Bool.or_true, List.mem_cons, true_or, or_true, true_and, and_true, String.reduceEq, decide_true, decide_false])
local macro_rules | `(tactic| walk_at "s") => `(tactic| (subst hR; walk_at "n"))
local macro_rules | `(tactic| walk_at "z") => `(tactic| (simp only [List.map_cons, List.map_nil, atI_c0, atI_c1, atI_c2, atI_c3, atI_c4, atI_c5]; (try walk_at "y")))
theorem code_sc : Code scD := ⟨fun a => rfl, fun a b h => by
  obtain ⟨x, y⟩ := a
  obtain ⟨z, w⟩ := b
  simp [scD] at h
  rw [h.1, h.2]⟩
abbrev K3 := Int × Str × List Sc
def k3D (k : K3) : D := .tup [.int k.1, .str k.2.1, .tup (k.2.2.map scD)]
theorem code_k3 : Code k3D := ⟨fun a => by simp [k3D, D.std, D.stds, code_sc.stds], fun a b h => by
  obtain ⟨x, y, s⟩ := a
  obtain ⟨z, w, t⟩ := b
  simp only [k3D, D.tup.injEq, List.cons.injEq, D.int.injEq, D.str.injEq, and_true] at h
  rw [h.1, h.2.1, code_sc.inj_map h.2.2]⟩
inductive Tg where
  | loc (i : Int) | prim | top
  deriving DecidableEq
def tgD : Tg → D
  | .loc i => .tup [.str "local", .str "m", .int i]
  | .prim => .tup [.str "prim", .str "list"]
  | .top => .tup [.str "top", .str "m", .int 0, .int 1]
theorem code_tg : Code tgD := ⟨fun a => by cases a <;> rfl, fun a b h => by
  cases a <;> cases b <;> simp [tgD] at h
  · rw [h]
  · rfl
  · rfl⟩
structure Row where
  key : K3
  tg : Tg
abbrev Row.ph (r : Row) : Int := r.key.1
abbrev Row.nm (r : Row) : Str := r.key.2.1
abbrev Row.sc (r : Row) : List Sc := r.key.2.2
def rowD (r : Row) : D := .tup [.int r.ph, .str r.nm, .tup (r.sc.map scD), tgD r.tg]
structure RowOk (r : Row) : Prop where
  nd : r.sc.Nodup
  srt : Srt r.sc
  len : r.sc.length ≤ 1000
  ok : PyData.strOk r.nm = true
structure TabOk (t : List Row) : Prop where
  rows : ∀ r ∈ t, RowOk r
  nd : (t.map Row.key).Nodup
theorem ok_k3 {k : K3} (h : PyData.strOk k.2.1 = true) : ∀ n, D.ok (n + 3) (k3D k) = true := fun n => by
  simp only [k3D, D.ok, D.oks, h, oks_sc, Bool.and_true, Bool.true_and]
theorem table_loop {P : EndP} : ∀ (n : Nat) (lo m : Int) (kv : List (Key × D)) (t : List Row) (s3 s4 s5 : Sl), 0 ≤ m → m + 20 * n ≤ 80000 → TapeOk m kv → TabOk t → t.length + n ≤ 1000 →
    (∀ (t' : List Row) kv' s3 s4 s5, TabOk t' → t'.length ≤ t.length + n → TapeOk (m + 20 * n) kv' → P.nx [.pa (.dk kv'), .lo (.ls (t'.map rowD)), .lo (.ls ((t'.map Row.key).map k3D)), s3, s4, s5]) →
    loopS (.one 3) (b__law_table_1 F_take F_set) (fun _ => True) P (gRng lo n) [.pa (.dk kv), .lo (.ls (t.map rowD)), .lo (.ls ((t.map Row.key).map k3D)), s3, s4, s5] := by
  intro n
  induction n with
  | zero => intro lo m kv t s3 s4 s5 h0 h1 h2 h3 h4 q; exact ⟨trivial, q t kv s3 s4 s5 h3 (by omega) (by simpa using h2)⟩
  | succ n ih =>
    intro lo m kv t s3 s4 s5 h0 h1 h2 h3 h4 q
    rw [gRng_succ]
    refine loop_step trivial fun L hL => ?_
    unfold b__law_table_1
    walk_at "y"
    walk_at "n"
    refine ⟨rfl, by simp, kv, 5, m, rfl, by omega, by omega, by omega, h2, fun r kv1 r0 r1 t1 => ⟨rfl, ?_⟩⟩
    walk_at "y"
    refine ⟨cDiv (by omega), by rw [sizeLine_eq]; omega, rfl, by simp, kv1, 5, m + 1, rfl, by omega, by omega, by omega, t1, fun r2 kv2 q0 q1 t2 => ⟨rfl, ?_⟩⟩
    walk_at "y"
    refine ⟨cDiv (by omega), ?_⟩
    obtain ⟨nm, hnm, hok⟩ : ∃ nm : Str, atI [D.str (Str.ofString "x"), D.str (Str.ofString "y")] (r2 / 4) = some (D.str nm) ∧ PyData.strOk nm = true := by
      have : r2 / 4 = 0 ∨ r2 / 4 = 1 := by omega
      rcases this with h | h
      · rw [h]; exact ⟨"x", rfl, by decide +kernel⟩
      · rw [h]; exact ⟨"y", rfl, by decide +kernel⟩
    rw [hnm]
    refine ⟨rfl, by simp, kv2, 2, m + 1 + 1, rfl, by omega, by omega, by omega, t2, fun r3 kv3 p0 p1 t3 => ⟨rfl, ?_⟩⟩
    walk_at "y"
    refine ⟨rfl, by simp, kv3, 1 + r3, m + 1 + 1 + 1, rfl, by omega, by omega, t3, fun S kv4 hS hSs hSl t4 => ⟨rfl, ?_⟩⟩
    walk_at "y"
    refine ⟨by rw [sizeLine_eq]; omega, ?_⟩
    rw [show D.tup [D.int (r / 2), D.str nm, D.tup (S.map scD)] = k3D (r / 2, nm, S) from rfl]
    generalize hk : ((r / 2, nm, S) : K3) = ky
    have hkok : PyData.strOk ky.2.1 = true := by rw [← hk]; exact hok
    have hknd : ky.2.2.Nodup ∧ Srt ky.2.2 ∧ ky.2.2.length ≤ 1000 := by rw [← hk]; exact ⟨hS, hSs, hSl⟩
    subst hR
    walk_at "y"
    rw [code_k3.any, Bool.true_xor]
    have lem : (m + 1 + 1 + 1 + 12 + 1 + 1 : Int) ≤ m + 20 := by omega
    have keysok : ∀ r ∈ t, PyData.strOk r.key.2.1 = true := fun r hr => (h3.rows r hr).ok
    refine ⟨ok_k3 hkok 61, ?_, ?_⟩
    · rw [D.oks_all, List.all_eq_true]
      intro d hd
      obtain ⟨k, hk', rfl⟩ := List.mem_map.mp hd
      obtain ⟨r', hr', rfl⟩ := List.mem_map.mp hk'
      exact ok_k3 (keysok r' hr') 60
    by_cases hmem : ky ∈ t.map Row.key
    · rw [if_neg (by simp [hmem]), hL]
      refine ih (lo + 1) (m + 20) kv4 t _ _ _ (by omega) (by omega) (t4.le (by omega)) h3 (by omega) fun t' kv' a b c g1 g2 g3 => q t' kv' a b c g1 (by omega) (g3.le (by omega))
    · rw [if_pos (by simp [hmem])]
      walk_at "n"
      refine ⟨trivial, by simp [sizeLine_eq]; omega, ?_⟩
      subst hR
      walk_at "n"
      refine ⟨rfl, by simp, kv4, 3, m + 15, rfl, by omega, by omega, by omega, t4.le (by omega), fun r4 kv5 _ _ t5 => ⟨rfl, ?_⟩⟩
      walk_at "y"
      refine ⟨by rw [sizeLine_eq]; omega, by rw [sizeLine_eq]; omega, by rw [sizeLine_eq]; omega, by rw [sizeLine_eq]; omega, rfl, by simp, kv5, 3, m + 16, rfl, by omega, by omega, by omega, t5.le (by omega), fun r5 kv6 w0 w1 t6 => ⟨rfl, ?_⟩⟩
      walk_at "y"
      obtain ⟨tg, htg⟩ : ∃ tg : Tg, atI [D.tup [D.str (Str.ofString "local"), D.str (Str.ofString "m"), D.int r4], D.tup [D.str (Str.ofString "prim"), D.str (Str.ofString "list")], D.tup [D.str (Str.ofString "top"), D.str (Str.ofString "m"), D.int 0, D.int 1]] r5 = some (tgD tg) := by
        have : r5 = 0 ∨ r5 = 1 ∨ r5 = 2 := by omega
        rcases this with h | h | h
        · rw [h]; exact ⟨.loc r4, rfl⟩
        · rw [h]; exact ⟨.prim, rfl⟩
        · rw [h]; exact ⟨.top, rfl⟩
      rw [htg]
      subst hR
      unfold k3D
      walk_at "y"
      refine ⟨trivial, by rw [sizeLine_eq]; omega, by simp [sizeLine_eq], by rw [List.length_map, sizeLine_eq]; omega, ?_⟩
      rw [show t.map rowD ++ [D.tup [D.int ky.1, D.str ky.2.1, D.tup (ky.2.2.map scD), tgD tg]] = (t ++ [(⟨ky, tg⟩ : Row)]).map rowD by simp [rowD],
        show (t.map Row.key).map (fun k : K3 => D.tup [D.int k.1, D.str k.2.1, D.tup (k.2.2.map scD)]) ++ [D.tup [D.int ky.1, D.str ky.2.1, D.tup (ky.2.2.map scD)]] = ((t ++ [(⟨ky, tg⟩ : Row)]).map Row.key).map k3D by simp [k3D], hL]
      refine ih (lo + 1) (m + 20) kv6 (t ++ [⟨ky, tg⟩]) _ _ _ (by omega) (by omega) (t6.le (by omega)) ⟨fun r hr => ?_, ?_⟩ (by simp; omega) fun t' kv' a b c g1 g2 g3 => q t' kv' a b c g1 (by simp at g2; omega) (g3.le (by omega))
      · rcases List.mem_append.mp hr with hr | hr
        · exact h3.rows r hr
        · rw [List.mem_singleton.mp hr]; exact ⟨hknd.1, hknd.2.1, hknd.2.2, hkok⟩
      · rw [List.map_append]
        refine List.nodup_append.mpr ⟨h3.nd, by simp, fun a ha b hb z => ?_⟩
        have e : b = ky := by simpa using hb
        exact hmem (e ▸ z ▸ ha)
def F_table : TF := fun ms G => ∃ (kv : List (Key × D)) (m : Int), ms = [.dk kv] ∧ 0 ≤ m ∧ m ≤ 1000 ∧ TapeOk m kv ∧
  ∀ (t : List Row) (kv' : List (Key × D)), TabOk t → t.length ≤ 100 → TapeOk (m + 400) kv' → G (.ls (t.map rowD)) [some (.dk kv')]
theorem body_table : Body F_table 6 1 (t__law_table F_take F_set) := by
  rintro ms G hl ⟨kv, m, rfl, h0, h1, ht, q⟩
  show t__law_table _ _ _ [Sl.pa (.dk kv), .no, .no, .no, .no, .no]
  unfold t__law_table
  walk_at "n"
  refine ⟨by rw [sizeLine_eq]; omega, ?_⟩
  subst hR
  walk_at "n"
  refine ⟨by rw [sizeLine_eq]; omega, ?_⟩
  subst hR
  walk_at "n"
  refine ⟨rfl, by simp, kv, 15, m, rfl, by omega, by omega, by omega, ht, fun r kv1 r0 r1 t1 => ⟨rfl, ?_⟩⟩
  walk_at "y"
  refine ⟨by omega, by omega, ?_⟩
  refine table_loop r.toNat 0 (m + 1) kv1 [] _ _ _ (by omega) (by omega) t1 ⟨fun r h => by (cases h), by simp⟩ (by simp; omega) fun t kv2 a b c g1 g2 g3 => ?_
  subst hR
  walk_at "y"
  exact q t kv2 g1 (by simp at g2; omega) (g3.le (by omega))
end Y
namespace Y
set_option hygiene false
open PySem PySem.Spec L2
local macro_rules | `(tactic| walk_at "y") => `(tactic| dsimp only [sNil, sBk, sCt, sDrop, sIf, asg, sAsg, sRet, sRetN, tIm, tNm, tBin, w2, vw, Sl.m?, tTst, tTru, M.tru, tAndQ, tOrQ, tNotQ, tAndX, tOrX, tNotX, tIfX, lNil, lCons, tFrz, froz, tTp, tLs, tCl, vws, tMt, Sl.m!, Sl.up, M.res, gLen, gInt, gAdd, gSub, gMul, gDiv, gMod, gPow, gII, gI0, gEqs, gEqs2, gIx, gPop, gApp, gRev, gExt, gTuple, gList, gDict, gIs, gIsi, gAll, gIns, gSorted, gSl, M.lq?, M.lst?, M.sq?, M.dat?, M.isNon, gLt, gLe, gGt, gGe, sFor, iSeq, srcOf, iEnm, enmOf, iRg1, iRg2, bnd, setAll, backS, Sl.isP, tSlc, pNo, pSo, sSetI, hasM, setM, tDspK, tDspT, pairG, D.key?, D.keys?, D.tkey?, putAll, tNewK, tNewT, tNeg, sUnp, tCall, argMs, argM, argS, slots, putB, stepB, putS_lo_ls_ls, putS_lo_ls_dk, putS_lo_ls_dt, putS_lo_ls_no, putS_pa_ls_ls, putS_pa_ls_dk, putS_pa_ls_dt, putS_pa_ls_no, putS_lo_rd_ls, putS_lo_rd_dk, putS_lo_rd_dt, putS_lo_rd_no, putS_pa_rd_ls, putS_pa_rd_dk, putS_pa_rd_dt, putS_pa_rd_no, putS_lo_dk_ls, putS_lo_dk_dk, putS_lo_dk_dt, putS_lo_dk_no, putS_pa_dk_ls, putS_pa_dk_dk, putS_pa_dk_dt, putS_pa_dk_no, putS_lo_dt_ls, putS_lo_dt_dk, putS_lo_dt_dt, putS_lo_dt_no, putS_pa_dt_ls, putS_pa_dt_dk, putS_pa_dt_dt, putS_pa_dt_no, putS_lo_im, putS_lo_sq, putS_pa_im, putS_pa_sq, M.own, M.fit, fins, Sl.fin, envOf, tLcX, compL, wipeE, restE, keepS, qYes, kD, dGet, List.getElem?_cons_zero, List.getElem?_cons_succ, List.getElem?_nil, List.set_cons_zero, List.set_cons_succ, List.map_cons, List.map_nil, List.take_succ_cons, List.take_zero, List.length_cons, List.length_nil, List.head?_cons, List.tail_cons, Option.join_some, List.cons_append, List.nil_append, List.replicate, tg_cells, tg_at, tg_left, tg_seed, tg_salt, tp_at, tp_left, tp_salt])
local macro_rules | `(tactic| walk_at "n") => `(tactic| ((try dsimp only); refine seq_step fun R hR => ?_; walk_at "y"))
local macro_rules | `(tactic| walk_at "i") => `(tactic| simp only [Bool.false_xor, Bool.true_xor, Bool.not_true, Bool.not_false, Bool.false_eq_true, reduceIte, isiT, M.ty, String.reduceBEq, Bool.or_false, Bool.false_or, Bool.and_false, Bool.and_true, Bool.true_and, Bool.false_and, Bool.or_true, List.mem_cons, true_or, or_true, true_and, and_true, String.reduceEq, decide_true, decide_false])
local macro_rules | `(tactic| walk_at "s") => `(tactic| (subst hR; walk_at "n"))
local macro_rules | `(tactic| walk_at "z") => `(tactic| (simp only [List.map_cons, List.map_nil, atI_c0, atI_c1, atI_c2, atI_c3, atI_c4, atI_c5]; (try walk_at "y")))
/-! ### the law's comparison, at equal data -/
mutual
def D.sane : Nat → D → Bool
  | 0, _ => false
  | _ + 1, .raw _ => false
  | n + 1, .tup ds => decide (ds.length ≤ 100000) && D.sanes n ds
  | n + 1, .lst ds => decide (ds.length ≤ 100000) && D.sanes n ds
  | _ + 1, _ => true
def D.sanes : Nat → List D → Bool
  | _, [] => true
  | n, d :: ds => D.sane n d && D.sanes n ds
end
theorem D.sanes_all (n : Nat) : ∀ ds : List D, D.sanes n ds = ds.all (D.sane n)
  | [] => rfl
  | d :: ds => by simp only [D.sanes, List.all_cons]; rw [D.sanes_all n ds]
def F_isint : TF := fun ms G => ∃ i : Int, ms = [.im (.int i)] ∧ ∀ fin, G (.im (.bl true)) fin
theorem body_isint : Body F_isint 1 1 t__law_is_integer := by
  rintro ms G hl ⟨i, rfl, q⟩
  show t__law_is_integer _ [Sl.pa (.im (.int i))]
  unfold t__law_is_integer
  walk_at "y"; walk_at "i"
  exact q _
def F_same (n : Nat) : TF := fun ms G => ∃ d, ms = [.im d, .im d] ∧ D.sane n d = true ∧ ∀ fin, G (.im (.bl true)) fin
def F_items (n : Nat) : TF := fun ms G => ∃ (d : D) (ds : List D), ms = [.im d, .im d] ∧ (d = .tup ds ∨ d = .lst ds) ∧ ds.length ≤ 100000 ∧ (∀ x ∈ ds, D.sane n x = true) ∧ ∀ fin, G (.im (.bl true)) fin
theorem items_loop {P : EndP} {n : Nat} {d : D} {ds : List D} (hd : d = .tup ds ∨ d = .lst ds) (hs : ∀ x ∈ ds, D.sane n x = true) (q : ∀ s2, P.nx [.pa (.im d), .pa (.im d), s2]) : ∀ (j lo : Nat) (s2 : Sl), lo + j = ds.length →
    loopS (.one 2) (b__law_same_items_1 (F_same n)) (fun _ => True) P (gRng lo j) [.pa (.im d), .pa (.im d), s2] := by
  intro j
  induction j with
  | zero => intro lo s2 _; exact ⟨trivial, q s2⟩
  | succ j ih =>
    intro lo s2 e
    rw [gRng_succ]
    refine loop_step trivial fun L hL => ?_
    obtain ⟨x, hx, hx2⟩ := atI_ok (xs := ds) (i := (lo : Int)) (by omega) (by omega)
    have mem : x ∈ ds := List.mem_of_getElem? hx2
    have fin : L [.pa (.im d), .pa (.im d), .lo (.im (.int lo))] := by rw [hL]; exact ih (lo + 1) _ (by omega)
    unfold b__law_same_items_1
    rcases hd with rfl | rfl
    · walk_at "y"
      rw [hx]
      exact ⟨rfl, by simp, x, rfl, hs x mem, fun _ => ⟨rfl, fin⟩⟩
    · walk_at "y"
      rw [hx]
      exact ⟨rfl, by simp, x, rfl, hs x mem, fun _ => ⟨rfl, fin⟩⟩
theorem body_items (n : Nat) : Body (F_items n) 3 2 (t__law_same_items (F_same n)) := by
  rintro ms G hl ⟨d, ds, rfl, hd, hlen, hs, q⟩
  show t__law_same_items _ _ [Sl.pa (.im d), Sl.pa (.im d), .no]
  unfold t__law_same_items
  have hloop := fun P q => items_loop (P := P) (n := n) hd hs q ds.length 0 .no (by omega)
  rcases hd with rfl | rfl
  · walk_at "n"
    rw [if_neg (by simp)]
    subst hR
    walk_at "n"
    refine ⟨by omega, by omega, ?_⟩
    rw [Int.toNat_natCast]
    refine hloop _ fun s2 => ?_
    subst hR
    walk_at "y"
    exact q _
  · walk_at "n"
    rw [if_neg (by simp)]
    subst hR
    walk_at "n"
    refine ⟨by omega, by omega, ?_⟩
    rw [Int.toNat_natCast]
    refine hloop _ fun s2 => ?_
    subst hR
    walk_at "y"
    exact q _
theorem body_same (n : Nat) : Body (F_same (n + 1)) 3 2 (t__law_same F_isint (F_items n) (F_same n)) := by
  rintro ms G hl ⟨d, rfl, hm, q⟩
  show t__law_same _ _ _ _ [Sl.pa (.im d), Sl.pa (.im d), .no]
  unfold t__law_same
  have o1 : ∀ b, D.ok 64 (.bl b) = true := fun b => rfl
  cases d with
  | non =>
    walk_at "n"
    walk_at "i"
    exact q _
  | bl b =>
    walk_at "n"; walk_at "i"
    walk_at "s"; walk_at "i"
    rw [show (D.bl b).eqv (D.bl b) = true by cases b <;> rfl]
    exact ⟨o1 _, o1 _, q _⟩
  | int i =>
    walk_at "n"; walk_at "i"
    walk_at "s"; walk_at "i"
    walk_at "s"; walk_at "i"
    refine ⟨by simp, i, rfl, fun _ => ?_⟩
    walk_at "y"; walk_at "i"
    exact q _
  | str z =>
    walk_at "n"; walk_at "i"
    walk_at "s"; walk_at "i"
    walk_at "s"; walk_at "i"
    walk_at "s"; walk_at "i"
    exact q _
  | tup ds =>
    simp only [D.sane, D.sanes_all, Bool.and_eq_true, decide_eq_true_eq, List.all_eq_true] at hm
    walk_at "n"; walk_at "i"
    walk_at "s"; walk_at "i"
    walk_at "s"; walk_at "i"
    walk_at "s"; walk_at "i"
    walk_at "s"; walk_at "i"
    exact ⟨by simp, .tup ds, ds, rfl, .inl rfl, hm.1, hm.2, fun _ => ⟨rfl, q _⟩⟩
  | lst ds =>
    simp only [D.sane, D.sanes_all, Bool.and_eq_true, decide_eq_true_eq, List.all_eq_true] at hm
    walk_at "n"; walk_at "i"
    walk_at "s"; walk_at "i"
    walk_at "s"; walk_at "i"
    walk_at "s"; walk_at "i"
    walk_at "s"; walk_at "i"
    walk_at "s"; walk_at "i"
    exact ⟨by simp, .lst ds, ds, rfl, .inr rfl, hm.1, hm.2, fun _ => ⟨rfl, q _⟩⟩
  | raw v => simp [D.sane] at hm
end Y
namespace Y
set_option hygiene false
open PySem PySem.Spec L2
local macro_rules | `(tactic| walk_at "y") => `(tactic| dsimp only [sNil, sBk, sCt, sDrop, sIf, asg, sAsg, sRet, sRetN, tIm, tNm, tBin, w2, vw, Sl.m?, tTst, tTru, M.tru, tAndQ, tOrQ, tNotQ, tAndX, tOrX, tNotX, tIfX, lNil, lCons, tFrz, froz, tTp, tLs, tCl, vws, tMt, Sl.m!, Sl.up, M.res, gLen, gInt, gAdd, gSub, gMul, gDiv, gMod, gPow, gII, gI0, gEqs, gEqs2, gIx, gPop, gApp, gRev, gExt, gTuple, gList, gDict, gIs, gIsi, gAll, gIns, gSorted, gSl, M.lq?, M.lst?, M.sq?, M.dat?, M.isNon, gLt, gLe, gGt, gGe, sFor, iSeq, srcOf, iEnm, enmOf, iRg1, iRg2, bnd, setAll, backS, Sl.isP, tSlc, pNo, pSo, sSetI, hasM, setM, tDspK, tDspT, pairG, D.key?, D.keys?, D.tkey?, putAll, tNewK, tNewT, tNeg, sUnp, tCall, argMs, argM, argS, slots, putB, stepB, putS_lo_ls_ls, putS_lo_ls_dk, putS_lo_ls_dt, putS_lo_ls_no, putS_pa_ls_ls, putS_pa_ls_dk, putS_pa_ls_dt, putS_pa_ls_no, putS_lo_rd_ls, putS_lo_rd_dk, putS_lo_rd_dt, putS_lo_rd_no, putS_pa_rd_ls, putS_pa_rd_dk, putS_pa_rd_dt, putS_pa_rd_no, putS_lo_dk_ls, putS_lo_dk_dk, putS_lo_dk_dt, putS_lo_dk_no, putS_pa_dk_ls, putS_pa_dk_dk, putS_pa_dk_dt, putS_pa_dk_no, putS_lo_dt_ls, putS_lo_dt_dk, putS_lo_dt_dt, putS_lo_dt_no, putS_pa_dt_ls, putS_pa_dt_dk, putS_pa_dt_dt, putS_pa_dt_no, putS_lo_im, putS_lo_sq, putS_pa_im, putS_pa_sq, M.own, M.fit, fins, Sl.fin, envOf, tLcX, compL, wipeE, restE, keepS, qYes, kD, dGet, List.getElem?_cons_zero, List.getElem?_cons_succ, List.getElem?_nil, List.set_cons_zero, List.set_cons_succ, List.map_cons, List.map_nil, List.take_succ_cons, List.take_zero, List.length_cons, List.length_nil, List.head?_cons, List.tail_cons, Option.join_some, List.cons_append, List.nil_append, List.replicate, tg_cells, tg_at, tg_left, tg_seed, tg_salt, tp_at, tp_left, tp_salt])
local macro_rules | `(tactic| walk_at "n") => `(tactic| ((try dsimp only); refine seq_step fun R hR => ?_; walk_at "y"))
local macro_rules | `(tactic| walk_at "i") => `(tactic| simp only [Bool.false_xor, Bool.true_xor, Bool.not_true, Bool.not_false, Bool.false_eq_true, reduceIte, isiT, M.ty, String.reduceBEq, Bool.or_false, Bool.false_or, Bool.and_false, Bool.and_true, Bool.true_and, Bool.false_and, Bool.or_true, List.mem_cons, true_or, or_true, true_and, and_true, String.reduceEq, decide_true, decide_false])
local macro_rules | `(tactic| walk_at "s") => `(tactic| (subst hR; walk_at "n"))
local macro_rules | `(tactic| walk_at "z") => `(tactic| (simp only [List.map_cons, List.map_nil, atI_c0, atI_c1, atI_c2, atI_c3, atI_c4, atI_c5]; (try walk_at "y")))
/-! ### plain facts: sets of scopes -/
theorem anti_sc {a b : Sc} (h1 : leSc a b = true) (h2 : leSc b a = true) : a = b := by
  have e : ∀ p q : Sc, leSc p q = !(PySem.W.dataLt (.tuple [.str (Str.ofString "m"), .int q.1, .int q.2]) (.tuple [.str (Str.ofString "m"), .int p.1, .int p.2])) := fun p q => by
    unfold leSc; rw [PySem.W.dataLe_eq]; simp [scD, D.py, D.pys]
  have l : ∀ p q : Sc, PySem.W.dataLt (.tuple [.str (Str.ofString "m"), .int p.1, .int p.2]) (.tuple [.str (Str.ofString "m"), .int q.1, .int q.2]) = decide (p.1 < q.1 ∨ (p.1 = q.1 ∧ p.2 < q.2)) := fun p q => by
    rw [PySem.W.dataLt_tuple, PySem.W.dataLt_cons (by simp [PySem.W.alike])]
    rw [if_pos (by simp [PyData.eqv])]
    rw [← PySem.W.dataLt_tuple, PySem.W.dataLt_ii]
  rw [e, l] at h1 h2
  obtain ⟨x, i⟩ := a
  obtain ⟨y, j⟩ := b
  simp at h1 h2
  have hx : x = y := by omega
  have hi : i = j := by omega
  rw [hx, hi]
theorem srt_eq {S T : List Sc} (hs : Srt S) (ht : Srt T) (p : S.Perm T) : S = T :=
  List.Perm.eq_of_pairwise (le := fun a b => leSc a b = true) (fun a b _ _ h1 h2 => anti_sc h1 h2) hs ht p
def sub (s t : List Sc) : Bool := s.all fun x => decide (x ∈ t)
def within (s t : List Sc) : Bool := decide (s.length ≤ t.length) && sub s t
theorem sub_iff {s t : List Sc} : sub s t = true ↔ ∀ x ∈ s, x ∈ t := by
  unfold sub; rw [List.all_eq_true]; simp
theorem nodup_le' {α : Type} [DecidableEq α] : ∀ {S V : List α}, S.Nodup → (∀ a ∈ S, a ∈ V) → S.length ≤ V.length
  | [], _, _, _ => Nat.zero_le _
  | a :: S, V, hn, h => by
    have h1 := h a List.mem_cons_self
    have hn' := List.nodup_cons.mp hn
    have h2 := nodup_le' (S := S) (V := V.erase a) hn'.2 fun b hb => (List.mem_erase_of_ne (fun e => hn'.1 (by rw [← e]; exact hb))).mpr (h b (List.mem_cons_of_mem _ hb))
    rw [List.length_erase_of_mem h1] at h2
    have h3 := List.length_pos_of_mem h1
    rw [List.length_cons]; omega
theorem within_sub {s t : List Sc} (h : s.Nodup) : within s t = sub s t := by
  unfold within
  cases e : sub s t with
  | false => simp
  | true => simp [nodup_le' h (sub_iff.mp e)]
/-- one inside the other, as long: the same -/
theorem sub_same {s t : List Sc} (hs : s.Nodup) (ht : t.Nodup) (ss : Srt s) (st : Srt t) (h : sub s t = true) (hl : t.length ≤ s.length) : s = t := by
  refine srt_eq ss st ((List.perm_ext_iff_of_nodup hs ht).mpr fun a => ⟨fun ha => sub_iff.mp h a ha, fun ha => ?_⟩)
  refine Classical.byContradiction fun hn => ?_
  have := nodup_le' (S := a :: s) (V := t) (List.nodup_cons.mpr ⟨hn, hs⟩) fun b hb => by
    rcases List.mem_cons.mp hb with rfl | hb
    · exact ha
    · exact sub_iff.mp h b hb
  rw [List.length_cons] at this
  omega
/-! ### what resolving answers -/
inductive Out where
  | unbound | phase | bound (k : Int) | amb (k j : Int)
  deriving DecidableEq
def outD : Out → D
  | .unbound => .tup [.str "unbound"]
  | .phase => .tup [.str "phase"]
  | .bound k => .tup [.str "bound", .int k]
  | .amb k j => .tup [.str "ambiguous", .int k, .int j]
abbrev IRow := Int × Row
def en (lo : Int) : List Row → List IRow
  | [] => []
  | r :: t => (lo, r) :: en (lo + 1) t
theorem en_at : ∀ {t : List Row} {lo : Int} {p : IRow}, p ∈ en lo t → lo ≤ p.1 ∧ p.1 < lo + t.length ∧ t[(p.1 - lo).toNat]? = some p.2
  | [], _, _, h => by cases h
  | r :: t, lo, p, h => by
    rcases List.mem_cons.mp h with rfl | h
    · refine ⟨Int.le_refl _, by simp; omega, by simp⟩
    · obtain ⟨h1, h2, h3⟩ := en_at h
      refine ⟨by omega, by simp; omega, ?_⟩
      have e : (p.1 - lo).toNat = (p.1 - (lo + 1)).toNat + 1 := by omega
      rw [e, List.getElem?_cons_succ]
      exact h3
def insT (t : List Row) (nm : Str) (sc : List Sc) : List IRow := (en 0 t).filter fun p => decide (p.2.nm = nm) && sub p.2.sc sc
def hereT (t : List Row) (ph : Int) (nm : Str) (sc : List Sc) : List IRow := (insT t nm sc).filter fun p => decide (p.2.ph = ph)
def bestT (t : List Row) (ph : Int) (nm : Str) (sc : List Sc) : List IRow := (hereT t ph nm sc).filter fun p => !(hereT t ph nm sc).any fun o => decide (p.2.sc ≠ o.2.sc) && sub p.2.sc o.2.sc
def outT (t : List Row) (ph : Int) (nm : Str) (sc : List Sc) : Out := match hereT t ph nm sc with
  | [] => match insT t nm sc with
    | [] => .unbound
    | _ => .phase
  | _ => match bestT t ph nm sc with
    | [p] => .bound p.1
    | p :: o :: _ => .amb p.1 o.1
    | [] => .unbound
theorem exists_max {α : Type} (f : α → Nat) : ∀ (xs : List α), xs ≠ [] → ∃ x ∈ xs, ∀ y ∈ xs, f y ≤ f x
  | [], h => absurd rfl h
  | [x], _ => ⟨x, by simp, fun y hy => by rw [List.mem_singleton.mp hy]; exact Nat.le_refl _⟩
  | x :: y :: r, _ => by
    obtain ⟨z, hz, hm⟩ := exists_max f (y :: r) (by simp)
    by_cases h : f z ≤ f x
    · refine ⟨x, by simp, fun w hw => ?_⟩
      rcases List.mem_cons.mp hw with rfl | hw
      · exact Nat.le_refl _
      · exact Nat.le_trans (hm w hw) h
    · refine ⟨z, List.mem_cons_of_mem _ hz, fun w hw => ?_⟩
      rcases List.mem_cons.mp hw with rfl | hw
      · omega
      · exact hm w hw
theorem mem_row {t : List Row} (ht : TabOk t) {nm : Str} {sc : List Sc} {ph : Int} {p : IRow} (h : p ∈ hereT t ph nm sc) : RowOk p.2 := by
  have h1 := List.mem_filter.mp h
  have h2 := List.mem_filter.mp h1.1
  have h3 := en_at h2.1
  exact ht.rows _ (List.mem_of_getElem? h3.2.2)
theorem best_ne {t : List Row} (ht : TabOk t) {ph : Int} {nm : Str} {sc : List Sc} (h : hereT t ph nm sc ≠ []) : bestT t ph nm sc ≠ [] := by
  obtain ⟨x, hx, hm⟩ := exists_max (fun p : IRow => p.2.sc.length) _ h
  intro e
  have : x ∈ bestT t ph nm sc := by
    refine List.mem_filter.mpr ⟨hx, ?_⟩
    rw [Bool.not_eq_true', List.any_eq_false]
    intro o ho z
    rw [Bool.and_eq_true, decide_eq_true_eq] at z
    have rx := mem_row ht hx
    have ro := mem_row ht ho
    exact z.1 (sub_same rx.nd ro.nd rx.srt ro.srt z.2 (hm o ho))
  rw [e] at this
  cases this
end Y
namespace Y
set_option hygiene false
open PySem PySem.Spec L2
local macro_rules | `(tactic| walk_at "y") => `(tactic| dsimp only [sNil, sBk, sCt, sDrop, sIf, asg, sAsg, sRet, sRetN, tIm, tNm, tBin, w2, vw, Sl.m?, tTst, tTru, M.tru, tAndQ, tOrQ, tNotQ, tAndX, tOrX, tNotX, tIfX, lNil, lCons, tFrz, froz, tTp, tLs, tCl, vws, tMt, Sl.m!, Sl.up, M.res, gLen, gInt, gAdd, gSub, gMul, gDiv, gMod, gPow, gII, gI0, gEqs, gEqs2, gIx, gPop, gApp, gRev, gExt, gTuple, gList, gDict, gIs, gIsi, gAll, gIns, gSorted, gSl, M.lq?, M.lst?, M.sq?, M.dat?, M.isNon, gLt, gLe, gGt, gGe, sFor, iSeq, srcOf, iEnm, enmOf, iRg1, iRg2, bnd, setAll, backS, Sl.isP, tSlc, pNo, pSo, sSetI, hasM, setM, tDspK, tDspT, pairG, D.key?, D.keys?, D.tkey?, putAll, tNewK, tNewT, tNeg, sUnp, tCall, argMs, argM, argS, slots, putB, stepB, putS_lo_ls_ls, putS_lo_ls_dk, putS_lo_ls_dt, putS_lo_ls_no, putS_pa_ls_ls, putS_pa_ls_dk, putS_pa_ls_dt, putS_pa_ls_no, putS_lo_rd_ls, putS_lo_rd_dk, putS_lo_rd_dt, putS_lo_rd_no, putS_pa_rd_ls, putS_pa_rd_dk, putS_pa_rd_dt, putS_pa_rd_no, putS_lo_dk_ls, putS_lo_dk_dk, putS_lo_dk_dt, putS_lo_dk_no, putS_pa_dk_ls, putS_pa_dk_dk, putS_pa_dk_dt, putS_pa_dk_no, putS_lo_dt_ls, putS_lo_dt_dk, putS_lo_dt_dt, putS_lo_dt_no, putS_pa_dt_ls, putS_pa_dt_dk, putS_pa_dt_dt, putS_pa_dt_no, putS_lo_im, putS_lo_sq, putS_pa_im, putS_pa_sq, M.own, M.fit, fins, Sl.fin, envOf, tLcX, compL, wipeE, restE, keepS, qYes, kD, dGet, List.getElem?_cons_zero, List.getElem?_cons_succ, List.getElem?_nil, List.set_cons_zero, List.set_cons_succ, List.map_cons, List.map_nil, List.take_succ_cons, List.take_zero, List.length_cons, List.length_nil, List.head?_cons, List.tail_cons, Option.join_some, List.cons_append, List.nil_append, List.replicate, tg_cells, tg_at, tg_left, tg_seed, tg_salt, tp_at, tp_left, tp_salt])
local macro_rules | `(tactic| walk_at "n") => `(tactic| ((try dsimp only); refine seq_step fun R hR => ?_; walk_at "y"))
local macro_rules | `(tactic| walk_at "i") => `(tactic| simp only [Bool.false_xor, Bool.true_xor, Bool.not_true, Bool.not_false, Bool.false_eq_true, reduceIte, isiT, M.ty, String.reduceBEq, Bool.or_false, Bool.false_or, Bool.and_false, Bool.and_true, Bool.true_and, Bool.false_and, Bool.or_true, List.mem_cons, true_or, or_true, true_and, and_true, String.reduceEq, decide_true, decide_false])
local macro_rules | `(tactic| walk_at "s") => `(tactic| (subst hR; walk_at "n"))
local macro_rules | `(tactic| walk_at "z") => `(tactic| (simp only [List.map_cons, List.map_nil, atI_c0, atI_c1, atI_c2, atI_c3, atI_c4, atI_c5]; (try walk_at "y")))
theorem fm_if {α β : Type} (c : α → Bool) (g : α → β) (xs : List α) : xs.filterMap (fun x => if c x = true then some (g x) else none) = (xs.filter c).map g := by
  induction xs with
  | nil => rfl
  | cons x xs ih =>
    rw [List.filterMap_cons, List.filter_cons]
    by_cases h : c x = true
    · simp [h, ih]
    · simp [h, ih]
theorem bls_map {α : Type} (f : α → Bool) (xs : List α) : D.bls? (xs.map fun x => .bl (f x)) = some (xs.map f) := by
  induction xs with
  | nil => rfl
  | cons x xs ih => rw [List.map_cons, List.map_cons]; unfold D.bls?; rw [ih]; rfl
theorem fm_some {α β : Type} (g : α → β) (xs : List α) : xs.filterMap (fun x => some (g x)) = xs.map g := by
  induction xs with
  | nil => rfl
  | cons x xs ih => rw [List.filterMap_cons, ih]; rfl
theorem mem_sc (t : List Sc) (x : Sc) : ((t.map scD).any fun z => D.eqv z (scD x)) = decide (x ∈ t) := by rw [code_sc.any]; congr
def F_within : TF := fun ms G => ∃ s t : List Sc, ms = [.im (.tup (s.map scD)), .im (.tup (t.map scD))] ∧ s.length ≤ 100000 ∧ ∀ fin, G (.im (.bl (within s t))) fin
theorem body_within : Body F_within 3 2 t_is_within := by
  rintro ms G hl ⟨s, t, rfl, hs, q⟩
  show t_is_within _ [Sl.pa (.im (.tup (s.map scD))), Sl.pa (.im (.tup (t.map scD))), .no]
  unfold t_is_within
  walk_at "y"
  rw [List.length_map, List.length_map]
  by_cases h : s.length ≤ t.length
  · rw [if_pos (by simpa using h)]
    refine comp_fix scD (fun x => some (.bl (decide (x ∈ t)))) trivial s [] (fun x hx acc L hacc hL => ?_) (by rw [sizeLine_eq]; simp; omega) ?_
    · walk_at "y"
      rw [if_pos rfl]
      refine ⟨ok_sc x 63, oks_sc t 62, hacc, ?_⟩
      rw [mem_sc, Bool.false_xor]
      exact hL
    · rw [fm_some, List.nil_append, bls_map]
      walk_at "y"
      rw [show (s.map fun x => decide (x ∈ t)).all id = within s t by
        unfold within sub; rw [decide_eq_true h, Bool.true_and, List.all_map]; rfl]
      exact q _
  · rw [if_neg (by simpa using h)]
    rw [show within s t = false by unfold within; rw [decide_eq_false h]; rfl] at q
    exact q _
def pD (p : IRow) : D := .tup [.int p.1, rowD p.2]
def hD (p : IRow) : D := .tup [.int p.1, .tup (p.2.sc.map scD)]
def hereN (ins : List IRow) (ph : Int) : List IRow := ins.filter fun p => decide (p.2.ph = ph)
def bestN (h : List IRow) : List IRow := h.filter fun p => !h.any fun o => decide (p.2.sc ≠ o.2.sc) && sub p.2.sc o.2.sc
theorem ok_tup_sc (s : List Sc) (n : Nat) : D.ok (n + 2) (.tup (s.map scD)) = true := by simp only [D.ok]; exact oks_sc s n
theorem code_tup_sc : Code fun s : List Sc => D.tup (s.map scD) := ⟨fun a => by simp only [D.std]; exact code_sc.stds a, fun a b h => code_sc.inj_map (by simpa using h)⟩
theorem eqv_tup_sc (s t : List Sc) : D.eqv (.tup (s.map scD)) (.tup (t.map scD)) = decide (s = t) := code_tup_sc.eqv s t
def F_among : TF := fun ms G => ∃ (nms : List IRow) (ph : Int) (sc : List Sc), ms = [.ls (nms.map pD), .im (.int ph), .im (.tup (sc.map scD))] ∧ nms.length ≤ 1000 ∧ (∀ p ∈ nms, RowOk p.2) ∧
  (hereN (nms.filter fun p => sub p.2.sc sc) ph ≠ [] → bestN (hereN (nms.filter fun p => sub p.2.sc sc) ph) ≠ []) ∧
  ∀ fin, G (.im (outD (match hereN (nms.filter fun p => sub p.2.sc sc) ph with
    | [] => match nms.filter fun p => sub p.2.sc sc with
      | [] => .unbound
      | _ => .phase
    | _ => match bestN (hereN (nms.filter fun p => sub p.2.sc sc) ph) with
      | [p] => .bound p.1
      | p :: o :: _ => .amb p.1 o.1
      | [] => .unbound))) fin
theorem body_among : Body F_among 11 3 (t_resolve_among F_within) := by
  rintro ms G hl ⟨nms, ph, sc, rfl, hlen, hok, hb, q⟩
  show t_resolve_among _ _ [Sl.pa (.ls (nms.map pD)), Sl.pa (.im (.int ph)), Sl.pa (.im (.tup (sc.map scD))), .no, .no, .no, .no, .no, .no, .no, .no]
  unfold t_resolve_among
  walk_at "n"
  refine ⟨rfl, fun v => ?_⟩
  refine comp_fix pD (fun p => if sub p.2.sc sc = true then some (pD p) else none) (by rfl) nms [] (fun p hp acc L hacc hL => ?_) (by rw [sizeLine_eq]; simp; omega) ?_
  · unfold pD rowD
    walk_at "y"
    refine ⟨rfl, rfl, by simp, p.2.sc, sc, rfl, by have := (hok p hp).len; omega, fun fin => ⟨rfl, ?_⟩⟩
    walk_at "y"
    rw [within_sub (hok p hp).nd]
    by_cases h : sub p.2.sc sc = true
    · rw [if_pos h]
      rw [if_pos h] at hL
      exact ⟨by rw [sizeLine_eq]; omega, hacc, hL⟩
    · rw [if_neg h]
      rw [if_neg h] at hL
      exact hL
  rw [List.nil_append, fm_if]
  generalize hins : (nms.filter fun p => sub p.2.sc sc) = ins at q hb ⊢
  have iok : ∀ p ∈ ins, RowOk p.2 := fun p hp => by rw [← hins] at hp; exact hok p (List.mem_filter.mp hp).1
  have il : ins.length ≤ 1000 := by rw [← hins]; exact Nat.le_trans (List.length_filter_le _ _) hlen
  subst hR
  walk_at "n"
  refine ⟨rfl, fun v2 => ?_⟩
  refine comp_fix pD (fun p => if decide (p.2.ph = ph) = true then some (hD p) else none) (by rfl) ins [] (fun p hp acc L hacc hL => ?_) (by rw [sizeLine_eq]; simp; omega) ?_
  · rw [show pD p = D.tup [.int p.1, .tup [.int p.2.ph, .str p.2.nm, .tup (p.2.sc.map scD), tgD p.2.tg]] from rfl]
    walk_at "y"
    refine ⟨rfl, ?_⟩
    walk_at "z"
    rw [Bool.false_xor]
    by_cases h : p.2.ph = ph
    · rw [if_pos (by simpa using h)]
      rw [if_pos (by simpa using h)] at hL
      exact ⟨by rw [sizeLine_eq]; omega, hacc, hL⟩
    · rw [if_neg (by simpa using h)]
      rw [if_neg (by simpa using h)] at hL
      exact hL
  rw [List.nil_append, fm_if]
  rw [show (ins.filter fun p => decide (p.2.ph = ph)) = hereN ins ph from rfl]
  generalize hher : hereN ins ph = her at q hb ⊢
  have hok2 : ∀ p ∈ her, RowOk p.2 := fun p hp => by rw [← hher] at hp; exact iok p (List.mem_filter.mp hp).1
  have hl2 : her.length ≤ 1000 := by rw [← hher]; exact Nat.le_trans (List.length_filter_le _ _) il
  subst hR
  walk_at "n"
  cases her with
  | nil =>
    rw [if_pos (by simp)]
    cases ins with
    | nil =>
      rw [if_neg (by simp)]
      exact ⟨by rw [sizeLine_eq]; omega, q _⟩
    | cons i0 ins =>
      rw [if_pos (by simp)]
      exact ⟨by rw [sizeLine_eq]; omega, q _⟩
  | cons h0 her =>
    rw [if_neg (by simp)]
    generalize hh : h0 :: her = hs at *
    subst hR
    walk_at "n"
    refine ⟨rfl, fun v3 => ?_⟩
    refine comp_fix hD (fun p => if (!hs.any fun o => decide (p.2.sc ≠ o.2.sc) && sub p.2.sc o.2.sc) = true then some (.int p.1) else none) (by rfl) hs [] (fun p hp acc L hacc hL => ?_) (by rw [sizeLine_eq]; simp; omega) ?_
    · rw [show hD p = D.tup [.int p.1, .tup (p.2.sc.map scD)] from rfl]
      walk_at "y"
      refine ⟨rfl, ?_⟩
      refine comp_fix hD (fun o => some (.bl (decide (p.2.sc ≠ o.2.sc) && sub p.2.sc o.2.sc))) (by rfl) hs [] (fun o ho acc2 L2 hacc2 hL2 => ?_) (by rw [sizeLine_eq]; simp; omega) ?_
      · rw [show hD o = D.tup [.int o.1, .tup (o.2.sc.map scD)] from rfl]
        walk_at "y"
        refine ⟨rfl, ?_⟩
        rw [if_pos rfl]
        refine ⟨ok_tup_sc _ _, ok_tup_sc _ _, ?_⟩
        rw [eqv_tup_sc, Bool.true_xor]
        by_cases h : p.2.sc = o.2.sc
        · rw [if_neg (by simp [h])]
          refine ⟨hacc2, ?_⟩
          rw [show (decide (p.2.sc ≠ o.2.sc) && sub p.2.sc o.2.sc) = false by simp [h]] at hL2
          exact hL2
        · rw [if_pos (by simp [h])]
          refine ⟨rfl, by simp, p.2.sc, o.2.sc, rfl, by have := (hok2 p hp).len; omega, fun fin => ⟨rfl, ?_⟩⟩
          walk_at "y"
          refine ⟨hacc2, ?_⟩
          rw [within_sub (hok2 p hp).nd]
          rw [show (decide (p.2.sc ≠ o.2.sc) && sub p.2.sc o.2.sc) = sub p.2.sc o.2.sc by simp [h]] at hL2
          exact hL2
      · rw [fm_some, List.nil_append, bls_map]
        walk_at "y"
        rw [List.any_map, show (id ∘ fun o : IRow => decide (p.2.sc ≠ o.2.sc) && sub p.2.sc o.2.sc) = (fun o : IRow => decide (p.2.sc ≠ o.2.sc) && sub p.2.sc o.2.sc) from rfl]
        by_cases h : (!hs.any fun o => decide (p.2.sc ≠ o.2.sc) && sub p.2.sc o.2.sc) = true
        · rw [if_pos h]
          rw [if_pos h] at hL
          exact ⟨hacc, hL⟩
        · rw [if_neg h]
          rw [if_neg h] at hL
          exact hL
    · rw [List.nil_append, fm_if, show (hs.filter fun p => !hs.any fun o => decide (p.2.sc ≠ o.2.sc) && sub p.2.sc o.2.sc) = bestN hs from rfl]
      have hbn : bestN hs ≠ [] := hb (by rw [← hh]; simp)
      subst hR
      walk_at "n"
      rw [Bool.false_xor, List.length_map]
      cases hbe : bestN hs with
      | nil => exact absurd hbe hbn
      | cons p0 r =>
        rw [hbe, ← hh] at q
        cases r with
        | nil =>
          rw [if_pos (by simp)]
          walk_at "z"
          exact ⟨by rw [sizeLine_eq]; omega, q _⟩
        | cons p1 r =>
          rw [if_neg (by simp; omega)]
          subst hR
          walk_at "y"
          walk_at "z"
          exact ⟨by rw [sizeLine_eq]; omega, q _⟩
end Y
namespace Y
set_option hygiene false
open PySem PySem.Spec L2
local macro_rules | `(tactic| walk_at "y") => `(tactic| dsimp only [sNil, sBk, sCt, sDrop, sIf, asg, sAsg, sRet, sRetN, tIm, tNm, tBin, w2, vw, Sl.m?, tTst, tTru, M.tru, tAndQ, tOrQ, tNotQ, tAndX, tOrX, tNotX, tIfX, lNil, lCons, tFrz, froz, tTp, tLs, tCl, vws, tMt, Sl.m!, Sl.up, M.res, gLen, gInt, gAdd, gSub, gMul, gDiv, gMod, gPow, gII, gI0, gEqs, gEqs2, gIx, gPop, gApp, gRev, gExt, gTuple, gList, gDict, gIs, gIsi, gAll, gIns, gSorted, gSl, M.lq?, M.lst?, M.sq?, M.dat?, M.isNon, gLt, gLe, gGt, gGe, sFor, iSeq, srcOf, iEnm, enmOf, iRg1, iRg2, bnd, setAll, backS, Sl.isP, tSlc, pNo, pSo, sSetI, hasM, setM, tDspK, tDspT, pairG, D.key?, D.keys?, D.tkey?, putAll, tNewK, tNewT, tNeg, sUnp, tCall, argMs, argM, argS, slots, putB, stepB, putS_lo_ls_ls, putS_lo_ls_dk, putS_lo_ls_dt, putS_lo_ls_no, putS_pa_ls_ls, putS_pa_ls_dk, putS_pa_ls_dt, putS_pa_ls_no, putS_lo_rd_ls, putS_lo_rd_dk, putS_lo_rd_dt, putS_lo_rd_no, putS_pa_rd_ls, putS_pa_rd_dk, putS_pa_rd_dt, putS_pa_rd_no, putS_lo_dk_ls, putS_lo_dk_dk, putS_lo_dk_dt, putS_lo_dk_no, putS_pa_dk_ls, putS_pa_dk_dk, putS_pa_dk_dt, putS_pa_dk_no, putS_lo_dt_ls, putS_lo_dt_dk, putS_lo_dt_dt, putS_lo_dt_no, putS_pa_dt_ls, putS_pa_dt_dk, putS_pa_dt_dt, putS_pa_dt_no, putS_lo_im, putS_lo_sq, putS_pa_im, putS_pa_sq, M.own, M.fit, fins, Sl.fin, envOf, tLcX, compL, wipeE, restE, keepS, qYes, kD, dGet, List.getElem?_cons_zero, List.getElem?_cons_succ, List.getElem?_nil, List.set_cons_zero, List.set_cons_succ, List.map_cons, List.map_nil, List.take_succ_cons, List.take_zero, List.length_cons, List.length_nil, List.head?_cons, List.tail_cons, Option.join_some, List.cons_append, List.nil_append, List.replicate, tg_cells, tg_at, tg_left, tg_seed, tg_salt, tp_at, tp_left, tp_salt])
local macro_rules | `(tactic| walk_at "n") => `(tactic| ((try dsimp only); refine seq_step fun R hR => ?_; walk_at "y"))
local macro_rules | `(tactic| walk_at "i") => `(tactic| simp only [Bool.false_xor, Bool.true_xor, Bool.not_true, Bool.not_false, Bool.false_eq_true, reduceIte, isiT, M.ty, String.reduceBEq, Bool.or_false, Bool.false_or, Bool.and_false, Bool.and_true, Bool.true_and, Bool.false_and, Bool.or_true, List.mem_cons, true_or, or_true, true_and, and_true, String.reduceEq, decide_true, decide_false])
local macro_rules | `(tactic| walk_at "s") => `(tactic| (subst hR; walk_at "n"))
local macro_rules | `(tactic| walk_at "z") => `(tactic| (simp only [List.map_cons, List.map_nil, atI_c0, atI_c1, atI_c2, atI_c3, atI_c4, atI_c5]; (try walk_at "y")))
def idD (nm : Str) (r : Int) (sc : List Sc) : D := .tup [.str "id", .str nm, .tup [.str "m", .int r], .tup (sc.map scD)]
theorem code_out : Code outD := ⟨fun a => by cases a <;> rfl, fun a b h => by
  cases a <;> cases b <;> simp [outD] at h
  · rfl
  · exact absurd h (by decide +kernel)
  · exact absurd h (by decide +kernel)
  · rfl
  · rw [h]
  · rw [h.1, h.2]⟩
theorem gEnm_en : ∀ (t : List Row) (lo : Int), gEnm lo (t.map rowD) = (en lo t).map pD
  | [], _ => rfl
  | r :: t, lo => by rw [List.map_cons, gEnm, gEnm_en, en, List.map_cons]; rfl
theorem en_length : ∀ (t : List Row) (lo : Int), (en lo t).length = t.length
  | [], _ => rfl
  | r :: t, lo => by rw [en, List.length_cons, en_length, List.length_cons]
def F_resolve : TF := fun ms G => ∃ (m0 : M) (t : List Row) (ph r : Int) (nm : Str) (sc : List Sc), ms = [m0, .im (.int ph), .im (idD nm r sc)] ∧ (m0 = .ls (t.map rowD) ∨ m0 = .im (.tup (t.map rowD))) ∧ TabOk t ∧ t.length ≤ 100 ∧
  G (.im (outD (outT t ph nm sc))) [some m0, some (.im (.int ph)), some (.im (idD nm r sc))]
theorem ins_eq (t : List Row) (nm : Str) (sc : List Sc) : (((en 0 t).filter fun p => decide (p.2.nm = nm)).filter fun p => sub p.2.sc sc) = insT t nm sc := by
  unfold insT
  rw [List.filter_filter]
  congr 1
  funext p
  exact Bool.and_comm _ _
theorem out_eq (t : List Row) (ph : Int) (nm : Str) (sc : List Sc) : (match hereN (insT t nm sc) ph with
    | [] => match insT t nm sc with
      | [] => Out.unbound
      | _ => .phase
    | _ => match bestN (hereN (insT t nm sc) ph) with
      | [p] => .bound p.1
      | p :: o :: _ => .amb p.1 o.1
      | [] => .unbound) = outT t ph nm sc := rfl
theorem enr_ok {t : List Row} (h : TabOk t) {p : IRow} (hp : p ∈ en 0 t) : RowOk p.2 := h.rows _ (List.mem_of_getElem? (en_at hp).2.2)
theorem named_comp {k : List D → Env → Prop} {gd : Env → Prop} {s0 : Sl} {ph r : Int} {nm : Str} {sc : List Sc} {t : List Row} (htl : t.length ≤ 100) (hg : gd [s0, Sl.pa (.im (.int ph)), Sl.pa (.im (idD nm r sc)), .no, .no, .no])
    (q : k (((en 0 t).filter fun p => decide (p.2.nm = nm)).map pD) [s0, Sl.pa (.im (.int ph)), Sl.pa (.im (idD nm r sc)), .no, .no, .no]) :
    compL (.many [4, 5]) (tTst (tBin (gEqs2 false) (tBin gIx (tNm 5) (tIm (.int 1))) (tBin gIx (tNm 2) (tIm (.int 1))))) (tTp (lCons (tNm 4) (lCons (tNm 5) lNil))) [4, 5] gd k (gEnm 0 (t.map rowD)) [] [s0, Sl.pa (.im (.int ph)), Sl.pa (.im (idD nm r sc)), .no, .no, .no] := by
  rw [gEnm_en]
  refine comp_fix pD (fun p => if decide (p.2.nm = nm) = true then some (pD p) else none) hg _ [] (fun p hp acc L hacc hL => ?_) (by rw [en_length, sizeLine_eq]; simp; omega) ?_
  · rw [show pD p = D.tup [.int p.1, .tup [.int p.2.ph, .str p.2.nm, .tup (p.2.sc.map scD), tgD p.2.tg]] from rfl]
    rw [show pD p = D.tup [.int p.1, .tup [.int p.2.ph, .str p.2.nm, .tup (p.2.sc.map scD), tgD p.2.tg]] from rfl] at hL
    unfold idD at hL ⊢
    walk_at "y"
    refine ⟨rfl, ?_⟩
    walk_at "z"
    rw [Bool.false_xor]
    by_cases h : p.2.nm = nm
    · rw [if_pos (by simpa using h)]
      rw [if_pos (by simpa using h)] at hL
      exact ⟨by rw [sizeLine_eq]; omega, hacc, hL⟩
    · rw [if_neg (by simpa using h)]
      rw [if_neg (by simpa using h)] at hL
      exact hL
  · rw [List.nil_append, fm_if]; exact q
theorem call_among {ph : Int} {nm : Str} {sc : List Sc} {t : List Row} (ht : TabOk t) (htl : t.length ≤ 100) {G : M → List (Option M) → Prop} (q : ∀ fin, G (.im (outD (outT t ph nm sc))) fin) :
    F_among [.ls (((en 0 t).filter fun p => decide (p.2.nm = nm)).map pD), .im (.int ph), .im (.tup (sc.map scD))] G := by
  refine ⟨_, ph, sc, rfl, ?_, fun p hp => enr_ok ht (List.mem_filter.mp hp).1, ?_, fun fin => ?_⟩
  · have := List.length_filter_le (fun p : IRow => decide (p.2.nm = nm)) (en 0 t)
    rw [en_length] at this
    omega
  · rw [ins_eq]
    exact best_ne ht
  · rw [ins_eq]
    exact q fin
theorem body_resolve : Body F_resolve 6 3 (t_resolve F_among) := by
  rintro ms G hl ⟨m0, t, ph, r, nm, sc, rfl, hm0, ht, htl, q⟩
  show t_resolve _ _ [Sl.pa m0, Sl.pa (.im (.int ph)), Sl.pa (.im (idD nm r sc)), .no, .no, .no]
  unfold t_resolve
  rcases hm0 with rfl | rfl
  · walk_at "n"
    refine ⟨rfl, fun v => ?_⟩
    refine named_comp htl (by rfl) ?_
    subst hR
    unfold idD at q ⊢
    walk_at "y"
    walk_at "z"
    exact ⟨trivial, by simp, call_among ht htl fun fin => ⟨rfl, q⟩⟩
  · walk_at "n"
    refine named_comp htl (by trivial) ?_
    subst hR
    unfold idD at q ⊢
    walk_at "y"
    walk_at "z"
    exact ⟨trivial, by simp, call_among ht htl fun fin => ⟨rfl, q⟩⟩
theorem outD_tup (o : Out) : ∃ ds, outD o = .tup ds := by cases o <;> exact ⟨_, rfl⟩
theorem ok_out (o : Out) : D.ok 64 (outD o) = true := by
  have h1 : PyData.strOk (Str.ofString "bound") = true := by decide +kernel
  have h2 : PyData.strOk (Str.ofString "ambiguous") = true := by decide +kernel
  have h3 : PyData.strOk (Str.ofString "unbound") = true := by decide +kernel
  have h4 : PyData.strOk (Str.ofString "phase") = true := by decide +kernel
  cases o <;> simp [outD, D.ok, D.oks, h1, h2, h3, h4]
theorem eqv_out (a b : Out) : D.eqv (outD a) (outD b) = decide (a = b) := by rw [code_out.eqv]
def F_judge : TF := fun ms G => ∃ (m0 : M) (t : List Row) (ph r : Int) (nm : Str) (sc : List Sc) (o : Out), ms = [m0, .im (.int ph), .im (idD nm r sc), .im (outD o)] ∧ (m0 = .ls (t.map rowD) ∨ m0 = .im (.tup (t.map rowD))) ∧ TabOk t ∧ t.length ≤ 100 ∧
  G (.im (.bl (decide (outT t ph nm sc = o)))) [some m0, some (.im (.int ph)), some (.im (idD nm r sc)), some (.im (outD o))]
theorem body_judge : Body F_judge 4 4 (t_judge_outcome F_resolve) := by
  rintro ms G hl ⟨m0, t, ph, r, nm, sc, o, rfl, hm0, ht, htl, q⟩
  show t_judge_outcome _ _ [Sl.pa m0, Sl.pa (.im (.int ph)), Sl.pa (.im (idD nm r sc)), Sl.pa (.im (outD o))]
  unfold t_judge_outcome
  obtain ⟨ds, hds⟩ := outD_tup (outT t ph nm sc)
  obtain ⟨es, hes⟩ := outD_tup o
  have fin : ∀ Q : Prop, Q → D.ok 64 (outD (outT t ph nm sc)) = true ∧ D.ok 64 (outD o) = true ∧ Q := fun Q h => ⟨ok_out _, ok_out _, h⟩
  rcases hm0 with rfl | rfl
  · walk_at "y"
    refine ⟨rfl, by simp, .ls (t.map rowD), t, ph, r, nm, sc, rfl, .inl rfl, ht, htl, rfl, ?_⟩
    walk_at "y"
    rw [hds, hes]
    walk_at "y"
    rw [← hds, ← hes]
    refine ⟨ok_out _, ok_out _, ?_⟩
    rw [eqv_out, Bool.false_xor]
    exact q
  · walk_at "y"
    refine ⟨rfl, by simp, .im (.tup (t.map rowD)), t, ph, r, nm, sc, rfl, .inr rfl, ht, htl, rfl, ?_⟩
    walk_at "y"
    rw [hds, hes]
    walk_at "y"
    rw [← hds, ← hes]
    refine ⟨ok_out _, ok_out _, ?_⟩
    rw [eqv_out, Bool.false_xor]
    exact q
end Y
namespace Y
set_option hygiene false
open PySem PySem.Spec L2
local macro_rules | `(tactic| walk_at "y") => `(tactic| dsimp only [sNil, sBk, sCt, sDrop, sIf, asg, sAsg, sRet, sRetN, tIm, tNm, tBin, w2, vw, Sl.m?, tTst, tTru, M.tru, tAndQ, tOrQ, tNotQ, tAndX, tOrX, tNotX, tIfX, lNil, lCons, tFrz, froz, tTp, tLs, tCl, vws, tMt, Sl.m!, Sl.up, M.res, gLen, gInt, gAdd, gSub, gMul, gDiv, gMod, gPow, gII, gI0, gEqs, gEqs2, gIx, gPop, gApp, gRev, gExt, gTuple, gList, gDict, gIs, gIsi, gAll, gIns, gSorted, gSl, M.lq?, M.lst?, M.sq?, M.dat?, M.isNon, gLt, gLe, gGt, gGe, sFor, iSeq, srcOf, iEnm, enmOf, iRg1, iRg2, bnd, setAll, backS, Sl.isP, tSlc, pNo, pSo, sSetI, hasM, setM, tDspK, tDspT, pairG, D.key?, D.keys?, D.tkey?, putAll, tNewK, tNewT, tNeg, sUnp, tCall, argMs, argM, argS, slots, putB, stepB, putS_lo_ls_ls, putS_lo_ls_dk, putS_lo_ls_dt, putS_lo_ls_no, putS_pa_ls_ls, putS_pa_ls_dk, putS_pa_ls_dt, putS_pa_ls_no, putS_lo_rd_ls, putS_lo_rd_dk, putS_lo_rd_dt, putS_lo_rd_no, putS_pa_rd_ls, putS_pa_rd_dk, putS_pa_rd_dt, putS_pa_rd_no, putS_lo_dk_ls, putS_lo_dk_dk, putS_lo_dk_dt, putS_lo_dk_no, putS_pa_dk_ls, putS_pa_dk_dk, putS_pa_dk_dt, putS_pa_dk_no, putS_lo_dt_ls, putS_lo_dt_dk, putS_lo_dt_dt, putS_lo_dt_no, putS_pa_dt_ls, putS_pa_dt_dk, putS_pa_dt_dt, putS_pa_dt_no, putS_lo_im, putS_lo_sq, putS_pa_im, putS_pa_sq, M.own, M.fit, fins, Sl.fin, envOf, tLcX, compL, wipeE, restE, keepS, qYes, kD, dGet, List.getElem?_cons_zero, List.getElem?_cons_succ, List.getElem?_nil, List.set_cons_zero, List.set_cons_succ, List.map_cons, List.map_nil, List.take_succ_cons, List.take_zero, List.length_cons, List.length_nil, List.head?_cons, List.tail_cons, Option.join_some, List.cons_append, List.nil_append, List.replicate, tg_cells, tg_at, tg_left, tg_seed, tg_salt, tp_at, tp_left, tp_salt])
local macro_rules | `(tactic| walk_at "n") => `(tactic| ((try dsimp only); refine seq_step fun R hR => ?_; walk_at "y"))
local macro_rules | `(tactic| walk_at "i") => `(tactic| simp only [Bool.false_xor, Bool.true_xor, Bool.not_true, Bool.not_false, Bool.false_eq_true, reduceIte, isiT, M.ty, String.reduceBEq, Bool.or_false, Bool.false_or, Bool.and_false, Bool.and_true, Bool.true_and, Bool.false_and, Bool.or_true, List.mem_cons, true_or, or_true, true_and, and_true, String.reduceEq, decide_true, decide_false])
local macro_rules | `(tactic| walk_at "s") => `(tactic| (subst hR; walk_at "n"))
local macro_rules | `(tactic| walk_at "z") => `(tactic| (simp only [List.map_cons, List.map_nil, atI_c0, atI_c1, atI_c2, atI_c3, atI_c4, atI_c5]; (try walk_at "y")))
theorem ne_unbound_phase : (Str.ofString "unbound" = Str.ofString "phase") = False := eq_false (by decide +kernel)
theorem ne_unbound_bound : (Str.ofString "unbound" = Str.ofString "bound") = False := eq_false (by decide +kernel)
theorem ne_unbound_ambiguous : (Str.ofString "unbound" = Str.ofString "ambiguous") = False := eq_false (by decide +kernel)
theorem ne_phase_unbound : (Str.ofString "phase" = Str.ofString "unbound") = False := eq_false (by decide +kernel)
theorem ne_phase_bound : (Str.ofString "phase" = Str.ofString "bound") = False := eq_false (by decide +kernel)
theorem ne_phase_ambiguous : (Str.ofString "phase" = Str.ofString "ambiguous") = False := eq_false (by decide +kernel)
theorem ne_bound_unbound : (Str.ofString "bound" = Str.ofString "unbound") = False := eq_false (by decide +kernel)
theorem ne_bound_phase : (Str.ofString "bound" = Str.ofString "phase") = False := eq_false (by decide +kernel)
theorem ne_bound_ambiguous : (Str.ofString "bound" = Str.ofString "ambiguous") = False := eq_false (by decide +kernel)
theorem ne_ambiguous_unbound : (Str.ofString "ambiguous" = Str.ofString "unbound") = False := eq_false (by decide +kernel)
theorem ne_ambiguous_phase : (Str.ofString "ambiguous" = Str.ofString "phase") = False := eq_false (by decide +kernel)
theorem ne_ambiguous_bound : (Str.ofString "ambiguous" = Str.ofString "bound") = False := eq_false (by decide +kernel)
local macro_rules | `(tactic| walk_at "w") => `(tactic| (simp only [ne_unbound_phase, ne_unbound_bound, ne_unbound_ambiguous, ne_phase_unbound, ne_phase_bound, ne_phase_ambiguous, ne_bound_unbound, ne_bound_phase, ne_bound_ambiguous, ne_ambiguous_unbound, ne_ambiguous_phase, ne_ambiguous_bound, Bool.false_xor, Bool.true_xor, decide_true, decide_false, Bool.not_true, Bool.not_false, Bool.false_eq_true, reduceIte, true_and, List.map_cons, List.map_nil, atI_c0, atI_c1, atI_c2, atI_c3, atI_c4, atI_c5]; (try walk_at "y")))
def F_binder : TF := fun ms G => ∃ (n1 n2 : Str) (r1 r2 : Int) (s1 s2 : List Sc), ms = [.im (idD n1 r1 s1), .im (idD n2 r2 s2)] ∧ ∀ fin, G (.im (.bl (decide (n1 = n2) && decide (s1 = s2)))) fin
theorem body_binder : Body F_binder 2 2 t_same_binder := by
  rintro ms G hl ⟨n1, n2, r1, r2, s1, s2, rfl, q⟩
  show t_same_binder _ [Sl.pa (.im (idD n1 r1 s1)), Sl.pa (.im (idD n2 r2 s2))]
  unfold t_same_binder idD
  walk_at "y"
  walk_at "z"
  rw [Bool.false_xor]
  by_cases h : n1 = n2
  · rw [if_pos (by simpa using h)]
    refine ⟨ok_tup_sc _ _, ok_tup_sc _ _, ?_⟩
    rw [eqv_tup_sc, Bool.false_xor]
    have := q [some (.im (idD n1 r1 s1)), some (.im (idD n2 r2 s2))]
    rw [decide_eq_true h, Bool.true_and] at this
    exact this
  · rw [if_neg (by simpa using h)]
    have := q [some (.im (idD n1 r1 s1)), some (.im (idD n2 r2 s2))]
    rw [decide_eq_false h, Bool.false_and] at this
    exact this
def refD (t : List Row) (n1 n2 : Str) : Out → Out → D
  | .amb _ _, _ => .non
  | _, .amb _ _ => .non
  | .bound a, .bound b => .bl (decide ((t[a.toNat]?).map Row.tg = (t[b.toNat]?).map Row.tg))
  | .bound _, _ => .bl false
  | _, .bound _ => .bl false
  | _, _ => .bl (decide (n1 = n2))
def OutIn (t : List Row) (o : Out) : Prop := ∀ k, o = .bound k → 0 ≤ k ∧ k < t.length
theorem row_at {t : List Row} {k : Int} (h : 0 ≤ k ∧ k < t.length) : ∃ r, t[k.toNat]? = some r ∧ atI (t.map rowD) k = some (rowD r) := by
  obtain ⟨x, hx, hx2⟩ := atI_ok (xs := t) h.1 h.2
  exact ⟨x, hx2, by rw [atI_map, hx]; rfl⟩
theorem strOk_ws : PyData.strOk (Str.ofString "local") = true ∧ PyData.strOk (Str.ofString "prim") = true ∧ PyData.strOk (Str.ofString "list") = true ∧ PyData.strOk (Str.ofString "top") = true := by decide +kernel
theorem ok_tg (a : Tg) : D.ok 64 (tgD a) = true := by
  cases a <;> simp [tgD, D.ok, D.oks, strOk_ws, strOk_m]
def F_outs : TF := fun ms G => ∃ (t : List Row) (n1 n2 : Str) (o1 o2 : Out), ms = [.im (.tup [.str n1, outD o1]), .im (.tup [.str n2, outD o2]), .im (.tup (t.map rowD))] ∧ OutIn t o1 ∧ OutIn t o2 ∧ ∀ fin, G (.im (refD t n1 n2 o1 o2)) fin
theorem tgs_eq {t : List Row} {a b : Int} {ra rb : Row} (ha : t[a.toNat]? = some ra) (hb : t[b.toNat]? = some rb) : decide ((t[a.toNat]?).map Row.tg = (t[b.toNat]?).map Row.tg) = D.eqv (tgD ra.tg) (tgD rb.tg) := by
  rw [ha, hb, code_tg.eqv]; simp
theorem tgD_tup (a : Tg) : ∃ ds, tgD a = .tup ds := by cases a <;> exact ⟨_, rfl⟩
theorem outs_bb {t : List Row} {n1 n2 : Str} {a b : Int} {G : M → List (Option M) → Prop} (h1 : 0 ≤ a ∧ a < t.length) (h2 : 0 ≤ b ∧ b < t.length)
    (q : ∀ fin, G (.im (.bl (decide ((t[a.toNat]?).map Row.tg = (t[b.toNat]?).map Row.tg)))) fin) :
    t_same_outcomes { nx := fun ρ => G (.im .non) (fins 3 ρ), rt := fun m ρ => G m (fins 3 ρ) } [Sl.pa (.im (.tup [.str n1, .tup [.str "bound", .int a]])), Sl.pa (.im (.tup [.str n2, .tup [.str "bound", .int b]])), Sl.pa (.im (.tup (t.map rowD)))] := by
  obtain ⟨ra, x1, x2⟩ := row_at h1
  obtain ⟨rb, y1, y2⟩ := row_at h2
  have x3 := tgs_eq x1 y1
  obtain ⟨da, ea⟩ := tgD_tup ra.tg
  obtain ⟨db, eb⟩ := tgD_tup rb.tg
  unfold t_same_outcomes
  walk_at "n"
  walk_at "w"
  subst hR
  walk_at "n"
  walk_at "w"
  rw [x2, y2, show rowD ra = .tup [.int ra.ph, .str ra.nm, .tup (ra.sc.map scD), tgD ra.tg] from rfl, show rowD rb = .tup [.int rb.ph, .str rb.nm, .tup (rb.sc.map scD), tgD rb.tg] from rfl]
  walk_at "y"
  walk_at "w"
  rw [ea, eb]
  walk_at "y"
  rw [← ea, ← eb]
  refine ⟨ok_tg _, ok_tg _, ?_⟩
  rw [← x3]
  exact q _
theorem body_outs : Body F_outs 3 3 t_same_outcomes := by
  rintro ms G hl ⟨t, n1, n2, o1, o2, rfl, h1, h2, q⟩
  show t_same_outcomes _ [Sl.pa (.im (.tup [.str n1, outD o1])), Sl.pa (.im (.tup [.str n2, outD o2])), Sl.pa (.im (.tup (t.map rowD)))]
  cases o1 <;> cases o2
  case bound.bound => exact outs_bb (h1 _ rfl) (h2 _ rfl) q
  all_goals unfold outD t_same_outcomes
  all_goals (walk_at "n"; walk_at "w")
  all_goals first
    | exact q _
    | (subst hR; walk_at "n"; walk_at "w"; subst hR; walk_at "y"; walk_at "w"; first
      | exact q _
      | exact ⟨trivial, q _⟩)
end Y
namespace Y
set_option hygiene false
open PySem PySem.Spec L2
local macro_rules | `(tactic| walk_at "y") => `(tactic| dsimp only [sNil, sBk, sCt, sDrop, sIf, asg, sAsg, sRet, sRetN, tIm, tNm, tBin, w2, vw, Sl.m?, tTst, tTru, M.tru, tAndQ, tOrQ, tNotQ, tAndX, tOrX, tNotX, tIfX, lNil, lCons, tFrz, froz, tTp, tLs, tCl, vws, tMt, Sl.m!, Sl.up, M.res, gLen, gInt, gAdd, gSub, gMul, gDiv, gMod, gPow, gII, gI0, gEqs, gEqs2, gIx, gPop, gApp, gRev, gExt, gTuple, gList, gDict, gIs, gIsi, gAll, gIns, gSorted, gSl, M.lq?, M.lst?, M.sq?, M.dat?, M.isNon, gLt, gLe, gGt, gGe, sFor, iSeq, srcOf, iEnm, enmOf, iRg1, iRg2, bnd, setAll, backS, Sl.isP, tSlc, pNo, pSo, sSetI, hasM, setM, tDspK, tDspT, pairG, D.key?, D.keys?, D.tkey?, putAll, tNewK, tNewT, tNeg, sUnp, tCall, argMs, argM, argS, slots, putB, stepB, putS_lo_ls_ls, putS_lo_ls_dk, putS_lo_ls_dt, putS_lo_ls_no, putS_pa_ls_ls, putS_pa_ls_dk, putS_pa_ls_dt, putS_pa_ls_no, putS_lo_rd_ls, putS_lo_rd_dk, putS_lo_rd_dt, putS_lo_rd_no, putS_pa_rd_ls, putS_pa_rd_dk, putS_pa_rd_dt, putS_pa_rd_no, putS_lo_dk_ls, putS_lo_dk_dk, putS_lo_dk_dt, putS_lo_dk_no, putS_pa_dk_ls, putS_pa_dk_dk, putS_pa_dk_dt, putS_pa_dk_no, putS_lo_dt_ls, putS_lo_dt_dk, putS_lo_dt_dt, putS_lo_dt_no, putS_pa_dt_ls, putS_pa_dt_dk, putS_pa_dt_dt, putS_pa_dt_no, putS_lo_im, putS_lo_sq, putS_pa_im, putS_pa_sq, M.own, M.fit, fins, Sl.fin, envOf, tLcX, compL, wipeE, restE, keepS, qYes, kD, dGet, List.getElem?_cons_zero, List.getElem?_cons_succ, List.getElem?_nil, List.set_cons_zero, List.set_cons_succ, List.map_cons, List.map_nil, List.take_succ_cons, List.take_zero, List.length_cons, List.length_nil, List.head?_cons, List.tail_cons, Option.join_some, List.cons_append, List.nil_append, List.replicate, tg_cells, tg_at, tg_left, tg_seed, tg_salt, tp_at, tp_left, tp_salt])
local macro_rules | `(tactic| walk_at "n") => `(tactic| ((try dsimp only); refine seq_step fun R hR => ?_; walk_at "y"))
local macro_rules | `(tactic| walk_at "i") => `(tactic| simp only [Bool.false_xor, Bool.true_xor, Bool.not_true, Bool.not_false, Bool.false_eq_true, reduceIte, isiT, M.ty, String.reduceBEq, Bool.or_false, Bool.false_or, Bool.and_false, Bool.and_true, Bool.true_and, Bool.false_and, Bool.or_true, List.mem_cons, true_or, or_true, true_and, and_true, String.reduceEq, decide_true, decide_false])
local macro_rules | `(tactic| walk_at "s") => `(tactic| (subst hR; walk_at "n"))
local macro_rules | `(tactic| walk_at "z") => `(tactic| (simp only [List.map_cons, List.map_nil, atI_c0, atI_c1, atI_c2, atI_c3, atI_c4, atI_c5]; (try walk_at "y")))
local macro_rules | `(tactic| walk_at "w") => `(tactic| (simp only [ne_unbound_phase, ne_unbound_bound, ne_unbound_ambiguous, ne_phase_unbound, ne_phase_bound, ne_phase_ambiguous, ne_bound_unbound, ne_bound_phase, ne_bound_ambiguous, ne_ambiguous_unbound, ne_ambiguous_phase, ne_ambiguous_bound, Bool.false_xor, Bool.true_xor, decide_true, decide_false, Bool.not_true, Bool.not_false, Bool.false_eq_true, reduceIte, true_and, List.map_cons, List.map_nil, atI_c0, atI_c1, atI_c2, atI_c3, atI_c4, atI_c5]; (try walk_at "y")))
theorem out_in (t : List Row) (ph : Int) (nm : Str) (sc : List Sc) : OutIn t (outT t ph nm sc) := by
  have key : ∀ p ∈ bestT t ph nm sc, 0 ≤ p.1 ∧ p.1 < t.length := fun p hp => by
    have h1 := (List.mem_filter.mp hp).1
    have h2 := (List.mem_filter.mp h1).1
    have h3 := en_at (List.mem_filter.mp h2).1
    omega
  intro k e
  unfold outT at e
  split at e
  · split at e <;> cases e
  · split at e
    · rename_i p hb
      cases e
      exact key p (by rw [hb]; simp)
    · cases e
    · cases e
def F_sref : TF := fun ms G => ∃ (t : List Row) (ph r1 r2 : Int) (n1 n2 : Str) (s1 s2 : List Sc), ms = [.im (.tup (t.map rowD)), .im (.int ph), .im (idD n1 r1 s1), .im (idD n2 r2 s2)] ∧ TabOk t ∧ t.length ≤ 100 ∧
  ∀ fin, G (.im (refD t n1 n2 (outT t ph n1 s1) (outT t ph n2 s2))) fin
theorem id_nm (n : Str) (r : Int) (s : List Sc) : idD n r s = .tup [.str "id", .str n, .tup [.str "m", .int r], .tup (s.map scD)] := rfl
theorem body_sref : Body F_sref 6 4 (t_same_reference F_resolve F_outs) := by
  rintro ms G hl ⟨t, ph, r1, r2, n1, n2, s1, s2, rfl, ht, htl, q⟩
  show t_same_reference _ _ _ [Sl.pa (.im (.tup (t.map rowD))), Sl.pa (.im (.int ph)), Sl.pa (.im (idD n1 r1 s1)), Sl.pa (.im (idD n2 r2 s2)), .no, .no]
  unfold t_same_reference
  rw [id_nm n1 r1 s1, id_nm n2 r2 s2]
  walk_at "n"
  walk_at "z"
  refine ⟨trivial, by simp, _, t, ph, r1, n1, s1, rfl, .inr rfl, ht, htl, rfl, ?_⟩
  walk_at "y"
  refine ⟨by rw [sizeLine_eq]; omega, ?_⟩
  subst hR
  walk_at "n"
  walk_at "z"
  refine ⟨trivial, by simp, _, t, ph, r2, n2, s2, rfl, .inr rfl, ht, htl, rfl, ?_⟩
  walk_at "y"
  refine ⟨by rw [sizeLine_eq]; omega, ?_⟩
  subst hR
  walk_at "y"
  exact ⟨rfl, by simp, t, n1, n2, _, _, rfl, out_in _ _ _ _, out_in _ _ _ _, fun fin => ⟨rfl, q _⟩⟩
def F_incl : TF := fun ms G => ∃ s t : List Sc, ms = [.im (.tup (t.map scD)), .im (.tup (s.map scD))] ∧ s.length ≤ 100000 ∧ ∀ fin, G (.im (.bl (sub s t))) fin
theorem filter_nil {s t : List Sc} : decide ((s.filter fun x => !decide (x ∈ t)) = []) = sub s t := by
  cases e : sub s t with
  | true =>
    rw [decide_eq_true_eq, List.filter_eq_nil_iff]
    intro a ha
    simp [sub_iff.mp e a ha]
  | false =>
    rw [decide_eq_false_iff_not, List.filter_eq_nil_iff]
    intro h
    have : sub s t = true := sub_iff.mpr fun x hx => by simpa using h x hx
    rw [this] at e
    cases e
theorem code_lst_sc : Code fun s : List Sc => D.lst (s.map scD) := ⟨fun a => by simp only [D.std]; exact code_sc.stds a, fun a b h => code_sc.inj_map (by simpa using h)⟩
theorem ok_lst_sc (s : List Sc) (n : Nat) : D.ok (n + 2) (.lst (s.map scD)) = true := by simp only [D.ok]; exact oks_sc s n
theorem body_incl : Body F_incl 3 2 t__law_includes := by
  rintro ms G hl ⟨s, t, rfl, hs, q⟩
  show t__law_includes _ [Sl.pa (.im (.tup (t.map scD))), Sl.pa (.im (.tup (s.map scD))), .no]
  unfold t__law_includes
  walk_at "y"
  refine comp_fix scD (fun x => if (!decide (x ∈ t)) = true then some (scD x) else none) trivial s [] (fun x hx acc L hacc hL => ?_) (by rw [sizeLine_eq]; simp; omega) ?_
  · rw [show scD x = D.tup [.str "m", .int x.1, .int x.2] from rfl]
    rw [show scD x = D.tup [.str "m", .int x.1, .int x.2] from rfl] at hL
    walk_at "y"
    refine ⟨ok_sc x 63, oks_sc t 62, ?_⟩
    rw [show D.tup [.str (Str.ofString "m"), .int x.1, .int x.2] = scD x from rfl, mem_sc, Bool.true_xor]
    by_cases h : x ∈ t
    · rw [if_neg (by simp [h])]
      rw [if_neg (by simp [h])] at hL
      exact hL
    · rw [if_pos (by simp [h])]
      rw [if_pos (by simp [h])] at hL
      exact ⟨hacc, hL⟩
  · rw [fm_if, List.nil_append]
    walk_at "y"
    refine ⟨by rw [sizeLine_eq]; omega, ok_lst_sc _ 62, by decide, ?_⟩
    rw [show (D.lst ([] : List D)) = D.lst (([] : List Sc).map scD) from rfl, code_lst_sc.eqv, Bool.false_xor]
    have := q [some (.im (.tup (t.map scD))), some (.im (.tup (s.map scD)))]
    rw [← filter_nil] at this
    exact this
end Y
namespace Y
set_option hygiene false
open PySem PySem.Spec L2
local macro_rules | `(tactic| walk_at "y") => `(tactic| dsimp only [sNil, sBk, sCt, sDrop, sIf, asg, sAsg, sRet, sRetN, tIm, tNm, tBin, w2, vw, Sl.m?, tTst, tTru, M.tru, tAndQ, tOrQ, tNotQ, tAndX, tOrX, tNotX, tIfX, lNil, lCons, tFrz, froz, tTp, tLs, tCl, vws, tMt, Sl.m!, Sl.up, M.res, gLen, gInt, gAdd, gSub, gMul, gDiv, gMod, gPow, gII, gI0, gEqs, gEqs2, gIx, gPop, gApp, gRev, gExt, gTuple, gList, gDict, gIs, gIsi, gAll, gIns, gSorted, gSl, M.lq?, M.lst?, M.sq?, M.dat?, M.isNon, gLt, gLe, gGt, gGe, sFor, iSeq, srcOf, iEnm, enmOf, iRg1, iRg2, bnd, setAll, backS, Sl.isP, tSlc, pNo, pSo, sSetI, hasM, setM, tDspK, tDspT, pairG, D.key?, D.keys?, D.tkey?, putAll, tNewK, tNewT, tNeg, sUnp, tCall, argMs, argM, argS, slots, putB, stepB, putS_lo_ls_ls, putS_lo_ls_dk, putS_lo_ls_dt, putS_lo_ls_no, putS_pa_ls_ls, putS_pa_ls_dk, putS_pa_ls_dt, putS_pa_ls_no, putS_lo_rd_ls, putS_lo_rd_dk, putS_lo_rd_dt, putS_lo_rd_no, putS_pa_rd_ls, putS_pa_rd_dk, putS_pa_rd_dt, putS_pa_rd_no, putS_lo_dk_ls, putS_lo_dk_dk, putS_lo_dk_dt, putS_lo_dk_no, putS_pa_dk_ls, putS_pa_dk_dk, putS_pa_dk_dt, putS_pa_dk_no, putS_lo_dt_ls, putS_lo_dt_dk, putS_lo_dt_dt, putS_lo_dt_no, putS_pa_dt_ls, putS_pa_dt_dk, putS_pa_dt_dt, putS_pa_dt_no, putS_lo_im, putS_lo_sq, putS_pa_im, putS_pa_sq, M.own, M.fit, fins, Sl.fin, envOf, tLcX, compL, wipeE, restE, keepS, qYes, kD, dGet, List.getElem?_cons_zero, List.getElem?_cons_succ, List.getElem?_nil, List.set_cons_zero, List.set_cons_succ, List.map_cons, List.map_nil, List.take_succ_cons, List.take_zero, List.length_cons, List.length_nil, List.head?_cons, List.tail_cons, Option.join_some, List.cons_append, List.nil_append, List.replicate, tg_cells, tg_at, tg_left, tg_seed, tg_salt, tp_at, tp_left, tp_salt])
local macro_rules | `(tactic| walk_at "n") => `(tactic| ((try dsimp only); refine seq_step fun R hR => ?_; walk_at "y"))
local macro_rules | `(tactic| walk_at "i") => `(tactic| simp only [Bool.false_xor, Bool.true_xor, Bool.not_true, Bool.not_false, Bool.false_eq_true, reduceIte, isiT, M.ty, String.reduceBEq, Bool.or_false, Bool.false_or, Bool.and_false, Bool.and_true, Bool.true_and, Bool.false_and, Bool.or_true, List.mem_cons, true_or, or_true, true_and, and_true, String.reduceEq, decide_true, decide_false])
local macro_rules | `(tactic| walk_at "s") => `(tactic| (subst hR; walk_at "n"))
local macro_rules | `(tactic| walk_at "z") => `(tactic| (simp only [List.map_cons, List.map_nil, atI_c0, atI_c1, atI_c2, atI_c3, atI_c4, atI_c5]; (try walk_at "y")))
local macro_rules | `(tactic| walk_at "w") => `(tactic| (simp only [ne_unbound_phase, ne_unbound_bound, ne_unbound_ambiguous, ne_phase_unbound, ne_phase_bound, ne_phase_ambiguous, ne_bound_unbound, ne_bound_phase, ne_bound_ambiguous, ne_ambiguous_unbound, ne_ambiguous_phase, ne_ambiguous_bound, Bool.false_xor, Bool.true_xor, decide_true, decide_false, Bool.not_true, Bool.not_false, Bool.false_eq_true, reduceIte, true_and, List.map_cons, List.map_nil, atI_c0, atI_c1, atI_c2, atI_c3, atI_c4, atI_c5]; (try walk_at "y")))
theorem gRng_en : ∀ (t : List Row) (lo : Int), gRng lo t.length = (en lo t).map fun p => D.int p.1
  | [], _ => rfl
  | r :: t, lo => by rw [List.length_cons, gRng_succ, gRng_en t (lo + 1), en, List.map_cons]
theorem en_atI {t : List Row} {p : IRow} (h : p ∈ en 0 t) : atI (t.map rowD) p.1 = some (rowD p.2) := by
  have e := en_at h
  obtain ⟨x, hx, hx2⟩ := atI_ok (xs := t) (i := p.1) e.1 (by omega)
  rw [Int.sub_zero] at e
  rw [atI_map, hx]
  rw [e.2.2] at hx2
  cases hx2
  rfl
def F_outcome : TF := fun ms G => ∃ (t : List Row) (ph r : Int) (nm : Str) (sc : List Sc), ms = [.ls (t.map rowD), .im (.int ph), .im (idD nm r sc)] ∧ TabOk t ∧ t.length ≤ 100 ∧
  G (.im (outD (outT t ph nm sc))) [some (.ls (t.map rowD)), some (.im (.int ph)), some (.im (idD nm r sc))]
theorem en_inj {t : List Row} {p o : IRow} (hp : p ∈ en 0 t) (ho : o ∈ en 0 t) (h : p.1 = o.1) : p = o := by
  have e1 := (en_at hp).2.2
  have e2 := (en_at ho).2.2
  rw [h] at e1
  rw [e1] at e2
  obtain ⟨a, b⟩ := p
  obtain ⟨c, d⟩ := o
  simp at h e2
  rw [h, e2]
theorem here_mem {t : List Row} {ph : Int} {nm : Str} {sc : List Sc} {p : IRow} (h : p ∈ hereT t ph nm sc) : p ∈ en 0 t ∧ p.2.ph = ph ∧ p.2.nm = nm := by
  have h1 := List.mem_filter.mp h
  have h2 := List.mem_filter.mp h1.1
  simp at h1 h2
  exact ⟨h2.1, h1.2, h2.2.1⟩
/-- two rows that stand here: other places, other scopes -/
theorem here_ne {t : List Row} (ht : TabOk t) {ph : Int} {nm : Str} {sc : List Sc} {p o : IRow} (hp : p ∈ hereT t ph nm sc) (ho : o ∈ hereT t ph nm sc) : decide (p.2.sc ≠ o.2.sc) = decide (o.1 ≠ p.1) := by
  obtain ⟨p1, p2, p3⟩ := here_mem hp
  obtain ⟨o1, o2, o3⟩ := here_mem ho
  by_cases h : o.1 = p.1
  · rw [en_inj o1 p1 h]; simp
  · have : ¬ p.2.sc = o.2.sc := fun z => by
      refine h ?_
      have ek : p.2.key = o.2.key := by
        have a1 : p.2.key.1 = o.2.key.1 := p2.trans o2.symm
        have a2 : p.2.key.2.1 = o.2.key.2.1 := p3.trans o3.symm
        have a3 : p.2.key.2.2 = o.2.key.2.2 := z
        exact Prod.ext a1 (Prod.ext a2 a3)
      have e1 := (en_at p1).2.2
      have e2 := (en_at o1).2.2
      have b1 := en_at p1
      have b2 := en_at o1
      have k1 : (t.map Row.key)[(p.1 - 0).toNat]? = some p.2.key := by rw [List.getElem?_map, e1]; rfl
      have k2 : (t.map Row.key)[(o.1 - 0).toNat]? = some o.2.key := by rw [List.getElem?_map, e2]; rfl
      have hlt : (p.1 - 0).toNat < (t.map Row.key).length := by rw [List.length_map]; omega
      have := (List.getElem?_inj hlt ht.nd).mp (k1.trans (by rw [ek]; exact k2.symm))
      omega
    simp [h, this]
abbrev ixD (p : IRow) : D := .int p.1
theorem code_ints : Code fun s : List Int => D.lst (s.map D.int) := ⟨fun a => by
    simp only [D.std, D.stds_all, List.all_eq_true]
    intro d hd
    obtain ⟨i, _, rfl⟩ := List.mem_map.mp hd
    rfl, fun a b h => by
    have h : a.map D.int = b.map D.int := by simpa using h
    have e := congrArg (List.map fun d : D => match d with
      | .int i => i
      | _ => 0) h
    simpa [List.map_map, Function.comp_def] using e⟩
theorem ok_ints (s : List Int) : D.ok 64 (.lst (s.map D.int)) = true := by
  simp only [D.ok, D.oks_all, List.all_eq_true]
  intro d hd
  obtain ⟨i, _, rfl⟩ := List.mem_map.mp hd
  rfl
theorem ixs (h : List IRow) : h.map ixD = (h.map (·.1)).map D.int := by rw [List.map_map]; rfl
/-- xs == [] of a list of places -/
theorem nil_cmp (h : List IRow) : D.ok 64 (.lst (h.map ixD)) = true ∧ D.ok 64 (.lst []) = true ∧ D.eqv (.lst (h.map ixD)) (.lst []) = h.isEmpty := by
  rw [ixs]
  refine ⟨ok_ints _, by decide, ?_⟩
  rw [show (D.lst ([] : List D)) = D.lst (([] : List Int).map D.int) from rfl, code_ints.eqv]
  cases h <;> simp
theorem outcome_loop {P : EndP} {t : List Row} (ht : TabOk t) (htl : t.length ≤ 100) {ph : Int} {nm : Str} {sc : List Sc} {s1 s2 s3 : Sl} {v : V} {hs : List IRow} (hhs : hs = hereT t ph nm sc) (hl : hs.length ≤ 100) : ∀ (xs acc : List IRow) (s4 s7 s8 : Sl), (∀ p ∈ xs, p ∈ hs) → acc.length + xs.length ≤ 100 →
    (∀ s4 s7 s8, P.nx [.pa (.ls (t.map rowD)), s1, s2, s3, s4, .hd false v (.ls (hs.map ixD)), .lo (.ls ((acc ++ xs.filter fun p => !hs.any fun o => decide (p.2.sc ≠ o.2.sc) && sub p.2.sc o.2.sc).map ixD)), s7, s8]) →
    loopS (.one 4) (b__law_outcome_1 F_incl) (fun ρ => ρ[5]? = some (.hd false v (.ls (hs.map ixD)))) P (xs.map ixD) [.pa (.ls (t.map rowD)), s1, s2, s3, s4, .hd false v (.ls (hs.map ixD)), .lo (.ls (acc.map ixD)), s7, s8] := by
  intro xs
  induction xs with
  | nil => intro acc s4 s7 s8 _ _ q; refine ⟨rfl, ?_⟩; have := q s4 s7 s8; rw [List.filter_nil, List.append_nil] at this; exact this
  | cons p xs ih =>
    intro acc s4 s7 s8 hm hlen q
    rw [List.length_cons] at hlen
    refine loop_step rfl fun L hL => ?_
    have hp : p ∈ hereT t ph nm sc := hhs ▸ hm p List.mem_cons_self
    have rp := mem_row ht hp
    have ap := en_atI (here_mem hp).1
    unfold b__law_outcome_1
    walk_at "y"
    walk_at "n"
    refine comp_fix ixD (fun o => if (decide (o.1 ≠ p.1) && sub p.2.sc o.2.sc) = true then some (ixD o) else none) (by rfl) hs [] (fun o ho acc2 L2 hacc2 hL2 => ?_) (by rw [sizeLine_eq]; simp; omega) ?_
    · have ho' : o ∈ hereT t ph nm sc := hhs ▸ ho
      have ao := en_atI (here_mem ho').1
      walk_at "y"
      rw [ao, ap]
      rw [show rowD o.2 = .tup [.int o.2.ph, .str o.2.nm, .tup (o.2.sc.map scD), tgD o.2.tg] from rfl, show rowD p.2 = .tup [.int p.2.ph, .str p.2.nm, .tup (p.2.sc.map scD), tgD p.2.tg] from rfl]
      walk_at "y"
      walk_at "z"
      rw [Bool.true_xor]
      by_cases h : o.1 = p.1
      · rw [if_neg (by simp [h]), if_neg (by decide)]
        rw [if_neg (by simp [h])] at hL2
        exact hL2
      · rw [if_pos (by simp [h])]
        refine ⟨trivial, by simp, p.2.sc, o.2.sc, rfl, by have := rp.len; omega, fun fin => ⟨rfl, ?_⟩⟩
        walk_at "y"
        rw [show (decide (o.1 ≠ p.1) && sub p.2.sc o.2.sc) = sub p.2.sc o.2.sc by simp [h]] at hL2
        by_cases h2 : sub p.2.sc o.2.sc = true
        · rw [if_pos h2]
          rw [if_pos h2] at hL2
          exact ⟨hacc2, hL2⟩
        · rw [if_neg h2]
          rw [if_neg h2] at hL2
          exact hL2
    · rw [fm_if, List.nil_append]
      subst hR
      walk_at "y"
      obtain ⟨k1, k2, k3⟩ := nil_cmp (hs.filter fun o => decide (o.1 ≠ p.1) && sub p.2.sc o.2.sc)
      refine ⟨by rw [sizeLine_eq]; omega, k1, k2, ?_⟩
      rw [k3, Bool.false_xor]
      have e : (hs.filter fun o => decide (o.1 ≠ p.1) && sub p.2.sc o.2.sc).isEmpty = !hs.any fun o => decide (p.2.sc ≠ o.2.sc) && sub p.2.sc o.2.sc := by
        rw [Bool.eq_iff_iff, List.isEmpty_iff, List.filter_eq_nil_iff, Bool.not_eq_true', List.any_eq_false]
        constructor
        · intro z o ho
          rw [here_ne ht hp (hhs ▸ ho)]; exact z o ho
        · intro z o ho
          rw [← here_ne ht hp (hhs ▸ ho)]; exact z o ho
      rw [e]
      by_cases h : (!hs.any fun o => decide (p.2.sc ≠ o.2.sc) && sub p.2.sc o.2.sc) = true
      · rw [if_pos h]
        refine ⟨trivial, by rw [List.length_map, sizeLine_eq]; omega, ?_⟩
        rw [show acc.map ixD ++ [D.int p.1] = (acc ++ [p]).map ixD by simp, hL]
        refine ih (acc ++ [p]) _ _ _ (fun o ho => hm o (List.mem_cons_of_mem _ ho)) (by simp; omega) fun a b c => ?_
        have := q a b c
        rw [List.filter_cons, if_pos h] at this
        rw [List.append_assoc]; exact this
      · rw [if_neg h, hL]
        refine ih acc _ _ _ (fun o ho => hm o (List.mem_cons_of_mem _ ho)) (by omega) fun a b c => ?_
        have := q a b c
        rw [List.filter_cons, if_neg h] at this
        exact this
theorem body_outcome : Body F_outcome 9 3 (t__law_outcome F_incl) := by
  rintro ms G hl ⟨t, ph, r, nm, sc, rfl, ht, htl, q⟩
  show t__law_outcome _ _ [Sl.pa (.ls (t.map rowD)), Sl.pa (.im (.int ph)), Sl.pa (.im (idD nm r sc)), .no, .no, .no, .no, .no, .no]
  unfold t__law_outcome
  rw [id_nm] at q ⊢
  walk_at "n"
  rw [List.length_map]
  refine ⟨by omega, by omega, ?_⟩
  rw [Int.toNat_natCast, gRng_en]
  refine comp_fix ixD (fun p => if (decide (p.2.nm = nm) && sub p.2.sc sc) = true then some (ixD p) else none) (by trivial) (en 0 t) [] (fun p hp acc L hacc hL => ?_) (by rw [en_length, sizeLine_eq]; simp; omega) ?_
  · have ap := en_atI hp
    walk_at "y"
    rw [ap]
    rw [show rowD p.2 = .tup [.int p.2.ph, .str p.2.nm, .tup (p.2.sc.map scD), tgD p.2.tg] from rfl]
    walk_at "y"
    walk_at "z"
    rw [Bool.false_xor]
    by_cases h : p.2.nm = nm
    · rw [if_pos (by simpa using h)]
      refine ⟨trivial, by simp, p.2.sc, sc, rfl, by have := (enr_ok ht hp).len; omega, fun fin => ⟨rfl, ?_⟩⟩
      walk_at "y"
      rw [show (decide (p.2.nm = nm) && sub p.2.sc sc) = sub p.2.sc sc by simp [h]] at hL
      by_cases h2 : sub p.2.sc sc = true
      · rw [if_pos h2]
        rw [if_pos h2] at hL
        exact ⟨hacc, hL⟩
      · rw [if_neg h2]
        rw [if_neg h2] at hL
        exact hL
    · rw [if_neg (by simpa using h), if_neg (by decide)]
      rw [if_neg (by simp [h])] at hL
      exact hL
  rw [List.nil_append, fm_if, show ((en 0 t).filter fun p => decide (p.2.nm = nm) && sub p.2.sc sc) = insT t nm sc from rfl]
  have il : (insT t nm sc).length ≤ 100 := by have := List.length_filter_le (fun p : IRow => decide (p.2.nm = nm) && sub p.2.sc sc) (en 0 t); rw [en_length] at this; exact Nat.le_trans this htl
  have hl2 : (hereT t ph nm sc).length ≤ 100 := Nat.le_trans (List.length_filter_le _ _) il
  subst hR
  walk_at "n"
  refine ⟨rfl, fun v => ?_⟩
  refine comp_fix ixD (fun p => if decide (p.2.ph = ph) = true then some (ixD p) else none) (by rfl) (insT t nm sc) [] (fun p hp acc L hacc hL => ?_) (by rw [sizeLine_eq]; simp; omega) ?_
  · have ap := en_atI (List.mem_filter.mp hp).1
    walk_at "y"
    rw [ap]
    rw [show rowD p.2 = .tup [.int p.2.ph, .str p.2.nm, .tup (p.2.sc.map scD), tgD p.2.tg] from rfl]
    walk_at "y"
    walk_at "z"
    rw [Bool.false_xor]
    by_cases h : p.2.ph = ph
    · rw [if_pos (by simpa using h)]
      rw [if_pos (by simpa using h)] at hL
      exact ⟨hacc, hL⟩
    · rw [if_neg (by simpa using h)]
      rw [if_neg (by simpa using h)] at hL
      exact hL
  rw [List.nil_append, fm_if, show ((insT t nm sc).filter fun p => decide (p.2.ph = ph)) = hereT t ph nm sc from rfl]
  subst hR
  walk_at "n"
  obtain ⟨k1, k2, k3⟩ := nil_cmp (hereT t ph nm sc)
  refine ⟨by rw [sizeLine_eq]; omega, k1, k2, ?_⟩
  rw [k3, Bool.false_xor]
  have hout := q
  unfold outT at hout
  cases hhe : hereT t ph nm sc with
  | nil =>
    rw [hhe] at hout
    rw [if_pos (by rfl)]
    obtain ⟨j1, j2, j3⟩ := nil_cmp (insT t nm sc)
    refine ⟨by rw [sizeLine_eq]; omega, j1, j2, ?_⟩
    rw [j3, Bool.true_xor]
    cases hie : insT t nm sc with
    | nil =>
      rw [hie] at hout
      rw [if_neg (by simp)]
      exact ⟨by rw [sizeLine_eq]; omega, hout⟩
    | cons i0 ir =>
      rw [hie] at hout
      rw [if_pos (by simp)]
      exact ⟨by rw [sizeLine_eq]; omega, hout⟩
  | cons h0 hr =>
    rw [if_neg (by simp), ← hhe]
    have hbn := best_ne ht (by rw [hhe]; simp : hereT t ph nm sc ≠ [])
    rw [hhe] at hout
    subst hR
    walk_at "n"
    refine ⟨by rw [sizeLine_eq]; omega, ?_⟩
    subst hR
    walk_at "n"
    refine ⟨rfl, fun v3 => ?_⟩
    refine outcome_loop ht htl rfl hl2 (hereT t ph nm sc) [] _ _ _ (fun p h => h) (by simpa using hl2) fun s4 s7 s8 => ⟨rfl, ?_⟩
    rw [List.nil_append, show ((hereT t ph nm sc).filter fun p => !(hereT t ph nm sc).any fun o => decide (p.2.sc ≠ o.2.sc) && sub p.2.sc o.2.sc) = bestT t ph nm sc from rfl]
    subst hR
    walk_at "y"
    rw [Bool.false_xor, List.length_map]
    cases hbe : bestT t ph nm sc with
    | nil => exact absurd hbe hbn
    | cons p0 pr =>
      rw [hbe] at hout
      cases pr with
      | nil =>
        rw [if_pos (by simp)]
        walk_at "z"
        exact ⟨by rw [sizeLine_eq]; omega, hout⟩
      | cons p1 pr =>
        rw [if_neg (by simp; omega)]
        walk_at "z"
        exact ⟨by rw [sizeLine_eq]; omega, hout⟩
end Y
namespace Y
set_option hygiene false
open PySem PySem.Spec L2
local macro_rules | `(tactic| walk_at "y") => `(tactic| dsimp only [sNil, sBk, sCt, sDrop, sIf, asg, sAsg, sRet, sRetN, tIm, tNm, tBin, w2, vw, Sl.m?, tTst, tTru, M.tru, tAndQ, tOrQ, tNotQ, tAndX, tOrX, tNotX, tIfX, lNil, lCons, tFrz, froz, tTp, tLs, tCl, vws, tMt, Sl.m!, Sl.up, M.res, gLen, gInt, gAdd, gSub, gMul, gDiv, gMod, gPow, gII, gI0, gEqs, gEqs2, gIx, gPop, gApp, gRev, gExt, gTuple, gList, gDict, gIs, gIsi, gAll, gIns, gSorted, gSl, M.lq?, M.lst?, M.sq?, M.dat?, M.isNon, gLt, gLe, gGt, gGe, sFor, iSeq, srcOf, iEnm, enmOf, iRg1, iRg2, bnd, setAll, backS, Sl.isP, tSlc, pNo, pSo, sSetI, hasM, setM, tDspK, tDspT, pairG, D.key?, D.keys?, D.tkey?, putAll, tNewK, tNewT, tNeg, sUnp, tCall, argMs, argM, argS, slots, putB, stepB, putS_lo_ls_ls, putS_lo_ls_dk, putS_lo_ls_dt, putS_lo_ls_no, putS_pa_ls_ls, putS_pa_ls_dk, putS_pa_ls_dt, putS_pa_ls_no, putS_lo_rd_ls, putS_lo_rd_dk, putS_lo_rd_dt, putS_lo_rd_no, putS_pa_rd_ls, putS_pa_rd_dk, putS_pa_rd_dt, putS_pa_rd_no, putS_lo_dk_ls, putS_lo_dk_dk, putS_lo_dk_dt, putS_lo_dk_no, putS_pa_dk_ls, putS_pa_dk_dk, putS_pa_dk_dt, putS_pa_dk_no, putS_lo_dt_ls, putS_lo_dt_dk, putS_lo_dt_dt, putS_lo_dt_no, putS_pa_dt_ls, putS_pa_dt_dk, putS_pa_dt_dt, putS_pa_dt_no, putS_lo_im, putS_lo_sq, putS_pa_im, putS_pa_sq, M.own, M.fit, fins, Sl.fin, envOf, tLcX, compL, wipeE, restE, keepS, qYes, kD, dGet, List.getElem?_cons_zero, List.getElem?_cons_succ, List.getElem?_nil, List.set_cons_zero, List.set_cons_succ, List.map_cons, List.map_nil, List.take_succ_cons, List.take_zero, List.length_cons, List.length_nil, List.head?_cons, List.tail_cons, Option.join_some, List.cons_append, List.nil_append, List.replicate, tg_cells, tg_at, tg_left, tg_seed, tg_salt, tp_at, tp_left, tp_salt])
local macro_rules | `(tactic| walk_at "n") => `(tactic| ((try dsimp only); refine seq_step fun R hR => ?_; walk_at "y"))
local macro_rules | `(tactic| walk_at "i") => `(tactic| simp only [Bool.false_xor, Bool.true_xor, Bool.not_true, Bool.not_false, Bool.false_eq_true, reduceIte, isiT, M.ty, String.reduceBEq, Bool.or_false, Bool.false_or, Bool.and_false, Bool.and_true, Bool.true_and, Bool.false_and, Bool.or_true, List.mem_cons, true_or, or_true, true_and, and_true, String.reduceEq, decide_true, decide_false])
local macro_rules | `(tactic| walk_at "s") => `(tactic| (subst hR; walk_at "n"))
local macro_rules | `(tactic| walk_at "z") => `(tactic| (simp only [List.map_cons, List.map_nil, atI_c0, atI_c1, atI_c2, atI_c3, atI_c4, atI_c5]; (try walk_at "y")))
local macro_rules | `(tactic| walk_at "w") => `(tactic| (simp only [ne_unbound_phase, ne_unbound_bound, ne_unbound_ambiguous, ne_phase_unbound, ne_phase_bound, ne_phase_ambiguous, ne_bound_unbound, ne_bound_phase, ne_bound_ambiguous, ne_ambiguous_unbound, ne_ambiguous_phase, ne_ambiguous_bound, Bool.false_xor, Bool.true_xor, decide_true, decide_false, Bool.not_true, Bool.not_false, Bool.false_eq_true, reduceIte, true_and, List.map_cons, List.map_nil, atI_c0, atI_c1, atI_c2, atI_c3, atI_c4, atI_c5]; (try walk_at "y")))
def F_lref : TF := fun ms G => ∃ (t : List Row) (ph r1 r2 : Int) (n1 n2 : Str) (s1 s2 : List Sc), ms = [.ls (t.map rowD), .im (.int ph), .im (idD n1 r1 s1), .im (idD n2 r2 s2)] ∧ TabOk t ∧ t.length ≤ 100 ∧
  G (.im (refD t n1 n2 (outT t ph n1 s1) (outT t ph n2 s2))) [some (.ls (t.map rowD)), some (.im (.int ph)), some (.im (idD n1 r1 s1)), some (.im (idD n2 r2 s2))]
abbrev lref_rest : TSX := (sSeq (sIf (tOrQ (tTst (tBin (gEqs2 false) (tBin gIx (tNm 4) (tIm (.int 0))) (tIm (.str "ambiguous")))) (tTst (tBin (gEqs2 false) (tBin gIx (tNm 5) (tIm (.int 0))) (tIm (.str "ambiguous"))))) (sRet (tIm .non)) (sNil))
    (sSeq (sIf (tOrQ (tTst (tBin (gEqs2 false) (tBin gIx (tNm 4) (tIm (.int 0))) (tIm (.str "bound")))) (tTst (tBin (gEqs2 false) (tBin gIx (tNm 5) (tIm (.int 0))) (tIm (.str "bound"))))) (sRet (tAndX (tBin (gEqs2 false) (tBin gIx (tNm 4) (tIm (.int 0))) (tBin gIx (tNm 5) (tIm (.int 0)))) (tBin (gEqs2 false) (tBin gIx (tBin gIx (tNm 0) (tBin gIx (tNm 4) (tIm (.int 1)))) (tIm (.int 3))) (tBin gIx (tBin gIx (tNm 0) (tBin gIx (tNm 5) (tIm (.int 1)))) (tIm (.int 3)))))) (sNil))
    (sRet (tBin (gEqs2 false) (tBin gIx (tNm 2) (tIm (.int 1))) (tBin gIx (tNm 3) (tIm (.int 1)))))))
theorem lref_bb {t : List Row} {d1 d2 d3 : D} {a b : Int} {nx : Env → Prop} {G : M → List (Option M) → Prop} (h1 : 0 ≤ a ∧ a < t.length) (h2 : 0 ≤ b ∧ b < t.length)
    (q : G (.im (.bl (decide ((t[a.toNat]?).map Row.tg = (t[b.toNat]?).map Row.tg)))) [some (.ls (t.map rowD)), some (.im d1), some (.im d2), some (.im d3)]) :
    lref_rest { nx := nx, rt := fun m ρ => G m (fins 4 ρ) } [Sl.pa (.ls (t.map rowD)), Sl.pa (.im d1), Sl.pa (.im d2), Sl.pa (.im d3), .lo (.im (.tup [.str "bound", .int a])), .lo (.im (.tup [.str "bound", .int b]))] := by
  obtain ⟨ra, x1, x2⟩ := row_at h1
  obtain ⟨rb, y1, y2⟩ := row_at h2
  have x3 := tgs_eq x1 y1
  obtain ⟨da, ea⟩ := tgD_tup ra.tg
  obtain ⟨db, eb⟩ := tgD_tup rb.tg
  unfold lref_rest
  walk_at "n"
  walk_at "w"
  subst hR
  walk_at "n"
  walk_at "w"
  rw [x2, y2, show rowD ra = .tup [.int ra.ph, .str ra.nm, .tup (ra.sc.map scD), tgD ra.tg] from rfl, show rowD rb = .tup [.int rb.ph, .str rb.nm, .tup (rb.sc.map scD), tgD rb.tg] from rfl]
  walk_at "y"
  walk_at "w"
  rw [ea, eb]
  walk_at "y"
  rw [← ea, ← eb]
  refine ⟨ok_tg _, ok_tg _, ?_⟩
  rw [← x3]
  exact q
theorem lref_all {t : List Row} {n1 n2 : Str} {r1 r2 : Int} {s1 s2 : List Sc} {d1 : D} {o1 o2 : Out} {nx : Env → Prop} {G : M → List (Option M) → Prop} (h1 : OutIn t o1) (h2 : OutIn t o2)
    (q : G (.im (refD t n1 n2 o1 o2)) [some (.ls (t.map rowD)), some (.im d1), some (.im (idD n1 r1 s1)), some (.im (idD n2 r2 s2))]) :
    lref_rest { nx := nx, rt := fun m ρ => G m (fins 4 ρ) } [Sl.pa (.ls (t.map rowD)), Sl.pa (.im d1), Sl.pa (.im (idD n1 r1 s1)), Sl.pa (.im (idD n2 r2 s2)), .lo (.im (outD o1)), .lo (.im (outD o2))] := by
  cases o1 <;> cases o2
  case bound.bound => exact lref_bb (h1 _ rfl) (h2 _ rfl) q
  all_goals
    rw [id_nm] at q ⊢
    rw [id_nm] at q ⊢
    unfold outD lref_rest
    walk_at "n"
    walk_at "w"
    first
    | exact q
    | (subst hR; walk_at "n"; walk_at "w"; first
      | exact q
      | (subst hR; walk_at "y"; walk_at "w"; exact q))
theorem body_lref : Body F_lref 6 4 (t__law_same_reference F_outcome) := by
  rintro ms G hl ⟨t, ph, r1, r2, n1, n2, s1, s2, rfl, ht, htl, q⟩
  show t__law_same_reference _ _ [Sl.pa (.ls (t.map rowD)), Sl.pa (.im (.int ph)), Sl.pa (.im (idD n1 r1 s1)), Sl.pa (.im (idD n2 r2 s2)), .no, .no]
  unfold t__law_same_reference
  walk_at "n"
  refine ⟨rfl, by simp, t, ph, r1, n1, s1, rfl, ht, htl, rfl, ?_⟩
  walk_at "y"
  subst hR
  walk_at "n"
  refine ⟨rfl, by simp, t, ph, r2, n2, s2, rfl, ht, htl, rfl, ?_⟩
  walk_at "y"
  subst hR
  exact lref_all (out_in _ _ _ _) (out_in _ _ _ _) q
end Y
namespace Y
set_option hygiene false
open PySem PySem.Spec L2
local macro_rules | `(tactic| walk_at "y") => `(tactic| dsimp only [sNil, sBk, sCt, sDrop, sIf, asg, sAsg, sRet, sRetN, tIm, tNm, tBin, w2, vw, Sl.m?, tTst, tTru, M.tru, tAndQ, tOrQ, tNotQ, tAndX, tOrX, tNotX, tIfX, lNil, lCons, tFrz, froz, tTp, tLs, tCl, vws, tMt, Sl.m!, Sl.up, M.res, gLen, gInt, gAdd, gSub, gMul, gDiv, gMod, gPow, gII, gI0, gEqs, gEqs2, gIx, gPop, gApp, gRev, gExt, gTuple, gList, gDict, gIs, gIsi, gAll, gIns, gSorted, gSl, M.lq?, M.lst?, M.sq?, M.dat?, M.isNon, gLt, gLe, gGt, gGe, sFor, iSeq, srcOf, iEnm, enmOf, iRg1, iRg2, bnd, setAll, backS, Sl.isP, tSlc, pNo, pSo, sSetI, hasM, setM, tDspK, tDspT, pairG, D.key?, D.keys?, D.tkey?, putAll, tNewK, tNewT, tNeg, sUnp, tCall, argMs, argM, argS, slots, putB, stepB, putS_lo_ls_ls, putS_lo_ls_dk, putS_lo_ls_dt, putS_lo_ls_no, putS_pa_ls_ls, putS_pa_ls_dk, putS_pa_ls_dt, putS_pa_ls_no, putS_lo_rd_ls, putS_lo_rd_dk, putS_lo_rd_dt, putS_lo_rd_no, putS_pa_rd_ls, putS_pa_rd_dk, putS_pa_rd_dt, putS_pa_rd_no, putS_lo_dk_ls, putS_lo_dk_dk, putS_lo_dk_dt, putS_lo_dk_no, putS_pa_dk_ls, putS_pa_dk_dk, putS_pa_dk_dt, putS_pa_dk_no, putS_lo_dt_ls, putS_lo_dt_dk, putS_lo_dt_dt, putS_lo_dt_no, putS_pa_dt_ls, putS_pa_dt_dk, putS_pa_dt_dt, putS_pa_dt_no, putS_lo_im, putS_lo_sq, putS_pa_im, putS_pa_sq, M.own, M.fit, fins, Sl.fin, envOf, tLcX, compL, wipeE, restE, keepS, qYes, kD, dGet, List.getElem?_cons_zero, List.getElem?_cons_succ, List.getElem?_nil, List.set_cons_zero, List.set_cons_succ, List.map_cons, List.map_nil, List.take_succ_cons, List.take_zero, List.length_cons, List.length_nil, List.head?_cons, List.tail_cons, Option.join_some, List.cons_append, List.nil_append, List.replicate, tg_cells, tg_at, tg_left, tg_seed, tg_salt, tp_at, tp_left, tp_salt])
local macro_rules | `(tactic| walk_at "n") => `(tactic| ((try dsimp only); refine seq_step fun R hR => ?_; walk_at "y"))
local macro_rules | `(tactic| walk_at "i") => `(tactic| simp only [Bool.false_xor, Bool.true_xor, Bool.not_true, Bool.not_false, Bool.false_eq_true, reduceIte, isiT, M.ty, String.reduceBEq, Bool.or_false, Bool.false_or, Bool.and_false, Bool.and_true, Bool.true_and, Bool.false_and, Bool.or_true, List.mem_cons, true_or, or_true, true_and, and_true, String.reduceEq, decide_true, decide_false])
local macro_rules | `(tactic| walk_at "s") => `(tactic| (subst hR; walk_at "n"))
local macro_rules | `(tactic| walk_at "z") => `(tactic| (simp only [List.map_cons, List.map_nil, atI_c0, atI_c1, atI_c2, atI_c3, atI_c4, atI_c5]; (try walk_at "y")))
local macro_rules | `(tactic| walk_at "w") => `(tactic| (simp only [ne_unbound_phase, ne_unbound_bound, ne_unbound_ambiguous, ne_phase_unbound, ne_phase_bound, ne_phase_ambiguous, ne_bound_unbound, ne_bound_phase, ne_bound_ambiguous, ne_ambiguous_unbound, ne_ambiguous_phase, ne_ambiguous_bound, Bool.false_xor, Bool.true_xor, decide_true, decide_false, Bool.not_true, Bool.not_false, Bool.false_eq_true, reduceIte, true_and, List.map_cons, List.map_nil, atI_c0, atI_c1, atI_c2, atI_c3, atI_c4, atI_c5]; (try walk_at "y")))
def F_ident : TF := fun ms G => ∃ (kv : List (Key × D)) (m : Int), ms = [.dk kv] ∧ 0 ≤ m ∧ m ≤ 80000 ∧ TapeOk m kv ∧
  ∀ (nm : Str) (r : Int) (sc : List Sc) (kv' : List (Key × D)), sc.length ≤ 1000 → TapeOk (m + 20) kv' → G (.im (idD nm r sc)) [some (.dk kv')]
theorem body_ident : Body F_ident 1 1 (t__law_identifier F_take F_set) := by
  rintro ms G hl ⟨kv, m, rfl, h0, h1, ht, q⟩
  show t__law_identifier _ _ _ [Sl.pa (.dk kv)]
  unfold t__law_identifier
  walk_at "y"
  refine ⟨by rw [sizeLine_eq]; omega, rfl, by simp, kv, 4, m, rfl, by omega, by omega, by omega, ht, fun r kv1 r0 r1 t1 => ⟨rfl, ?_⟩⟩
  walk_at "y"
  obtain ⟨nm, hnm⟩ : ∃ nm : Str, atI [D.str (Str.ofString "x"), D.str (Str.ofString "x"), D.str (Str.ofString "y"), D.str (Str.ofString "z")] r = some (D.str nm) := by
    have : r = 0 ∨ r = 1 ∨ r = 2 ∨ r = 3 := by omega
    rcases this with h | h | h | h
    · rw [h]; exact ⟨"x", rfl⟩
    · rw [h]; exact ⟨"x", rfl⟩
    · rw [h]; exact ⟨"y", rfl⟩
    · rw [h]; exact ⟨"z", rfl⟩
  rw [hnm]
  refine ⟨rfl, by simp, kv1, 9, m + 1, rfl, by omega, by omega, by omega, t1, fun r2 kv2 _ _ t2 => ⟨rfl, ?_⟩⟩
  walk_at "y"
  refine ⟨by rw [sizeLine_eq]; omega, rfl, by simp, kv2, 3, m + 1 + 1, rfl, by omega, by omega, by omega, t2, fun r3 kv3 p0 p1 t3 => ⟨rfl, ?_⟩⟩
  walk_at "y"
  refine ⟨rfl, by simp, kv3, 2 + r3, m + 1 + 1 + 1, rfl, by omega, by omega, t3, fun S kv4 hS hSs hSl t4 => ⟨rfl, ?_⟩⟩
  walk_at "y"
  refine ⟨by rw [sizeLine_eq]; omega, ?_⟩
  exact q nm r2 S kv4 hSl (t4.le (by omega))
theorem sane_out (o : Out) : D.sane 3 (outD o) = true := by cases o <;> simp [outD, D.sane, D.sanes]
theorem sane_ref (t : List Row) (n1 n2 : Str) (a b : Out) : D.sane 3 (refD t n1 n2 a b) = true := by cases a <;> cases b <;> rfl
theorem outD_tup' (o : Out) : ∃ ds, outD o = .tup ds := outD_tup o
def OTHERS : List Out := [.unbound, .phase, .bound 0, .bound 1, .amb 0 1, .amb 1 2, .bound 2]
theorem law_loop {P : EndP} {G : M → List (Option M) → Prop} {s0 : Sl} {t : List Row} (ht : TabOk t) (htl : t.length ≤ 100) : ∀ (n : Nat) (lo m : Int) (kv : List (Key × D)) (s3 s4 s5 s6 s7 s8 s9 : Sl), 0 ≤ m → m + 100 * n ≤ 10000 → TapeOk m kv →
    (∀ kv s3 s4 s5 s6 s7 s8 s9, P.nx [s0, .lo (.dk kv), .lo (.ls (t.map rowD)), s3, s4, s5, s6, s7, s8, s9]) →
    loopS (.one 3) (b_law_1 F_tape F_table F_take F_ident F_outcome F_resolve (F_same 3) F_judge F_binder F_sref F_lref) (fun _ => True) P (gRng lo n) [s0, .lo (.dk kv), .lo (.ls (t.map rowD)), s3, s4, s5, s6, s7, s8, s9] := by
  intro n
  induction n with
  | zero => intro lo m kv s3 s4 s5 s6 s7 s8 s9 h0 h1 h2 q; exact ⟨trivial, q _ _ _ _ _ _ _ _⟩
  | succ n ih =>
    intro lo m kv s3 s4 s5 s6 s7 s8 s9 h0 h1 h2 q
    rw [gRng_succ]
    refine loop_step trivial fun L hL => ?_
    unfold b_law_1
    walk_at "y"
    walk_at "n"
    refine ⟨rfl, by simp, kv, 4, m, rfl, by omega, by omega, by omega, h2, fun ph kv1 r0 r1 t1 => ⟨rfl, ?_⟩⟩
    walk_at "y"
    subst hR
    walk_at "n"
    refine ⟨rfl, by simp, kv1, m + 1, rfl, by omega, by omega, t1, fun n1 i1 s1 kv2 hs1 t2 => ⟨rfl, ?_⟩⟩
    walk_at "y"
    subst hR
    walk_at "n"
    refine ⟨rfl, by simp, kv2, m + 1 + 20, rfl, by omega, by omega, t2, fun n2 i2 s2 kv3 hs2 t3 => ⟨rfl, ?_⟩⟩
    walk_at "y"
    subst hR
    walk_at "n"
    refine ⟨rfl, by simp, kv3, 3, m + 1 + 20 + 20, rfl, by omega, by omega, by omega, t3, fun r3 kv4 _ _ t4 => ⟨rfl, ?_⟩⟩
    walk_at "y"
    have rest : ∀ (n2 : Str) (s2 : List Sc), R [s0, .lo (.dk kv4), .lo (.ls (t.map rowD)), .lo (.im (.int lo)), .lo (.im (.int ph)), .lo (.im (idD n1 i1 s1)), .lo (.im (idD n2 i2 s2)), s7, s8, s9] := by
      intro n2 s2
      generalize hout : outT t ph n1 s1 = out
      have hq := hout
      obtain ⟨ds, hds⟩ := outD_tup out
      subst hR
      walk_at "n"
      refine ⟨rfl, by simp, t, ph, i1, n1, s1, rfl, ht, htl, rfl, ?_⟩
      rw [hout]
      walk_at "y"
      subst hR
      walk_at "n"
      refine ⟨rfl, by simp, .ls (t.map rowD), t, ph, i1, n1, s1, rfl, .inl rfl, ht, htl, rfl, ?_⟩
      rw [hout]
      walk_at "y"
      refine ⟨rfl, by simp, outD out, rfl, sane_out out, fun fin => ⟨rfl, ?_⟩⟩
      walk_at "y"
      rw [if_neg (by decide)]
      refine ⟨rfl, by simp, .ls (t.map rowD), t, ph, i1, n1, s1, out, rfl, .inl rfl, ht, htl, rfl, ?_⟩
      rw [hout]
      walk_at "y"
      rw [if_neg (by simp)]
      subst hR
      walk_at "n"
      refine ⟨by rw [sizeLine_eq]; omega, by rw [sizeLine_eq]; omega, by rw [sizeLine_eq]; omega, by rw [sizeLine_eq]; omega, by rw [sizeLine_eq]; omega, by rw [sizeLine_eq]; omega, by rw [sizeLine_eq]; omega, by rw [sizeLine_eq]; omega, ?_⟩
      rw [show ([D.tup [D.str (Str.ofString "unbound")], D.tup [D.str (Str.ofString "phase")], D.tup [D.str (Str.ofString "bound"), D.int 0], D.tup [D.str (Str.ofString "bound"), D.int 1], D.tup [D.str (Str.ofString "ambiguous"), D.int 0, D.int 1], D.tup [D.str (Str.ofString "ambiguous"), D.int 1, D.int 2], D.tup [D.str (Str.ofString "bound"), D.int 2]] : List D) = OTHERS.map outD from rfl]
      subst hR
      walk_at "n"
      refine ⟨rfl, by simp, kv4, 7, m + 42, rfl, by omega, by omega, by omega, t4.le (by omega), fun r5 kv5 w0 w1 t5 => ⟨rfl, ?_⟩⟩
      walk_at "y"
      obtain ⟨o, ho, _⟩ := atI_ok (xs := OTHERS) w0 (by show r5 < 7; exact w1)
      rw [atI_map, ho]
      subst hR
      walk_at "n"
      refine ⟨rfl, by simp, .ls (t.map rowD), t, ph, i1, n1, s1, o, rfl, .inl rfl, ht, htl, rfl, ?_⟩
      rw [hout]
      walk_at "y"
      obtain ⟨es, hes⟩ := outD_tup o
      rw [hes, hds]
      walk_at "y"
      rw [← hes, ← hds]
      refine ⟨ok_out _, ok_out _, ?_⟩
      rw [eqv_out, Bool.false_xor]
      refine ⟨rfl, by simp, .bl (decide (out = o)), by rw [show decide (o = out) = decide (out = o) from decide_eq_decide.mpr eq_comm], rfl, fun fin => ⟨rfl, ?_⟩⟩
      walk_at "y"
      rw [if_neg (by decide)]
      subst hR
      walk_at "n"
      refine ⟨rfl, by simp, n1, n2, i1, i2, s1, s2, rfl, fun fin => ⟨rfl, ?_⟩⟩
      rw [id_nm n1 i1 s1, id_nm n2 i2 s2]
      walk_at "y"
      walk_at "z"
      have last : R [s0, .lo (.dk kv5), .lo (.ls (t.map rowD)), .lo (.im (.int lo)), .lo (.im (.int ph)), .lo (.im (idD n1 i1 s1)), .lo (.im (idD n2 i2 s2)), .lo (.im (outD out)), .lo (.ls (OTHERS.map outD)), .lo (.im (outD o))] := by
        subst hR
        walk_at "y"
        refine ⟨rfl, by simp, t, ph, i1, i2, n1, n2, s1, s2, rfl, ht, htl, fun fin => ⟨rfl, ?_⟩⟩
        walk_at "y"
        generalize hrd : refD t n1 n2 (outT t ph n1 s1) (outT t ph n2 s2) = rd
        have hsr : D.sane 3 rd = true := by rw [← hrd]; exact sane_ref _ _ _ _ _
        refine ⟨rfl, by simp, t, ph, i1, i2, n1, n2, s1, s2, rfl, ht, htl, rfl, ?_⟩
        rw [hrd]
        walk_at "y"
        refine ⟨rfl, by simp, rd, rfl, hsr, fun fin => ⟨rfl, ?_⟩⟩
        walk_at "y"
        rw [if_neg (by decide), hL]
        exact ih (lo + 1) (m + 100) kv5 _ _ _ _ _ _ _ (by omega) (by omega) (t5.le (by omega)) q
      rw [Bool.false_xor]
      by_cases hn : n1 = n2
      · rw [if_pos (by simpa using hn)]
        refine ⟨ok_tup_sc _ _, ok_tup_sc _ _, trivial, by simp, .bl (decide (n1 = n2) && decide (s1 = s2)), ?_, rfl, fun fin => ⟨rfl, ?_⟩⟩
        · rw [eqv_tup_sc, Bool.false_xor, decide_eq_true hn, Bool.true_and]
        · walk_at "y"
          rw [if_neg (by decide)]
          exact last
      · rw [if_neg (by simpa using hn)]
        refine ⟨trivial, by simp, .bl (decide (n1 = n2) && decide (s1 = s2)), ?_, rfl, fun fin => ⟨rfl, ?_⟩⟩
        · rw [decide_eq_false hn, Bool.false_and]
        · walk_at "y"
          rw [if_neg (by decide)]
          exact last
    have r1' := rest n1 s1
    have r2' := rest n2 s2
    split
    · rw [id_nm n1 i1 s1, id_nm n2 i2 s2]
      walk_at "y"
      have c1 : cutD [D.str (Str.ofString "id"), D.str n1, D.tup [D.str (Str.ofString "m"), D.int i1], D.tup (s1.map scD)] none (some 2) = [D.str (Str.ofString "id"), D.str n1] := rfl
      have c2 : cutD [D.str (Str.ofString "id"), D.str n2, D.tup [D.str (Str.ofString "m"), D.int i2], D.tup (s2.map scD)] (some 2) (some 3) = [D.tup [D.str (Str.ofString "m"), D.int i2]] := rfl
      have c3 : cutD [D.str (Str.ofString "id"), D.str n1, D.tup [D.str (Str.ofString "m"), D.int i1], D.tup (s1.map scD)] (some 3) none = [D.tup (s1.map scD)] := rfl
      rw [c1, c2, c3]
      exact ⟨by rw [sizeLine_eq]; simp, by rw [sizeLine_eq]; simp, r1'⟩
    · exact r2'
def F_law : TF := fun ms G => ∃ ns : List Int, ms = [.sq (ns.map D.int)] ∧ ns.length ≤ 1000 ∧ ∀ fin, G (.im (.bl true)) fin
theorem body_law : Body F_law 10 1 (t_law F_tape F_table F_take F_ident F_outcome F_resolve (F_same 3) F_judge F_binder F_sref F_lref) := by
  rintro ms G hl ⟨ns, rfl, hns, q⟩
  show t_law _ _ _ _ _ _ _ _ _ _ _ _ [Sl.pa (.sq (ns.map D.int)), .no, .no, .no, .no, .no, .no, .no, .no, .no]
  unfold t_law
  walk_at "n"
  refine ⟨rfl, by simp, ns, rfl, hns, fun kv fin t0 => ⟨rfl, ?_⟩⟩
  walk_at "y"
  subst hR
  walk_at "n"
  refine ⟨rfl, by simp, kv, 0, rfl, by omega, by omega, t0, fun t kv1 ht htl t1 => ⟨rfl, ?_⟩⟩
  walk_at "y"
  subst hR
  walk_at "n"
  refine ⟨by omega, by omega, ?_⟩
  refine law_loop (G := G) ht htl _ _ 400 kv1 _ _ _ _ _ _ _ (by omega) (by decide) (t1.le (by omega)) fun kv2 a b c d e f g => ?_
  subst hR
  walk_at "y"
  exact q _
theorem law_start (ns : List Int) (G : M → List (Option M) → Prop) (h : ns.length ≤ 63) (q : ∀ fin, G (.im (.bl true)) fin) : F_law [.sq (ns.map D.int)] G := ⟨ns, rfl, by omega, q⟩
end Y
namespace Y
set_option hygiene false
open PySem PySem.Spec L2
local macro_rules | `(tactic| walk_at "y") => `(tactic| dsimp only [sNil, sBk, sCt, sDrop, sIf, asg, sAsg, sRet, sRetN, tIm, tNm, tBin, w2, vw, Sl.m?, tTst, tTru, M.tru, tAndQ, tOrQ, tNotQ, tAndX, tOrX, tNotX, tIfX, lNil, lCons, tFrz, froz, tTp, tLs, tCl, vws, tMt, Sl.m!, Sl.up, M.res, gLen, gInt, gAdd, gSub, gMul, gDiv, gMod, gPow, gII, gI0, gEqs, gEqs2, gIx, gPop, gApp, gRev, gExt, gTuple, gList, gDict, gIs, gIsi, gAll, gIns, gSorted, gSl, M.lq?, M.lst?, M.sq?, M.dat?, M.isNon, gLt, gLe, gGt, gGe, sFor, iSeq, srcOf, iEnm, enmOf, iRg1, iRg2, bnd, setAll, backS, Sl.isP, tSlc, pNo, pSo, sSetI, hasM, setM, tDspK, tDspT, pairG, D.key?, D.keys?, D.tkey?, putAll, tNewK, tNewT, tNeg, sUnp, tCall, argMs, argM, argS, slots, putB, stepB, putS_lo_ls_ls, putS_lo_ls_dk, putS_lo_ls_dt, putS_lo_ls_no, putS_pa_ls_ls, putS_pa_ls_dk, putS_pa_ls_dt, putS_pa_ls_no, putS_lo_rd_ls, putS_lo_rd_dk, putS_lo_rd_dt, putS_lo_rd_no, putS_pa_rd_ls, putS_pa_rd_dk, putS_pa_rd_dt, putS_pa_rd_no, putS_lo_dk_ls, putS_lo_dk_dk, putS_lo_dk_dt, putS_lo_dk_no, putS_pa_dk_ls, putS_pa_dk_dk, putS_pa_dk_dt, putS_pa_dk_no, putS_lo_dt_ls, putS_lo_dt_dk, putS_lo_dt_dt, putS_lo_dt_no, putS_pa_dt_ls, putS_pa_dt_dk, putS_pa_dt_dt, putS_pa_dt_no, putS_lo_im, putS_lo_sq, putS_pa_im, putS_pa_sq, M.own, M.fit, fins, Sl.fin, envOf, tLcX, compL, wipeE, restE, keepS, qYes, kD, dGet, List.getElem?_cons_zero, List.getElem?_cons_succ, List.getElem?_nil, List.set_cons_zero, List.set_cons_succ, List.map_cons, List.map_nil, List.take_succ_cons, List.take_zero, List.length_cons, List.length_nil, List.head?_cons, List.tail_cons, Option.join_some, List.cons_append, List.nil_append, List.replicate, tg_cells, tg_at, tg_left, tg_seed, tg_salt, tp_at, tp_left, tp_salt])
local macro_rules | `(tactic| walk_at "n") => `(tactic| ((try dsimp only); refine seq_step fun R hR => ?_; walk_at "y"))
local macro_rules | `(tactic| walk_at "i") => `(tactic| simp only [Bool.false_xor, Bool.true_xor, Bool.not_true, Bool.not_false, Bool.false_eq_true, reduceIte, isiT, M.ty, String.reduceBEq, Bool.or_false, Bool.false_or, Bool.and_false, Bool.and_true, Bool.true_and, Bool.false_and, Bool.or_true, List.mem_cons, true_or, or_true, true_and, and_true, String.reduceEq, decide_true, decide_false])
local macro_rules | `(tactic| walk_at "s") => `(tactic| (subst hR; walk_at "n"))
local macro_rules | `(tactic| walk_at "z") => `(tactic| (simp only [List.map_cons, List.map_nil, atI_c0, atI_c1, atI_c2, atI_c3, atI_c4, atI_c5]; (try walk_at "y")))
theorem law_all {Pg : Program} {w : World} {K : PySem.W.Frag} {mg : Str → Option Value} {base : Heap} (T : Top K mg) : FnD Pg w K mg base T.D_law 65 F_law := by
  have gtake : FnD Pg w K mg base T.D__law_take 1 F_take := go__law_take T body_take
  have gtape : FnD Pg w K mg base T.D__law_tape 1 F_tape := go__law_tape T body_tape
  have gset : FnD Pg w K mg base T.D__law_set 2 F_set := go__law_set T gtake (by omega) body_set
  have gtable : FnD Pg w K mg base T.D__law_table 3 F_table := go__law_table T gtake (by omega) gset (by omega) body_table
  have gint : FnD Pg w K mg base T.D__law_is_integer 1 F_isint := go__law_is_integer T body_isint
  have s0 : FnD Pg w K mg base T.D__law_same 0 (F_same 0) := fn_never fun ms G ⟨d, _, h, _⟩ => by simp [D.sane] at h
  have i0 : FnD Pg w K mg base T.D__law_same_items 1 (F_items 0) := go__law_same_items T s0 (by omega) (body_items 0)
  have s1 : FnD Pg w K mg base T.D__law_same 2 (F_same 1) := go__law_same T gint (by omega) i0 (by omega) s0 (by omega) (body_same 0)
  have i1 : FnD Pg w K mg base T.D__law_same_items 3 (F_items 1) := go__law_same_items T s1 (by omega) (body_items 1)
  have s2 : FnD Pg w K mg base T.D__law_same 4 (F_same 2) := go__law_same T gint (by omega) i1 (by omega) s1 (by omega) (body_same 1)
  have i2 : FnD Pg w K mg base T.D__law_same_items 5 (F_items 2) := go__law_same_items T s2 (by omega) (body_items 2)
  have s3 : FnD Pg w K mg base T.D__law_same 6 (F_same 3) := go__law_same T gint (by omega) i2 (by omega) s2 (by omega) (body_same 2)
  have gwithin : FnD Pg w K mg base T.D_is_within 1 F_within := go_is_within T body_within
  have gamong : FnD Pg w K mg base T.D_resolve_among 2 F_among := go_resolve_among T gwithin (by omega) body_among
  have gres : FnD Pg w K mg base T.D_resolve 3 F_resolve := go_resolve T gamong (by omega) body_resolve
  have gjudge : FnD Pg w K mg base T.D_judge_outcome 4 F_judge := go_judge_outcome T gres (by omega) body_judge
  have gbind : FnD Pg w K mg base T.D_same_binder 1 F_binder := go_same_binder T body_binder
  have gouts : FnD Pg w K mg base T.D_same_outcomes 1 F_outs := go_same_outcomes T body_outs
  have gsref : FnD Pg w K mg base T.D_same_reference 4 F_sref := go_same_reference T gres (by omega) gouts (by omega) body_sref
  have gincl : FnD Pg w K mg base T.D__law_includes 1 F_incl := go__law_includes T body_incl
  have gout : FnD Pg w K mg base T.D__law_outcome 2 F_outcome := go__law_outcome T gincl (by omega) body_outcome
  have glref : FnD Pg w K mg base T.D__law_same_reference 3 F_lref := go__law_same_reference T gout (by omega) body_lref
  have gid : FnD Pg w K mg base T.D__law_identifier 3 F_ident := go__law_identifier T gtake (by omega) gset (by omega) body_ident
  exact go_law T gtape (by omega) gtable (by omega) gtake (by omega) gid (by omega) gout (by omega) gres (by omega) s3 (by omega) gjudge (by omega) gbind (by omega) gsref (by omega) glref (by omega) body_law
theorem law_join {Pg : Program} {w : World} {K : PySem.W.Frag} {mg : Str → Option Value} {fa : Addr} {h : Heap} (KX : K.In h) (hmg : mg "law" = some (.ref fa)) (T : Top K mg) :
    ∃ fd : FuncData, (∀ (s : Shared) (u : Value), BindsTo s fd ⟨[u], []⟩ [("script", u)]) ∧ ∀ base : Heap, K.In base → base.Ns mainGlobals mg → FnOk Pg w K mg base CX0 65 fa fd ["script"] (spD K F_law 1) := by
  have e := hmg.symm.trans T.D_law.mg
  cases e
  exact ⟨_, T.bl, fun base _ _ => law_all T⟩
end Y
open PySem PySem.W PyProof.Rows
set_option maxRecDepth 100000 in
set_option maxHeartbeats 0 in
theorem PySem.Challenge.cw_wherewritten_k06_whole_resolution_holds : PySem.Challenge.rw_wherewritten_k06_whole_resolution.Holds := by
  w_on; o_law; k_head; (case hw => w_witness2)
  k_fill
  refine Y.walkY (l := PySem.Challenge.rw_wherewritten_k06_whole_resolution) (F := Y.F_law) rfl rfl Y.law_start (fun w h Y => PySem.W.kIn_of Y) ?F
  case F =>
    intro w mg fa h KX G hmg
    refine' Y.law_join KX hmg (Y.tp_mk KX G ?a0 ?l0 ?c0 ?k0 ?a1 ?l1 ?c1 ?k1 ?a2 ?l2 ?c2 ?k2 ?a3 ?l3 ?c3 ?k3 ?a4 ?l4 ?c4 ?k4 ?a5 ?l5 ?c5 ?k5 ?a6 ?l6 ?c6 ?k6 ?a7 ?l7 ?c7 ?k7 ?a8 ?l8 ?c8 ?k8 ?a9 ?l9 ?c9 ?k9 ?a10 ?l10 ?c10 ?k10 ?a11 ?l11 ?c11 ?k11 ?a12 ?l12 ?c12 ?k12 ?a13 ?l13 ?c13 ?k13 ?a14 ?l14 ?c14 ?k14 ?a15 ?l15 ?c15 ?k15 ?a16 ?l16 ?c16 ?k16 ?a17 ?l17 ?c17 ?k17 ?a18 ?l18 ?c18 ?k18 ?z0 ?z1 ?z2 ?z3 ?z4 ?z5 ?z6 ?z7 ?z8 ?z9 ?z10 ?z11 ?z12 ?z13)
    (case a0 => k_is); (case l0 => k_is); (case c0 => k_is); (case k0 => k_is)
    (case a1 => k_is); (case l1 => k_is); (case c1 => k_is); (case k1 => k_is)
    (case a2 => k_is); (case l2 => k_is); (case c2 => k_is); (case k2 => k_is)
    (case a3 => k_is); (case l3 => k_is); (case c3 => k_is); (case k3 => k_is)
    (case a4 => k_is); (case l4 => k_is); (case c4 => k_is); (case k4 => k_is)
    (case a5 => k_is); (case l5 => k_is); (case c5 => k_is); (case k5 => k_is)
    (case a6 => k_is); (case l6 => k_is); (case c6 => k_is); (case k6 => k_is)
    (case a7 => k_is); (case l7 => k_is); (case c7 => k_is); (case k7 => k_is)
    (case a8 => k_is); (case l8 => k_is); (case c8 => k_is); (case k8 => k_is)
    (case a9 => k_is); (case l9 => k_is); (case c9 => k_is); (case k9 => k_is)
    (case a10 => k_is); (case l10 => k_is); (case c10 => k_is); (case k10 => k_is)
    (case a11 => k_is); (case l11 => k_is); (case c11 => k_is); (case k11 => k_is)
    (case a12 => k_is); (case l12 => k_is); (case c12 => k_is); (case k12 => k_is)
    (case a13 => k_is); (case l13 => k_is); (case c13 => k_is); (case k13 => k_is)
    (case a14 => k_is); (case l14 => k_is); (case c14 => k_is); (case k14 => k_is)
    (case a15 => k_is); (case l15 => k_is); (case c15 => k_is); (case k15 => k_is)
    (case a16 => k_is); (case l16 => k_is); (case c16 => k_is); (case k16 => k_is)
    (case a17 => k_is); (case l17 => k_is); (case c17 => k_is); (case k17 => k_is)
    (case a18 => k_is); (case l18 => k_is); (case c18 => k_is); (case k18 => k_is)
    (case z0 => k_is); (case z1 => k_is); (case z2 => k_is); (case z3 => k_is)
    (case z4 => k_is); (case z5 => k_is); (case z6 => k_is); (case z7 => k_is)
    (case z8 => k_is); (case z9 => k_is); (case z10 => k_is); (case z11 => k_is)
    (case z12 => k_is); (case z13 => k_is)
