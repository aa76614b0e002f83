import PyProof.Rows.All
import Wide.All
import OpenK.AllK
import Wide.FinOn
import HandS.ForMost
import HandS.TupAny
import HandS.EndBits
import HandS.Wide
import KE.DataEq
import KE.DataCmp
import KE.DataAny
import KE.DataIsa
import KE.SortData
import HandS.TupMul
import HandS.Style
import KE.GoesEnum
import HandS.Zip
import HandS.Flow
import PySem.Challenge.RW_eachgame_k29_whole_known_codes
set_option Elab.async false
set_option linter.all false
set_option maxRecDepth 100000
set_option maxHeartbeats 4000000
/-! Z: the hand layer with tuples as plain data. -/
namespace Z
open PySem PySem.Spec PyProof.Rows L2
/-- a value; tuples are plain data, scr: a list that nobody changes (the script) -/
inductive D where
  | non | bl (b : Bool) | int (i : Int) | str (x : Str) | ref (a : Addr) | tup (xs : List D) | scr (xs : List D)
/-- what stands at a tracked place -/
inductive MO where
  | lst (xs : List D) | dk (kvs : List (Key × D)) | ins (C : Addr) (fs : List (Str × D))
abbrev Sto := Addr → Option MO
abbrev DE := List (Option D)
def put (M : Sto) (a : Addr) (o : MO) : Sto := fun b => if b = a then some o else M b
theorem put_same {M : Sto} {a : Addr} {o : MO} : put M a o a = some o := if_pos rfl
theorem put_ne {M : Sto} {a b : Addr} {o : MO} (h : b ≠ a) : put M a o b = M b := if_neg h
theorem put_put {M : Sto} {a : Addr} {o u : MO} : put (put M a o) a u = put M a u := by funext b; unfold put; split <;> rfl
theorem put_self {M : Sto} {a : Addr} {o : MO} (h : M a = some o) : put M a o = M := by funext b; unfold put; split <;> simp_all
theorem put_comm {M : Sto} {a b : Addr} {o u : MO} (h : a ≠ b) : put (put M a o) b u = put (put M b u) a o := by
  funext c; unfold put
  by_cases h1 : c = a
  · subst h1; rw [if_neg h, if_pos rfl, if_pos rfl]
  · by_cases h2 : c = b
    · subst h2; rw [if_pos rfl, if_neg h1, if_pos rfl]
    · rw [if_neg h2, if_neg h1, if_neg h1, if_neg h2]
theorem ne_of_free {M : Sto} {a b : Addr} {o : MO} (h : M a = some o) (n : M b = none) : a ≠ b := fun e => by subst e; rw [h] at n; cases n
theorem ne_of_mo {M : Sto} {a b : Addr} {o u : MO} (h : M a = some o) (h' : M b = some u) (d : o ≠ u) : a ≠ b := fun e => by subst e; rw [h] at h'; exact d (Option.some.inj h')
/-- a part of a store -/
def Sub (M' M : Sto) : Prop := ∀ a o, M' a = some o → M a = some o
theorem Sub.refl (M : Sto) : Sub M M := fun _ _ h => h
theorem Sub.trans {A B C : Sto} (h : Sub A B) (k : Sub B C) : Sub A C := fun a o e => k a o (h a o e)
theorem Sub.put {M : Sto} {p : Addr} {o : MO} (h : M p = none) : Sub M (put M p o) := fun a u e => by rw [put_ne (ne_of_free e h)]; exact e
theorem Sub.put2 {A B : Sto} {p : Addr} {o : MO} (h : Sub A B) : Sub (Z.put A p o) (Z.put B p o) := fun a u e => by
  by_cases q : a = p
  · subst q; rw [put_same] at e ⊢; exact e
  · rw [put_ne q] at e ⊢; exact h a u e
theorem Sub.putr {A B : Sto} {p : Addr} {o : MO} (h : Sub A B) (n : A p = none) : Sub A (Z.put B p o) := fun a u e => by
  rw [put_ne (ne_of_free e n)]; exact h a u e
theorem Sub.free {A B : Sto} {a : Addr} (h : Sub A B) (n : B a = none) : A a = none := by
  cases q : A a with
  | none => rfl
  | some o => rw [h a o q] at n; cases n
section
variable (K : PySem.W.Frag) (H : Hp)
/-- a list that stays as it is -/
def FzL (a : Addr) (xs : List V) : Prop := (∃ o, H a = some (.frz o (.lst xs))) ∨
    ∃ (o : Obj) (its : Array Value) (n : Nat), K.lookup a = some o ∧ o.cls = .type "list" ∧ o.dict = none ∧ o.data = .seq its n ∧ its.size ≤ sizeLine ∧ Vals xs its.toList
mutual
inductive RD : D → V → Prop where
  | non : RD .non .non
  | bl (b : Bool) : RD (.bl b) (.bl b)
  | int (i : Int) : RD (.int i) (.int i)
  | str (x : Str) : RD (.str x) (.str x)
  | ref (a : Addr) : RD (.ref a) (.ref a)
  | tup {a : Addr} {xs : List V} {ds : List D} : SqT K H a xs → RDs ds xs → RD (.tup ds) (.ref a)
  | scr {a : Addr} {xs : List V} {ds : List D} : FzL K H a xs → RDs ds xs → RD (.scr ds) (.ref a)
inductive RDs : List D → List V → Prop where
  | nil : RDs [] []
  | cons {d : D} {v : V} {ds : List D} {vs : List V} : RD d v → RDs ds vs → RDs (d :: ds) (v :: vs)
end
def RKV {κ : Type} : List (κ × D) → List (κ × V) → Prop := Paired fun (p : κ × D) (q : κ × V) => p.1 = q.1 ∧ RD K H p.2 q.2
def ROk (a : Addr) : MO → Prop
  | .lst ds => ∃ xs, H a = some (.lst xs) ∧ RDs K H ds xs
  | .dk kvs => ∃ ks, H a = some (.dK ks) ∧ RKV K H kvs ks
  | .ins C fs => ∃ dx vs, H a = some (.ins C dx vs) ∧ RKV K H fs vs
def RS (M : Sto) : Prop := ∀ a o, M a = some o → ROk K H a o
def RE (σ : L2.St) (δ : DE) : Prop := σ.length = δ.length ∧ ∀ (i : Nat) (d : D), δ[i]? = some (some d) → ∃ v, σ[i]? = some (some v) ∧ RD K H d v
end
structure Ext (K : PySem.W.Frag) (M M' : Sto) (H H' : Hp) : Prop where
  tup : ∀ a xs, SqT K H a xs → SqT K H' a xs
  fz : ∀ a xs, FzL K H a xs → FzL K H' a xs
  frm : ∀ a o, H a = some o → M a = none → H' a = some o ∧ M' a = none
  old : ∀ a, H' a = none → H a = none
section
variable {K : PySem.W.Frag} {M M1 M2 M' : Sto} {H H1 H2 H' : Hp}
theorem Ext.refl (K : PySem.W.Frag) (M : Sto) (H : Hp) : Ext K M M H H := ⟨fun _ _ h => h, fun _ _ h => h, fun _ _ h n => ⟨h, n⟩, fun _ h => h⟩
theorem Ext.trans (a : Ext K M M1 H H1) (b : Ext K M1 M2 H1 H2) : Ext K M M2 H H2 :=
  ⟨fun c xs h => b.tup c xs (a.tup c xs h), fun c xs h => b.fz c xs (a.fz c xs h), fun c o h n => let ⟨h1, n1⟩ := a.frm c o h n; b.frm c o h1 n1, fun c h => a.old c (b.old c h)⟩
theorem Ext.sub (a : Ext K M M1 H H1) (s : Sub M2 M1) : Ext K M M2 H H1 := ⟨a.tup, a.fz, fun c o h n => let ⟨h1, n1⟩ := a.frm c o h n; ⟨h1, s.free n1⟩, a.old⟩
theorem sqt_laid {p : Addr} {o : HO} (hp : H p = none) {a : Addr} {xs : List V} (h : SqT K H a xs) : SqT K (upd H p o) a xs := by
  rcases h with (h | ⟨u, h⟩) | h
  · exact .inl (.inl (by rw [upd_ne (ne_of_none h hp)]; exact h))
  · exact .inl (.inr ⟨u, by rw [upd_ne (ne_of_none h hp)]; exact h⟩)
  · exact .inr h
theorem fzl_laid {p : Addr} {o : HO} (hp : H p = none) {a : Addr} {xs : List V} (h : FzL K H a xs) : FzL K (upd H p o) a xs := by
  rcases h with ⟨u, h⟩ | h
  · exact .inl ⟨u, by rw [upd_ne (ne_of_none h hp)]; exact h⟩
  · exact .inr h
theorem upd_old {p : Addr} {o : HO} : ∀ a, upd H p o a = none → H a = none := fun a h => by
  by_cases q : a = p
  · subst q; rw [upd_same] at h; cases h
  · rw [upd_ne q] at h; exact h
theorem mut_ne {a b : Addr} {o : HO} (m : Mut (H a)) (h : H b = some o) (n : ¬ Mut (some o)) : b ≠ a := fun e => by subst e; rw [h] at m; exact n m
theorem sqt_write {p : Addr} {o : HO} (m : Mut (H p)) {a : Addr} {xs : List V} (h : SqT K H a xs) : SqT K (upd H p o) a xs := by
  rcases h with (h | ⟨u, h⟩) | h
  · exact .inl (.inl (by rw [upd_ne (mut_ne m h fun z => z)]; exact h))
  · exact .inl (.inr ⟨u, by rw [upd_ne (mut_ne m h fun z => z)]; exact h⟩)
  · exact .inr h
theorem fzl_write {p : Addr} {o : HO} (m : Mut (H p)) {a : Addr} {xs : List V} (h : FzL K H a xs) : FzL K (upd H p o) a xs := by
  rcases h with ⟨u, h⟩ | h
  · exact .inl ⟨u, by rw [upd_ne (mut_ne m h fun z => z)]; exact h⟩
  · exact .inr h
/-- a new object that the store does not tell -/
theorem Ext.laid0 {p : Addr} {o : HO} (hp : H p = none) : Ext K M M H (upd H p o) :=
  ⟨fun _ _ h => sqt_laid hp h, fun _ _ h => fzl_laid hp h, fun a u h n => ⟨by rw [upd_ne (ne_of_none h hp)]; exact h, n⟩, upd_old⟩
/-- a new object that the store tells -/
theorem Ext.laid {p : Addr} {o : HO} {m : MO} (hp : H p = none) : Ext K M (put M p m) H (upd H p o) :=
  ⟨fun _ _ h => sqt_laid hp h, fun _ _ h => fzl_laid hp h, fun a u h n => ⟨by rw [upd_ne (ne_of_none h hp)]; exact h, by rw [put_ne (ne_of_none h hp)]; exact n⟩, upd_old⟩
theorem Ext.write {p : Addr} {o : HO} {m m0 : MO} (mu : Mut (H p)) (hm : M p = some m0) : Ext K M (put M p m) H (upd H p o) :=
  ⟨fun _ _ h => sqt_write mu h, fun _ _ h => fzl_write mu h, fun a u h n => by
    have : a ≠ p := fun e => by subst e; rw [hm] at n; cases n
    exact ⟨by rw [upd_ne this]; exact h, by rw [put_ne this]; exact n⟩, upd_old⟩
mutual
theorem RD.ext (t : ∀ a xs, SqT K H a xs → SqT K H' a xs) (z : ∀ a xs, FzL K H a xs → FzL K H' a xs) : ∀ {d : D} {v : V}, RD K H d v → RD K H' d v
  | _, _, .non => .non
  | _, _, .bl b => .bl b
  | _, _, .int i => .int i
  | _, _, .str x => .str x
  | _, _, .ref a => .ref a
  | _, _, .tup h r => .tup (t _ _ h) (RDs.ext t z r)
  | _, _, .scr h r => .scr (z _ _ h) (RDs.ext t z r)
theorem RDs.ext (t : ∀ a xs, SqT K H a xs → SqT K H' a xs) (z : ∀ a xs, FzL K H a xs → FzL K H' a xs) : ∀ {ds : List D} {vs : List V}, RDs K H ds vs → RDs K H' ds vs
  | _, _, .nil => .nil
  | _, _, .cons h r => .cons (RD.ext t z h) (RDs.ext t z r)
end
theorem Ext.rd (e : Ext K M M' H H') {d : D} {v : V} (r : RD K H d v) : RD K H' d v := RD.ext e.tup e.fz r
theorem Ext.rds (e : Ext K M M' H H') {ds : List D} {vs : List V} (r : RDs K H ds vs) : RDs K H' ds vs := RDs.ext e.tup e.fz r
theorem Ext.rkv {κ : Type} (e : Ext K M M' H H') {ds : List (κ × D)} {vs : List (κ × V)} (r : RKV K H ds vs) : RKV K H' ds vs := Paired.mapP r fun _ _ ⟨h1, h2⟩ => ⟨h1, e.rd h2⟩
theorem Ext.re (e : Ext K M M' H H') {σ : L2.St} {δ : DE} (r : RE K H σ δ) : RE K H' σ δ := ⟨r.1, fun i d q => let ⟨v, h1, h2⟩ := r.2 i d q; ⟨v, h1, e.rd h2⟩⟩
theorem RS.sub {A B : Sto} (r : RS K H B) (s : Sub A B) : RS K H A := fun a o h => r a o (s a o h)
theorem RS.free (r : RS K H M) {p : Addr} (h : H p = none) : M p = none := by
  cases q : M p with
  | none => rfl
  | some o =>
    have := r p o q
    cases o with
    | lst ds => obtain ⟨xs, e, _⟩ := this; rw [h] at e; cases e
    | dk kvs => obtain ⟨xs, e, _⟩ := this; rw [h] at e; cases e
    | ins C fs => obtain ⟨dx, xs, e, _⟩ := this; rw [h] at e; cases e
theorem ROk.ext (e : Ext K M M' H H') {a : Addr} {o : MO} (r : ROk K H a o) (h : H' a = H a) : ROk K H' a o := by
  cases o with
  | lst ds => obtain ⟨xs, q, z⟩ := r; exact ⟨xs, h.trans q, e.rds z⟩
  | dk kvs => obtain ⟨xs, q, z⟩ := r; exact ⟨xs, h.trans q, e.rkv z⟩
  | ins C fs => obtain ⟨dx, xs, q, z⟩ := r; exact ⟨dx, xs, h.trans q, e.rkv z⟩
/-- the store behind a new object -/
theorem RS.laid0 (r : RS K H M) {p : Addr} {o : HO} (hp : H p = none) : RS K (upd H p o) M := fun a u h => by
  refine ROk.ext (M := M) (M' := M) (Ext.laid0 hp) (r a u h) (upd_ne ?_)
  exact ne_of_free h (r.free hp)
theorem RS.laid (r : RS K H M) {p : Addr} {o : HO} {m : MO} (hp : H p = none) (hm : ROk K (upd H p o) p m) : RS K (upd H p o) (put M p m) := fun a u h => by
  by_cases q : a = p
  · subst q; rw [put_same] at h; cases h; exact hm
  · rw [put_ne q] at h
    exact ROk.ext (M := M) (M' := M) (Ext.laid0 hp) (r a u h) (upd_ne q)
theorem ROk.mut {a : Addr} {o : MO} (r : ROk K H a o) : Mut (H a) := by
  cases o with
  | lst ds => obtain ⟨xs, q, _⟩ := r; rw [q]; trivial
  | dk kvs => obtain ⟨xs, q, _⟩ := r; rw [q]; trivial
  | ins C fs => obtain ⟨dx, xs, q, _⟩ := r; rw [q]; trivial
theorem RS.write (r : RS K H M) {p : Addr} {o : HO} {m m0 : MO} (h0 : M p = some m0) (hm : ROk K (upd H p o) p m) : RS K (upd H p o) (put M p m) := fun a u h => by
  by_cases q : a = p
  · subst q; rw [put_same] at h; cases h; exact hm
  · rw [put_ne q] at h
    exact ROk.ext (M := M) (M' := put M p m) (Ext.write (r p _ h0).mut h0) (r a u h) (upd_ne q)
theorem RDs.length : ∀ {ds : List D} {vs : List V}, RDs K H ds vs → ds.length = vs.length
  | _, _, .nil => rfl
  | _, _, .cons _ r => by simp [RDs.length r]
theorem RDs.get : ∀ {ds : List D} {vs : List V} {i : Nat} {d : D}, RDs K H ds vs → ds[i]? = some d → ∃ v, vs[i]? = some v ∧ RD K H d v
  | _, _, _, _, .nil, e => by simp at e
  | _, _, 0, _, .cons r _, e => by simp at e; subst e; exact ⟨_, rfl, r⟩
  | _, _, i + 1, d, .cons _ t, e => by
    obtain ⟨u, h1, h2⟩ := RDs.get (i := i) (d := d) t (by simpa using e)
    exact ⟨u, by simpa using h1, h2⟩
theorem RDs.get' : ∀ {ds : List D} {vs : List V} {i : Nat} {v : V}, RDs K H ds vs → vs[i]? = some v → ∃ d, ds[i]? = some d ∧ RD K H d v
  | _, _, _, _, .nil, e => by simp at e
  | _, _, 0, _, .cons r _, e => by simp at e; subst e; exact ⟨_, rfl, r⟩
  | _, _, i + 1, d, .cons _ t, e => by
    obtain ⟨u, h1, h2⟩ := RDs.get' (i := i) (v := d) t (by simpa using e)
    exact ⟨u, by simpa using h1, h2⟩
theorem RDs.append : ∀ {xs ys : List D} {us ws : List V}, RDs K H xs us → RDs K H ys ws → RDs K H (xs ++ ys) (us ++ ws)
  | _, _, _, _, .nil, s => s
  | _, _, _, _, .cons r t, s => .cons r (RDs.append t s)
theorem RDs.take : ∀ {xs : List D} {us : List V} (n : Nat), RDs K H xs us → RDs K H (xs.take n) (us.take n)
  | _, _, 0, _ => .nil
  | _, _, _ + 1, .nil => .nil
  | _, _, n + 1, .cons r t => .cons r (RDs.take n t)
theorem RDs.drop : ∀ {xs : List D} {us : List V} (n : Nat), RDs K H xs us → RDs K H (xs.drop n) (us.drop n)
  | _, _, 0, r => r
  | _, _, _ + 1, .nil => .nil
  | _, _, n + 1, .cons _ t => RDs.drop n t
theorem RDs.set {x : D} {u : V} (r : RD K H x u) : ∀ {xs : List D} {us : List V} (i : Nat), RDs K H xs us → RDs K H (xs.set i x) (us.set i u)
  | _, _, _, .nil => .nil
  | _, _, 0, .cons _ t => .cons r t
  | _, _, i + 1, .cons q t => .cons q (RDs.set r i t)
theorem RDs.snoc {x : D} {u : V} {xs : List D} {us : List V} (r : RD K H x u) (t : RDs K H xs us) : RDs K H (xs ++ [x]) (us ++ [u]) := t.append (.cons r .nil)
theorem RDs.reverse : ∀ {xs : List D} {us : List V}, RDs K H xs us → RDs K H xs.reverse us.reverse
  | _, _, .nil => .nil
  | _, _, .cons r t => by rw [List.reverse_cons, List.reverse_cons]; exact (RDs.reverse t).snoc r
theorem RDs.dropLast : ∀ {xs : List D} {us : List V}, RDs K H xs us → RDs K H xs.dropLast us.dropLast := fun {xs us} r => by
  rw [List.dropLast_eq_take, List.dropLast_eq_take, r.length]; exact r.take _
theorem RDs.ints : ∀ {ns : List Int} {us : List V}, RDs K H (ns.map D.int) us → us = ns.map V.int
  | [], _, h => by cases h; rfl
  | n :: ns, _, h => by
    rw [List.map_cons] at h
    cases h with
    | cons a b => cases a; rw [RDs.ints b, List.map_cons]
theorem RDs.of_ints : ∀ (ns : List Int), RDs K H (ns.map D.int) (ns.map V.int)
  | [] => .nil
  | n :: ns => .cons (.int n) (RDs.of_ints ns)
theorem RE.set {σ : L2.St} {δ : DE} (r : RE K H σ δ) (i : Nat) {d : D} {v : V} (h : RD K H d v) : RE K H (σ.set i (some v)) (δ.set i (some d)) := by
  refine ⟨by simpa using r.1, fun j e q => ?_⟩
  by_cases hj : j = i
  · subst hj
    by_cases hl : j < δ.length
    · rw [List.getElem?_set_self hl] at q; cases q
      exact ⟨v, by rw [List.getElem?_set_self (by rw [r.1]; exact hl)], h⟩
    · rw [List.getElem?_eq_none (by simpa using hl)] at q; cases q
  · rw [List.getElem?_set_ne (Ne.symm hj)] at q ⊢
    exact r.2 j e q
theorem RE.forget {σ : L2.St} {δ δ' : DE} (r : RE K H σ δ) (hl : δ'.length = δ.length) (h : ∀ (i : Nat) (d : D), δ'[i]? = some (some d) → δ[i]? = some (some d)) : RE K H σ δ' := ⟨r.1.trans hl.symm, fun i d q => r.2 i d (h i d q)⟩
end
/-! ### the judgements -/
abbrev KD := D → Sto → Prop
abbrev EF := DE → Sto → KD → Prop
/-- what is wanted, in the hand layer's words -/
def Cont (K : PySem.W.Frag) (M : Sto) (H : Hp) (Q : VK) : KD := fun d M' => ∀ v H', Ext K M M' H H' → RS K H' M' → RD K H' d v → Q v H'
def tz (K : PySem.W.Frag) (f : EF) : TE := fun σ H Q => ∃ δ M, RE K H σ δ ∧ RS K H M ∧ f δ M (Cont K M H Q)
def MonoE (f : EF) : Prop := ∀ δ M (Q Q' : KD), (∀ d M', Q d M' → Q' d M') → f δ M Q → f δ M Q'
structure ZE (X : Cx) (e : Expr) (f : EF) : Prop where
  mono : MonoE f
  pe : PE X e (tz X.K f)
theorem PE.weak {X : Cx} {e : Expr} {t t' : TE} (h : PE X e t) (w : ∀ σ H Q, t' σ H Q → t σ H Q) : PE X e t' := ⟨fun pins s σ H Q I q => h.run pins s σ H Q I (w _ _ _ q)⟩
theorem PT.weak {X : Cx} {e : Expr} {t t' : TT} (h : PT X e t) (w : ∀ σ H Q, t' σ H Q → t σ H Q) : PT X e t' := ⟨fun pins s σ H Q I q => h.run pins s σ H Q I (w _ _ _ q)⟩
theorem PA.weak {X : Cx} {e : List Expr} {t t' : TA} (h : PA X e t) (w : ∀ σ H Q, t' σ H Q → t σ H Q) : PA X e t' := ⟨fun pos pins s σ H Q I q => h.run pos pins s σ H Q I (w _ _ _ q)⟩
theorem PS.weak {X : Cx} {e : Stmt} {t t' : TS} (h : PS X e t) (w : ∀ D σ H, t' D σ H → t D σ H) : PS X e t' := ⟨fun pins s σ H D I q => h.run pins s σ H D I (w _ _ _ q)⟩
theorem PSs.weak {X : Cx} {e : List Stmt} {t t' : TS} (h : PSs X e t) (w : ∀ D σ H, t' D σ H → t D σ H) : PSs X e t' := ⟨fun pins s σ H D I q => h.run pins s σ H D I (w _ _ _ q)⟩
section
variable {K : PySem.W.Frag} {M M1 M2 M' : Sto} {H H1 H2 H' : Hp} {σ : L2.St} {δ : DE}
/-- from a reading of e: what is known behind it -/
theorem tz_bind {f : EF} (mo : MonoE f) (re : RE K H σ δ) (rs : RS K H M) {P : KD} {Q : VK} (hf : f δ M P)
    (k : ∀ d M1 v H1, P d M1 → Ext K M M1 H H1 → RE K H1 σ δ → RS K H1 M1 → RD K H1 d v → Q v H1) : tz K f σ H Q :=
  ⟨δ, M, re, rs, mo _ _ _ _ (fun d M1 p v H1 x r1 r2 => k d M1 v H1 p x (x.re re) r1 r2) hf⟩
theorem Cont.here {Q : VK} {d : D} {v : V} (rs : RS K H M) (r : RD K H d v) (h : Cont K M H Q d M) : Q v H := h v H (Ext.refl _ _ _) rs r
theorem Cont.mono {Q : VK} {d : D} {M1 : Sto} {H1 : Hp} (x : Ext K M M1 H H1) {M2 : Sto} (h : Cont K M H Q d M2) : Cont K M1 H1 Q d M2 := fun v H' x' rs r => h v H' (x.trans x') rs r
end
end Z
set_option maxHeartbeats 4000000
namespace Z
open PySem PySem.Spec PyProof.Rows L2
/-! ### data -/
section
variable (M : Sto)
mutual
inductive Py : D → PyData → Prop where
  | non : Py .non .none
  | bl (b : Bool) : Py (.bl b) (.bool b)
  | int (i : Int) : Py (.int i) (.int i)
  | str (x : Str) : Py (.str x) (.str x)
  | tup {ds : List D} {ps : List PyData} : Pys ds ps → Py (.tup ds) (.tuple ps)
  | scr {ds : List D} {ps : List PyData} : Pys ds ps → Py (.scr ds) (.list ps)
  | lst {a : Addr} {ds : List D} {ps : List PyData} : M a = some (.lst ds) → Pys ds ps → Py (.ref a) (.list ps)
inductive Pys : List D → List PyData → Prop where
  | nil : Pys [] []
  | cons {d : D} {p : PyData} {ds : List D} {ps : List PyData} : Py d p → Pys ds ps → Pys (d :: ds) (p :: ps)
end
end
mutual
/-- pure data as the library's -/
def D.py : D → PyData
  | .non => .none
  | .bl b => .bool b
  | .int i => .int i
  | .str x => .str x
  | .ref _ => .none
  | .tup xs => .tuple (D.pys xs)
  | .scr xs => .list (D.pys xs)
def D.pys : List D → List PyData
  | [] => []
  | d :: ds => D.py d :: D.pys ds
end
mutual
def D.pure : D → Bool
  | .ref _ => false
  | .tup xs => D.pures xs
  | .scr xs => D.pures xs
  | _ => true
def D.pures : List D → Bool
  | [] => true
  | d :: ds => D.pure d && D.pures ds
end
theorem D.pys_eq : ∀ ds : List D, D.pys ds = ds.map D.py
  | [] => rfl
  | d :: ds => by rw [D.pys, D.pys_eq ds, List.map_cons]
mutual
theorem Py.of {M : Sto} : ∀ (d : D), d.pure = true → Py M d d.py
  | .non, _ => .non
  | .bl b, _ => .bl b
  | .int i, _ => .int i
  | .str x, _ => .str x
  | .ref _, h => by simp [D.pure] at h
  | .tup xs, h => .tup (Pys.of xs (by simpa [D.pure] using h))
  | .scr xs, h => .scr (Pys.of xs (by simpa [D.pure] using h))
theorem Pys.of {M : Sto} : ∀ (ds : List D), D.pures ds = true → Pys M ds (D.pys ds)
  | [], _ => .nil
  | d :: ds, h => by
    rw [D.pures, Bool.and_eq_true] at h
    exact .cons (Py.of d h.1) (Pys.of ds h.2)
end
mutual
theorem Py.plain {M : Sto} : ∀ {d : D} {p : PyData}, Py M d p → p.plain = true
  | _, _, .non => rfl
  | _, _, .bl _ => rfl
  | _, _, .int _ => rfl
  | _, _, .str _ => rfl
  | _, _, .tup h => by simpa [PyData.plain] using Pys.plain h
  | _, _, .scr h => by simpa [PyData.plain] using Pys.plain h
  | _, _, .lst _ h => by simpa [PyData.plain] using Pys.plain h
theorem Pys.plain {M : Sto} : ∀ {ds : List D} {ps : List PyData}, Pys M ds ps → PyData.plainAll ps = true
  | _, _, .nil => rfl
  | _, _, .cons h r => by simp [PyData.plainAll, Py.plain h, Pys.plain r]
end
theorem Pys.length {M : Sto} : ∀ {ds : List D} {ps : List PyData}, Pys M ds ps → ds.length = ps.length
  | _, _, .nil => rfl
  | _, _, .cons _ r => by simp [Pys.length r]
theorem FzL.sq {K : PySem.W.Frag} {H : Hp} {a : Addr} {xs : List V} (h : FzL K H a xs) : SqL K H a xs := by
  rcases h with ⟨o, h⟩ | h
  · exact .inl (.inr ⟨o, h⟩)
  · exact .inr h
section
variable {K : PySem.W.Frag} {M : Sto} {H : Hp}
mutual
theorem Py.dp (rs : RS K H M) : ∀ {d : D} {p : PyData} {v : V}, Py M d p → RD K H d v → Dp K H v p
  | _, _, _, .non, r => by cases r; exact .non
  | _, _, _, .bl b, r => by cases r; exact .bl b
  | _, _, _, .int i, r => by cases r; exact .int i
  | _, _, _, .str x, r => by cases r; exact .str x
  | _, _, _, .tup h, r => by cases r with | tup a b => exact .tup a (Pys.dp rs h b)
  | _, _, _, .scr h, r => by cases r with | scr a b => exact .lst a.sq (Pys.dp rs h b)
  | _, _, _, .lst e h, r => by
    cases r
    obtain ⟨xs, q, z⟩ := rs _ _ e
    exact .lst (SqL.of q) (Pys.dp rs h z)
theorem Pys.dp (rs : RS K H M) : ∀ {ds : List D} {ps : List PyData} {vs : List V}, Pys M ds ps → RDs K H ds vs → DpAll K H vs ps
  | _, _, _, .nil, r => by cases r; exact .nil
  | _, _, _, .cons h t, r => by cases r with | cons a b => exact .cons (Py.dp rs h a) (Pys.dp rs t b)
end
theorem Py.reads {X : Cx} {pins : List (Addr × Obj)} {σ : L2.St} {s : Shared} (I : Inv X pins σ H s) (rs : RS X.K H M) {d : D} {p : PyData} {v : V} {u : Value} (h : Py M d p) (r : RD X.K H d v) (ru : RelV v u) : ∃ as, Reads s.heap u p as := Dp.reads I p v u (h.dp rs r) ru
theorem Pys.reads {X : Cx} {pins : List (Addr × Obj)} {σ : L2.St} {s : Shared} (I : Inv X pins σ H s) (rs : RS X.K H M) {ds : List D} {ps : List PyData} {vs : List V} {us : List Value} (h : Pys M ds ps) (r : RDs X.K H ds vs) (ru : Vals vs us) : ∃ as, ReadsAll s.heap us ps as := Dp.readsAll I ps vs us (h.dp rs r) ru
end
/-! ### operators, by values -/
abbrev OF := D → D → Sto → KD → Prop
def MonoO (f : OF) : Prop := ∀ x y M (Q Q' : KD), (∀ d M', Q d M' → Q' d M') → f x y M Q → f x y M Q'
def rz (K : PySem.W.Frag) (f : OF) : R2 := fun x y H Q => ∃ dx dy M, RD K H dx x ∧ RD K H dy y ∧ RS K H M ∧ f dx dy M (Cont K M H Q)
structure ZO (X : Cx) (g : Value → Value → Sem Value) (f : OF) : Prop where
  mono : MonoO f
  op : OpR X g (rz X.K f)
def eOp (r : OF) (fa fb : EF) : EF := fun δ M Q => fa δ M fun x M1 => fb δ M1 fun y M2 => r x y M2 Q
section
variable {X : Cx} {a b c e : Expr} {fa fb fc fe : EF} {pos : Pos}
theorem eOp_mono {r : OF} (hr : MonoO r) (ha : MonoE fa) (hb : MonoE fb) : MonoE (eOp r fa fb) := fun δ M Q Q' q h =>
  ha _ _ _ _ (fun _ _ h1 => hb _ _ _ _ (fun _ _ h2 => hr _ _ _ _ _ q h2) h1) h
theorem tz_op {r : OF} (hr : MonoO r) (ha : ZE X a fa) (hb : ZE X b fb) (σ : L2.St) (H : Hp) (Q : VK) (h : tz X.K (eOp r fa fb) σ H Q) : tOp (rz X.K r) (tz X.K fa) (tz X.K fb) σ H Q := by
  obtain ⟨δ, M, re, rs, h⟩ := h
  refine tz_bind ha.mono re rs h fun d M1 v H1 p x1 re1 rs1 r1 => ?_
  refine tz_bind hb.mono re1 rs1 p fun d2 M2 v2 H2 p2 x2 re2 rs2 r2 => ?_
  exact ⟨d, d2, M2, x2.rd r1, r2, rs2, hr _ _ _ _ _ (fun _ _ q => q.mono (x1.trans x2)) p2⟩
theorem ze_op {op : Operator} {r : OF} (ho : ZO X (binaryOp op) r) (ha : ZE X a fa) (hb : ZE X b fb) : ZE X (.BinOp a op b pos) (eOp r fa fb) :=
  ⟨eOp_mono ho.mono ha.mono hb.mono, PE.weak (pe_op ho.op ha.pe hb.pe) (tz_op ho.mono ha hb)⟩
theorem ze_cmp {op : CmpOp} {r : OF} (ho : ZO X (compareOp op) r) (ha : ZE X a fa) (hb : ZE X b fb) (hm : behindInMarks op b = false := by first | exact nomark _ | rfl) : ZE X (.Compare a [op] [b] pos) (eOp r fa fb) :=
  ⟨eOp_mono ho.mono ha.mono hb.mono, PE.weak (pe_cmpR ho.op ha.pe hb.pe hm) (tz_op ho.mono ha hb)⟩
/-! tests -/
abbrev KB := Bool → Sto → Prop
abbrev TF := DE → Sto → KB → Prop
def ContB (K : PySem.W.Frag) (M : Sto) (H : Hp) (Q : Bool → Hp → Prop) : KB := fun b M' => ∀ H', Ext K M M' H H' → RS K H' M' → Q b H'
def tzt (K : PySem.W.Frag) (f : TF) : TT := fun σ H Q => ∃ δ M, RE K H σ δ ∧ RS K H M ∧ f δ M (ContB K M H Q)
def MonoT (f : TF) : Prop := ∀ δ M (Q Q' : KB), (∀ d M', Q d M' → Q' d M') → f δ M Q → f δ M Q'
structure ZT (X : Cx) (e : Expr) (f : TF) : Prop where
  mono : MonoT f
  pt : PT X e (tzt X.K f)
structure ZW (X : Cx) (e : Expr) (f : TF) : Prop where
  mono : MonoT f
  pw : PW X e (tzt X.K f)
theorem ContB.mono {K : PySem.W.Frag} {M M1 M2 : Sto} {H H1 : Hp} {Q : Bool → Hp → Prop} {d : Bool} (x : Ext K M M1 H H1) (h : ContB K M H Q d M2) : ContB K M1 H1 Q d M2 := fun H' x' rs => h H' (x.trans x') rs
theorem tzt_bind {K : PySem.W.Frag} {M : Sto} {H : Hp} {σ : L2.St} {δ : DE} {f : TF} (mo : MonoT f) (re : RE K H σ δ) (rs : RS K H M) {P : KB} {Q : Bool → Hp → Prop} (hf : f δ M P)
    (k : ∀ d M1 H1, P d M1 → Ext K M M1 H H1 → RE K H1 σ δ → RS K H1 M1 → Q d H1) : tzt K f σ H Q :=
  ⟨δ, M, re, rs, mo _ _ _ _ (fun d M1 p H1 x r1 => k d M1 H1 p x (x.re re) r1) hf⟩
/-- two ways -/
def zif (b : Bool) (p q : Prop) : Prop := (b = true → p) ∧ (b = false → q)
theorem zif.ite {b : Bool} {p q : Prop} (h : zif b p q) : if b = true then p else q := by
  cases b with
  | true => exact iteT (h.1 rfl)
  | false => exact iteF (h.2 rfl)
theorem zif.mono {b : Bool} {p q p' q' : Prop} (h : zif b p q) (hp : p → p') (hq : q → q') : zif b p' q' := ⟨fun e => hp (h.1 e), fun e => hq (h.2 e)⟩
/-- truth -/
def truZ (d : D) (M : Sto) (Q : Bool → Prop) : Prop := match d with
  | .non => Q false
  | .bl b => Q b
  | .int i => Q (i != 0)
  | .str x => x.length ≤ sizeLine ∧ Q ((x.length : Int) != 0)
  | .tup ds => Q (!ds.isEmpty)
  | .scr ds => Q (!ds.isEmpty)
  | .ref a => (∃ ds, M a = some (.lst ds) ∧ Q (!ds.isEmpty)) ∨ (∃ kvs, M a = some (.dk kvs) ∧ Q (!kvs.isEmpty))
theorem truZ_mono {d : D} {M : Sto} {Q Q' : Bool → Prop} (q : ∀ b, Q b → Q' b) (h : truZ d M Q) : truZ d M Q' := by
  cases d with
  | str x => exact ⟨h.1, q _ h.2⟩
  | ref a =>
    rcases h with ⟨ds, e, h⟩ | ⟨ds, e, h⟩
    · exact .inl ⟨ds, e, q _ h⟩
    · exact .inr ⟨ds, e, q _ h⟩
  | non => exact q _ h
  | bl b => exact q _ h
  | int i => exact q _ h
  | tup ds => exact q _ h
  | scr ds => exact q _ h
theorem truZ_ok {K : PySem.W.Frag} {M : Sto} {H : Hp} {d : D} {v : V} {Q : Bool → Prop} (rs : RS K H M) (r : RD K H d v) (h : truZ d M Q) : ∃ k, TruV K v H k ∧ Q k := by
  have emp : ∀ {ds : List D} {xs : List V}, RDs K H ds xs → (!xs.isEmpty) = !ds.isEmpty := fun r => by cases r <;> rfl
  cases d with
  | non => cases r; exact ⟨_, rfl, h⟩
  | bl b => cases r; exact ⟨_, rfl, h⟩
  | int i => cases r; exact ⟨_, rfl, h⟩
  | str x => cases r; exact ⟨_, ⟨h.1, rfl⟩, h.2⟩
  | tup ds => cases r with | tup a b => exact ⟨_, .inr (.inl ⟨_, a, rfl⟩), by rw [emp b]; exact h⟩
  | scr ds => cases r with | scr a b => exact ⟨_, .inl ⟨_, a.sq, rfl⟩, by rw [emp b]; exact h⟩
  | ref a =>
    cases r
    rcases h with ⟨ds, e, h⟩ | ⟨ds, e, h⟩
    · obtain ⟨xs, q, z⟩ := rs _ _ e
      exact ⟨_, .inl ⟨_, SqL.of q, rfl⟩, by rw [emp z]; exact h⟩
    · obtain ⟨xs, q, z⟩ := rs _ _ e
      refine ⟨_, .inr (.inr ⟨_, q, rfl⟩), ?_⟩
      cases z <;> exact h
def tTru (f : EF) : TF := fun δ M Q => f δ M fun d M1 => truZ d M1 fun b => Q b M1
theorem tTru_mono (ha : MonoE fa) : MonoT (tTru fa) := fun δ M Q Q' q h => ha _ _ _ _ (fun _ _ h1 => truZ_mono (fun _ => q _ _) h1) h
/-- any expression whose test is its value's truth -/
theorem zt_tru (ha : ZE X a fa) (he : ∀ whole, isTrue a X.env whole = (do let v ← whole; standAt a.pos; holding [v] (truthy v)) := by intro _; rfl) : ZT X a (tTru fa) := by
  refine ⟨tTru_mono ha.mono, PT.weak (pt_truth ha.pe he) fun σ H Q h => ?_⟩
  obtain ⟨δ, M, re, rs, h⟩ := h
  refine tz_bind ha.mono re rs h fun d M1 v H1 p x1 re1 rs1 r1 => ?_
  obtain ⟨k, t, q⟩ := truZ_ok rs1 r1 p
  exact ⟨k, t, q H1 x1 rs1⟩
/-- an operation's value as a truth value -/
def tOpB (r : OF) (fa fb : EF) : TF := fun δ M Q => fa δ M fun x M1 => fb δ M1 fun y M2 => r x y M2 fun d M3 => match d with | .bl b => Q b M3 | _ => False
theorem tOpB_mono {r : OF} (hr : MonoO r) (ha : MonoE fa) (hb : MonoE fb) : MonoT (tOpB r fa fb) := fun δ M Q Q' q h =>
  ha _ _ _ _ (fun _ _ h1 => hb _ _ _ _ (fun _ _ h2 => hr _ _ _ _ _ (fun d M' h3 => by cases d <;> first | exact q _ _ h3 | exact (h3 : False).elim) h2) h1) h
theorem zt_cmp {op : CmpOp} {r : OF} (ho : ZO X (compareOp op) r) (ha : ZE X a fa) (hb : ZE X b fb) (hm : behindInMarks op b = false := by first | exact nomark _ | rfl) : ZT X (.Compare a [op] [b] pos) (tOpB r fa fb) := by
  refine ⟨tOpB_mono ho.mono ha.mono hb.mono, PT.weak (pt_cmpR ho.op ha.pe hb.pe hm) fun σ H Q h => ?_⟩
  obtain ⟨δ, M, re, rs, h⟩ := h
  refine tz_bind ha.mono re rs h fun d M1 v H1 p x1 re1 rs1 r1 => ?_
  refine tz_bind hb.mono re1 rs1 p fun d2 M2 v2 H2 p2 x2 re2 rs2 r2 => ?_
  refine ⟨d, d2, M2, x2.rd r1, r2, rs2, ho.mono _ _ _ _ _ (fun e M3 q v3 H3 x3 rs3 r3 => ?_) p2⟩
  cases e <;> first | exact (q : False).elim | (cases r3; exact ⟨_, rfl, q H3 ((x1.trans x2).trans x3) rs3⟩)
/-! and, or, not -/
variable {ta tb : TF} {rest : List Expr}
def tAndZ (t u : TF) : TF := fun δ M Q => t δ M fun c M1 => zif c (u δ M1 Q) (Q false M1)
def tOrZ (t u : TF) : TF := fun δ M Q => t δ M fun c M1 => zif c (Q true M1) (u δ M1 Q)
def tNotZ (t : TF) : TF := fun δ M Q => t δ M fun c M1 => Q (!c) M1
theorem tAndZ_mono (ha : MonoT ta) (hb : MonoT tb) : MonoT (tAndZ ta tb) := fun δ M Q Q' q h => ha _ _ _ _ (fun _ _ h1 => h1.mono (hb _ _ _ _ q) (q _ _)) h
theorem tOrZ_mono (ha : MonoT ta) (hb : MonoT tb) : MonoT (tOrZ ta tb) := fun δ M Q Q' q h => ha _ _ _ _ (fun _ _ h1 => h1.mono (q _ _) (hb _ _ _ _ q)) h
theorem tNotZ_mono (ha : MonoT ta) : MonoT (tNotZ ta) := fun δ M Q Q' q h => ha _ _ _ _ (fun _ _ h1 => q _ _ h1) h
theorem PW.weak {X : Cx} {e : Expr} {t t' : TT} (h : PW X e t) (w : ∀ σ H Q, t' σ H Q → t σ H Q) : PW X e t' := ⟨fun wh pins s σ H Q I q => h.run wh pins s σ H Q I (w _ _ _ q)⟩
theorem zw_one_and (ha : ZT X a ta) : ZW X (.BoolOp .And [a] pos) ta := ⟨ha.mono, pw_and1 ha.pt⟩
theorem zw_one_or (ha : ZT X a ta) : ZW X (.BoolOp .Or [a] pos) ta := ⟨ha.mono, pw_or1 ha.pt⟩
theorem zw_and (ha : ZT X a ta) (hb : ZW X (.BoolOp .And (b :: rest) pos) tb) : ZW X (.BoolOp .And (a :: b :: rest) pos) (tAndZ ta tb) := by
  refine ⟨tAndZ_mono ha.mono hb.mono, PW.weak (pw_and ha.pt hb.pw) fun σ H Q h => ?_⟩
  obtain ⟨δ, M, re, rs, h⟩ := h
  refine tzt_bind ha.mono re rs h fun d M1 H1 p x1 re1 rs1 => zif.ite (p.mono (fun p => ?_) fun p => p H1 x1 rs1)
  exact ⟨δ, M1, re1, rs1, hb.mono _ _ _ _ (fun _ _ q => q.mono x1) p⟩
theorem zw_or (ha : ZT X a ta) (hb : ZW X (.BoolOp .Or (b :: rest) pos) tb) : ZW X (.BoolOp .Or (a :: b :: rest) pos) (tOrZ ta tb) := by
  refine ⟨tOrZ_mono ha.mono hb.mono, PW.weak (pw_or ha.pt hb.pw) fun σ H Q h => ?_⟩
  obtain ⟨δ, M, re, rs, h⟩ := h
  refine tzt_bind ha.mono re rs h fun d M1 H1 p x1 re1 rs1 => zif.ite (p.mono (fun p => p H1 x1 rs1) fun p => ?_)
  exact ⟨δ, M1, re1, rs1, hb.mono _ _ _ _ (fun _ _ q => q.mono x1) p⟩
theorem ZW.zt (h : ZW X a ta) : ZT X a ta := ⟨h.mono, h.pw.pt⟩
theorem zt_not (ha : ZT X a ta) : ZT X (.UnaryOp .Not a pos) (tNotZ ta) := by
  refine ⟨tNotZ_mono ha.mono, PT.weak (pt_not ha.pt) fun σ H Q h => ?_⟩
  obtain ⟨δ, M, re, rs, h⟩ := h
  exact ⟨δ, M, re, rs, h⟩
/-- as values: the left ones are truth values -/
def eAndZ (fa fb : EF) : EF := fun δ M Q => fa δ M fun d M1 => match d with | .bl c => zif c (fb δ M1 Q) (Q (.bl false) M1) | _ => False
def eOrZ (fa fb : EF) : EF := fun δ M Q => fa δ M fun d M1 => match d with | .bl c => zif c (Q (.bl true) M1) (fb δ M1 Q) | _ => False
def eNotZ (fa : EF) : EF := fun δ M Q => fa δ M fun d M1 => match d with | .bl c => Q (.bl (!c)) M1 | _ => False
theorem eAndZ_mono (ha : MonoE fa) (hb : MonoE fb) : MonoE (eAndZ fa fb) := fun δ M Q Q' q h => ha _ _ _ _ (fun d _ h1 => by cases d <;> first | exact (h1 : False).elim | exact zif.mono h1 (hb _ _ _ _ q) (q _ _)) h
theorem eOrZ_mono (ha : MonoE fa) (hb : MonoE fb) : MonoE (eOrZ fa fb) := fun δ M Q Q' q h => ha _ _ _ _ (fun d _ h1 => by cases d <;> first | exact (h1 : False).elim | exact zif.mono h1 (q _ _) (hb _ _ _ _ q)) h
theorem eNotZ_mono (ha : MonoE fa) : MonoE (eNotZ fa) := fun δ M Q Q' q h => ha _ _ _ _ (fun d _ h1 => by cases d <;> first | exact (h1 : False).elim | exact q _ _ h1) h
theorem ze_one {op} (h : ZE X a fa) : ZE X (.BoolOp op [a] pos) fa := ⟨h.mono, pe_one h.pe⟩
theorem ze_and (ha : ZE X a fa) (hb : ZE X (.BoolOp .And (b :: rest) pos) fb) : ZE X (.BoolOp .And (a :: b :: rest) pos) (eAndZ fa fb) := by
  refine ⟨eAndZ_mono ha.mono hb.mono, PE.weak (pe_and ha.pe hb.pe) fun σ H Q h => ?_⟩
  obtain ⟨δ, M, re, rs, h⟩ := h
  refine tz_bind ha.mono re rs h fun d M1 v H1 p x1 re1 rs1 r1 => ?_
  cases d <;> first | exact (p : False).elim | skip
  cases r1
  refine ⟨_, rfl, zif.ite (zif.mono p (fun p => ?_) fun p => p _ H1 x1 rs1 (.bl _))⟩
  exact ⟨δ, M1, re1, rs1, hb.mono _ _ _ _ (fun _ _ q => q.mono x1) p⟩
theorem ze_or (ha : ZE X a fa) (hb : ZE X (.BoolOp .Or (b :: rest) pos) fb) : ZE X (.BoolOp .Or (a :: b :: rest) pos) (eOrZ fa fb) := by
  refine ⟨eOrZ_mono ha.mono hb.mono, PE.weak (pe_or ha.pe hb.pe) fun σ H Q h => ?_⟩
  obtain ⟨δ, M, re, rs, h⟩ := h
  refine tz_bind ha.mono re rs h fun d M1 v H1 p x1 re1 rs1 r1 => ?_
  cases d <;> first | exact (p : False).elim | skip
  cases r1
  refine ⟨_, rfl, zif.ite (zif.mono p (fun p => p _ H1 x1 rs1 (.bl _)) fun p => ?_)⟩
  exact ⟨δ, M1, re1, rs1, hb.mono _ _ _ _ (fun _ _ q => q.mono x1) p⟩
theorem ze_not (ha : ZE X a fa) : ZE X (.UnaryOp .Not a pos) (eNotZ fa) := by
  refine ⟨eNotZ_mono ha.mono, PE.weak (pe_not ha.pe) fun σ H Q h => ?_⟩
  obtain ⟨δ, M, re, rs, h⟩ := h
  refine tz_bind ha.mono re rs h fun d M1 v H1 p x1 re1 rs1 r1 => ?_
  cases d <;> first | exact (p : False).elim | skip
  cases r1
  exact ⟨_, rfl, p _ H1 x1 rs1 (.bl _)⟩
def eIfZ (t : TF) (fa fb : EF) : EF := fun δ M Q => t δ M fun c M1 => zif c (fa δ M1 Q) (fb δ M1 Q)
theorem eIfZ_mono (ht : MonoT ta) (ha : MonoE fa) (hb : MonoE fb) : MonoE (eIfZ ta fa fb) := fun δ M Q Q' q h => ht _ _ _ _ (fun _ _ h1 => h1.mono (ha _ _ _ _ q) (hb _ _ _ _ q)) h
theorem ze_if (hc : ZT X c ta) (ha : ZE X a fa) (hb : ZE X b fb) : ZE X (.IfExp c a b pos) (eIfZ ta fa fb) := by
  refine ⟨eIfZ_mono hc.mono ha.mono hb.mono, PE.weak (pe_ifExp hc.pt ha.pe hb.pe) fun σ H Q h => ?_⟩
  obtain ⟨δ, M, re, rs, h⟩ := h
  refine tzt_bind hc.mono re rs h fun d M1 H1 p x1 re1 rs1 => zif.ite (p.mono (fun p => ?_) fun p => ?_)
  · exact ⟨δ, M1, re1, rs1, ha.mono _ _ _ _ (fun _ _ q => q.mono x1) p⟩
  · exact ⟨δ, M1, re1, rs1, hb.mono _ _ _ _ (fun _ _ q => q.mono x1) p⟩
/-! names, constants -/
def eVar (i : Nat) : EF := fun δ M Q => match δ[i]? with | some (some d) => Q d M | _ => False
def eC (d : D) : EF := fun _ M Q => Q d M
theorem eC_mono {d : D} : MonoE (eC d) := fun _ _ _ _ q h => q _ _ h
theorem eVar_of {i : Nat} {δ : DE} {M : Sto} {Q : KD} (h : eVar i δ M Q) : ∃ d, δ[i]? = some (some d) ∧ Q d M := by
  unfold eVar at h
  split at h
  · rename_i e; exact ⟨_, e, h⟩
  · exact False.elim h
theorem eVar_mono {i : Nat} : MonoE (eVar i) := fun δ M Q Q' q h => by
  obtain ⟨d, e, h⟩ := eVar_of h
  unfold eVar
  rw [e]
  exact q _ _ h
theorem zv (i : Nat) {x : Str} (hN : X.N[i]? = some x := by rfl) (hv : Vis X.env.scope x := by first | exact Or.inl rfl | exact Or.inr (Or.inl rfl) | exact Or.inr (Or.inr rfl)) (hd : (x == ("__debug__" : Str)) = false := by decide)
    (hcd : (x == ("__classdict__" : Str)) = false := by decide) : ZE X (.Name x pos) (eVar i) := by
  refine ⟨eVar_mono, PE.weak (pe_var hN hv hd hcd) fun σ H Q h => ?_⟩
  obtain ⟨δ, M, re, rs, h⟩ := h
  obtain ⟨d, e, q⟩ := eVar_of h
  obtain ⟨v, e2, r⟩ := re.2 i d e
  exact ⟨v, e2, q.here rs r⟩
theorem ze_const {v : V} {d : D} (h : PE X a (tC v)) (r : ∀ K H, RD K H d v) : ZE X a (eC d) := by
  refine ⟨eC_mono, PE.weak h fun σ H Q h => ?_⟩
  obtain ⟨δ, M, re, rs, h⟩ := h
  exact Cont.here rs (r _ _) h
theorem zi {i j} : ZE X (.Constant (.int i) j pos) (eC (.int i)) := ze_const pe_int fun _ _ => .int i
theorem zb {i j} : ZE X (.Constant (.bool i) j pos) (eC (.bl i)) := ze_const pe_bl fun _ _ => .bl i
theorem zn {j} : ZE X (.Constant .none j pos) (eC .non) := ze_const pe_non fun _ _ => .non
theorem zs {x j} : ZE X (.Constant (.str x) j pos) (eC (.str x)) := ze_const pe_str fun _ _ => .str x
/-- a module's int, text -/
theorem zg_int {x : Str} {i : Int} {t : Tok} (hg : Gl X x) (hm : X.mg x = some (.int i t)) (hd : (x == ("__debug__" : Str)) = false := by decide) : ZE X (.Name x pos) (eC (.int i)) := ze_const (pe_glob (v := .int i) hg hm ⟨_, rfl⟩ hd) fun _ _ => .int i
theorem zg_str {x y : Str} {t : Tok} (hg : Gl X x) (hm : X.mg x = some (.str y t)) (hd : (x == ("__debug__" : Str)) = false := by decide) : ZE X (.Name x pos) (eC (.str y)) := ze_const (pe_glob (v := .str y) hg hm ⟨_, rfl⟩ hd) fun _ _ => .str y
theorem zg_ref {x : Str} {f : Addr} (hg : Gl X x) (hm : X.mg x = some (.ref f)) (hd : (x == ("__debug__" : Str)) = false := by decide) : ZE X (.Name x pos) (eC (.ref f)) := ze_const (pe_glob (v := .ref f) hg hm rfl hd) fun _ _ => .ref f
end
end Z
set_option maxHeartbeats 4000000
namespace Z
open PySem PySem.Spec PyProof.Rows L2
/-! ### arithmetic -/
def oAdd : OF := fun x y M Q => match x, y with
  | .int i, .int j => Q (.int (i + j)) M
  | .tup xs, .tup ys => xs.length + ys.length ≤ sizeLine ∧ Q (.tup (xs ++ ys)) M
  | .str i, .str j => i.length + j.length ≤ sizeLine ∧ Q (.str (i ++ j)) M
  | .ref a, .ref b => ∃ xs ys, M a = some (.lst xs) ∧ M b = some (.lst ys) ∧ xs.length + ys.length ≤ sizeLine ∧ ∀ p, M p = none → Q (.ref p) (put M p (.lst (xs ++ ys)))
  | _, _ => False
def oSub : OF := fun x y M Q => match x, y with
  | .int i, .int j => Q (.int (i - j)) M
  | _, _ => False
def oMul : OF := fun x y M Q => match x, y with
  | .int i, .int j => IntMulOk i j ∧ Q (.int (i * j)) M
  | .tup xs, .int k => xs ≠ [] ∧ xs.length ≤ 1000 ∧ 0 ≤ k ∧ k ≤ 1000 ∧ Q (.tup (List.replicate k.toNat xs).flatten) M
  | .ref a, .int k => ∃ xs, M a = some (.lst xs) ∧ -(2 ^ 63) ≤ k ∧ k < 2 ^ 63 ∧ xs.length * k.toNat ≤ sizeLine ∧ ∀ p, M p = none → Q (.ref p) (put M p (.lst (List.replicate k.toNat xs).flatten))
  | _, _ => False
def oFdiv : OF := fun x y M Q => match x, y with
  | .int i, .int j => (j ≠ 0 ∧ j.natAbs.log2 < 9000) ∧ Q (.int (i.fdiv j)) M
  | _, _ => False
def oMod : OF := fun x y M Q => match x, y with
  | .int i, .int j => j ≠ 0 ∧ Q (.int (i.fmod j)) M
  | _, _ => False
def oXor : OF := fun x y M Q => match x, y with
  | .int i, .int j => Q (.int (Builtin.bitXor i j)) M
  | _, _ => False
def oAnd : OF := fun x y M Q => match x, y with
  | .int i, .int j => Q (.int (Builtin.bitAnd i j)) M
  | _, _ => False
def oShr : OF := fun x y M Q => match x, y with
  | .int i, .int j => 0 ≤ j ∧ Q (.int (i / 2 ^ j.toNat)) M
  | _, _ => False
def oShl : OF := fun x y M Q => match x, y with
  | .int i, .int j => (0 ≤ j ∧ j ≤ 1000000 ∧ i.natAbs < 2 ^ 64) ∧ Q (.int (i * 2 ^ j.toNat)) M
  | _, _ => False
def oPow : OF := fun x y M Q => match x, y with
  | .int i, .int j => (0 ≤ j ∧ j ≤ 1000000 ∧ i.natAbs < 2 ^ 64) ∧ Q (.int (i ^ j.toNat)) M
  | _, _ => False
section
variable {X : Cx}
theorem oAdd_mono : MonoO oAdd := by
  intro x y M Q Q' q h
  unfold oAdd at h ⊢
  split at h
  · exact q _ _ h
  · exact ⟨h.1, q _ _ h.2⟩
  · exact ⟨h.1, q _ _ h.2⟩
  · obtain ⟨xs, ys, a, b, c, d⟩ := h
    exact ⟨xs, ys, a, b, c, fun p n => q _ _ (d p n)⟩
  · exact False.elim h
theorem oSub_mono : MonoO oSub := by
  intro x y M Q Q' q h; unfold oSub at h ⊢; split at h
  · exact q _ _ h
  · exact False.elim h
theorem oXor_mono : MonoO oXor := by
  intro x y M Q Q' q h; unfold oXor at h ⊢; split at h
  · exact q _ _ h
  · exact False.elim h
theorem oAnd_mono : MonoO oAnd := by
  intro x y M Q Q' q h; unfold oAnd at h ⊢; split at h
  · exact q _ _ h
  · exact False.elim h
theorem oFdiv_mono : MonoO oFdiv := by
  intro x y M Q Q' q h; unfold oFdiv at h ⊢; split at h
  · exact ⟨h.1, q _ _ h.2⟩
  · exact False.elim h
theorem oMod_mono : MonoO oMod := by
  intro x y M Q Q' q h; unfold oMod at h ⊢; split at h
  · exact ⟨h.1, q _ _ h.2⟩
  · exact False.elim h
theorem oShr_mono : MonoO oShr := by
  intro x y M Q Q' q h; unfold oShr at h ⊢; split at h
  · exact ⟨h.1, q _ _ h.2⟩
  · exact False.elim h
theorem oShl_mono : MonoO oShl := by
  intro x y M Q Q' q h; unfold oShl at h ⊢; split at h
  · exact ⟨h.1, q _ _ h.2⟩
  · exact False.elim h
theorem oPow_mono : MonoO oPow := by
  intro x y M Q Q' q h; unfold oPow at h ⊢; split at h
  · exact ⟨h.1, q _ _ h.2⟩
  · exact False.elim h
theorem oMul_mono : MonoO oMul := by
  intro x y M Q Q' q h; unfold oMul at h ⊢; split at h
  · exact ⟨h.1, q _ _ h.2⟩
  · exact ⟨h.1, h.2.1, h.2.2.1, h.2.2.2.1, q _ _ h.2.2.2.2⟩
  · obtain ⟨xs, a, b, c, d, e⟩ := h
    exact ⟨xs, a, b, c, d, fun p n => q _ _ (e p n)⟩
  · exact False.elim h
/-- a new list that the store tells -/
theorem new_lst {K : PySem.W.Frag} {M : Sto} {H : Hp} {Q : VK} {ds : List D} {xs : List V} {p : Addr} (rs : RS K H M) (r : RDs K H ds xs) (hp : H p = none) (h : ∀ p, M p = none → Cont K M H Q (.ref p) (put M p (.lst ds))) : Q (.ref p) (upd H p (.lst xs)) :=
  h p (rs.free hp) _ _ (Ext.laid hp) (rs.laid hp ⟨xs, upd_same, (Ext.laid0 (K := K) (M := M) hp).rds r⟩) (.ref p)
/-- a new tuple -/
theorem new_tup {K : PySem.W.Frag} {M : Sto} {H : Hp} {Q : VK} {ds : List D} {xs : List V} {p : Addr} (rs : RS K H M) (r : RDs K H ds xs) (hp : H p = none) (h : Cont K M H Q (.tup ds) M) : Q (.ref p) (upd H p (.tup xs)) :=
  h _ _ (Ext.laid0 hp) (rs.laid0 hp) (.tup (.inl (.inl upd_same)) ((Ext.laid0 (K := K) (M := M) hp).rds r))
theorem zo_add : ZO X (binaryOp .Add) oAdd := ⟨oAdd_mono, fun pins s σ H x y v u Q I rx ry ⟨dx, dy, M, r1, r2, rs, h⟩ => by
  unfold oAdd at h
  split at h
  · cases r1; cases r2; exact op_add pins s σ H _ _ v u Q I rx ry ⟨_, _, rfl, rfl, h.here rs (.int _)⟩
  · rename_i xs ys
    cases r1 with | tup t1 q1 =>
    cases r2 with | tup t2 q2 =>
    refine op_catA pins s σ H _ _ v u Q I rx ry ⟨_, _, _, _, rfl, rfl, t1, t2, by rw [← q1.length, ← q2.length]; exact h.1, fun e => ?_, fun _ e => ?_, fun _ _ p hp => ?_⟩
    · subst e; cases q1; exact h.2.here rs (.tup t2 (by simpa using q2))
    · subst e; cases q2; exact h.2.here rs (.tup t1 (by simpa using q1))
    · exact new_tup rs (q1.append q2) hp h.2
  · cases r1; cases r2; exact op_add_str pins s σ H _ _ v u Q I rx ry ⟨_, _, rfl, rfl, h.1, h.2.here rs (.str _)⟩
  · obtain ⟨xs, ys, ha, hb, hz, h⟩ := h
    cases r1; cases r2
    obtain ⟨us, e1, q1⟩ := rs _ _ ha
    obtain ⟨ws, e2, q2⟩ := rs _ _ hb
    exact op_cat pins s σ H _ _ v u Q I rx ry ⟨_, _, _, _, rfl, rfl, e1, e2, by rw [← q1.length, ← q2.length]; exact hz, fun p hp => new_lst rs (q1.append q2) hp h⟩
  · exact False.elim h⟩
theorem zo_sub : ZO X (binaryOp .Sub) oSub := ⟨oSub_mono, fun pins s σ H x y v u Q I rx ry ⟨dx, dy, M, r1, r2, rs, h⟩ => by
  unfold oSub at h
  split at h
  · cases r1; cases r2; exact op_sub pins s σ H _ _ v u Q I rx ry ⟨_, _, rfl, rfl, h.here rs (.int _)⟩
  · exact False.elim h⟩
theorem zo_xor : ZO X (binaryOp .BitXor) oXor := ⟨oXor_mono, fun pins s σ H x y v u Q I rx ry ⟨dx, dy, M, r1, r2, rs, h⟩ => by
  unfold oXor at h
  split at h
  · cases r1; cases r2; exact op_xor pins s σ H _ _ v u Q I rx ry ⟨_, _, rfl, rfl, h.here rs (.int _)⟩
  · exact False.elim h⟩
theorem zo_and : ZO X (binaryOp .BitAnd) oAnd := ⟨oAnd_mono, fun pins s σ H x y v u Q I rx ry ⟨dx, dy, M, r1, r2, rs, h⟩ => by
  unfold oAnd at h
  split at h
  · cases r1; cases r2; exact op_and pins s σ H _ _ v u Q I rx ry ⟨_, _, rfl, rfl, h.here rs (.int _)⟩
  · exact False.elim h⟩
theorem op_fdivZ : OpR X (binaryOp .FloorDiv) (rI (fun _ j => j ≠ 0 ∧ j.natAbs.log2 < 9000) fun i j => .int (i.fdiv j)) := opI fun i j _ _ _ _ _ hc q => floordiv_int hc.1 q (.inl (PyProof.noPylong_of_log2 hc.2))
theorem zo_fdiv : ZO X (binaryOp .FloorDiv) oFdiv := ⟨oFdiv_mono, fun pins s σ H x y v u Q I rx ry ⟨dx, dy, M, r1, r2, rs, h⟩ => by
  unfold oFdiv at h
  split at h
  · cases r1; cases r2; exact op_fdivZ pins s σ H _ _ v u Q I rx ry ⟨_, _, rfl, rfl, h.1, h.2.here rs (.int _)⟩
  · exact False.elim h⟩
theorem zo_mod : ZO X (binaryOp .Mod) oMod := ⟨oMod_mono, fun pins s σ H x y v u Q I rx ry ⟨dx, dy, M, r1, r2, rs, h⟩ => by
  unfold oMod at h
  split at h
  · cases r1; cases r2; exact op_modN pins s σ H _ _ v u Q I rx ry ⟨_, _, rfl, rfl, h.1, h.2.here rs (.int _)⟩
  · exact False.elim h⟩
theorem zo_shr : ZO X (binaryOp .RShift) oShr := ⟨oShr_mono, fun pins s σ H x y v u Q I rx ry ⟨dx, dy, M, r1, r2, rs, h⟩ => by
  unfold oShr at h
  split at h
  · cases r1; cases r2; exact op_shr pins s σ H _ _ v u Q I rx ry ⟨_, _, rfl, rfl, h.1, h.2.here rs (.int _)⟩
  · exact False.elim h⟩
theorem zo_shl : ZO X (binaryOp .LShift) oShl := ⟨oShl_mono, fun pins s σ H x y v u Q I rx ry ⟨dx, dy, M, r1, r2, rs, h⟩ => by
  unfold oShl at h
  split at h
  · cases r1; cases r2; exact op_shl pins s σ H _ _ v u Q I rx ry ⟨_, _, rfl, rfl, h.1, h.2.here rs (.int _)⟩
  · exact False.elim h⟩
theorem zo_pow : ZO X (binaryOp .Pow) oPow := ⟨oPow_mono, fun pins s σ H x y v u Q I rx ry ⟨dx, dy, M, r1, r2, rs, h⟩ => by
  unfold oPow at h
  split at h
  · cases r1; cases r2; exact op_pow pins s σ H _ _ v u Q I rx ry ⟨_, _, rfl, rfl, h.1, h.2.here rs (.int _)⟩
  · exact False.elim h⟩
end
end Z
set_option maxHeartbeats 4000000
namespace Z
open PySem PySem.Spec PyProof.Rows L2
section
open MeetsSeq MeetsSeq2 MeetsSeq3 SeqRoads2
open AutoSeq1 (wpAny_loadPart')
theorem tuple_mul1 (l : Addr) (items : Array Value) (n : Nat) (dd : Option Addr) (sl : Array (Option Value)) (u : Tok) :
    Meets (Builtin.«tuple.__mul__» ⟨[.ref l, .int 1 u], []⟩) (fun _ R s => s.heap.get? l = some { cls := .type "tuple", dict := dd, data := .seq items n, slots := sl } ∧ R (.ok (.ret (Value.ref l))) s) :=
  .of_wp fun prog w A R s h => by
    obtain ⟨hp, g, d, tk, os⟩ := s
    obtain ⟨hl, h⟩ := h
    have f1 := AutoSeq1.idx_int
    have c1 : (items.isEmpty || (1 : Int) == 1) = true := by simp
    wp_walk using wpAny_loadPart' hl
    repeat (first
      | (refine wpAny_ite_true (decide_eq_true c1) ?_; wp_walk using wpAny_loadPart' hl)
      | (refine wpAny_ite_true c1 ?_; wp_walk using wpAny_loadPart' hl))
    all_goals (try exact ⟨_, rfl, h⟩)
theorem tuple_mul0 (l : Addr) (items : Array Value) (n : Nat) (dd : Option Addr) (sl : Array (Option Value)) (u : Tok) (c1 : items.isEmpty = false) :
    Meets (Builtin.«tuple.__mul__» ⟨[.ref l, .int 0 u], []⟩) (fun _ R s => s.heap.get? l = some { cls := .type "tuple", dict := dd, data := .seq items n, slots := sl } ∧
      R (.ok (.ret (Value.ref s.heap.objs.size))) { s with heap := s.heap.push { cls := Value.type "tuple", data := Data.seq #[] }, toks := s.toks }) :=
  .of_wp fun prog w A R s h => by
    obtain ⟨hp, g, d, tk, os⟩ := s
    obtain ⟨hl, h⟩ := h
    have f1 := AutoSeq1.idx_int
    have c2 : (items.isEmpty || (0 : Int) == 1) = false := by rw [c1]; rfl
    wp_walk using wpAny_loadPart' hl
    repeat (first
      | (refine wpAny_ite_false (decide_eq_false (by rw [c2]; exact Bool.false_ne_true)) ?_; wp_walk using wpAny_loadPart' hl))
    all_goals (try exact ⟨_, rfl, h⟩)
end
end Z
set_option maxHeartbeats 4000000
namespace Z
open PySem PySem.Spec PyProof.Rows L2
theorem replicate_flat {K : PySem.W.Frag} {H : Hp} {xs : List D} {us : List V} (r : RDs K H xs us) : ∀ k : Nat, RDs K H (List.replicate k xs).flatten (List.replicate k us).flatten
  | 0 => .nil
  | k + 1 => by
    rw [List.replicate_succ, List.replicate_succ, List.flatten_cons, List.flatten_cons]
    exact r.append (replicate_flat r k)
section
variable {X : Cx}
theorem rep1 {pins : List (Addr × Obj)} {s : Shared} {σ : L2.St} {H : Hp} {l : Addr} {xs : List V} {t : Tok} {Q : VK} (I : Inv X pins σ H s) (hT : SqT X.K H l xs) (q : Q (.ref l) H) :
    wpAny (model X.prog X.w) X.A (binaryOp .Mult (.ref l) (.int 1 t)) (EP X pins σ Q) X.xe s := by
  obtain ⟨its, r, ⟨⟨cls, dd, data, sl⟩, ho, hc, n, hd⟩, hs⟩ := I.tuple hT
  simp only at hc hd
  subst hc hd
  exact wpAny_binaryOp_repeat_ref (T := "tuple") (U := "int") (by decide) ⟨_, ho, rfl⟩ (fun s' => typeIs_int s' 1 t) noFill_tuple_mul F.fills_int_mul F.slot_int_rmul repeat_tuple F.slot_int_index.lookup
    (call_meets F.slot_int_rmul (typeIs_int s 1 t) F.entry_int_rmul (F.args_int_rmul_2 _ _) (int_rmul_tuple 1 t l its.toArray n dd sl)
      ⟨ho, rfl, ⟨_, ho, rfl⟩, call_meets F.slot_tuple_mul ⟨_, ho, rfl⟩ F.entry_tuple_mul (F.args_tuple_mul_2 _ _) (tuple_mul1 l its.toArray n dd sl t) ⟨ho, ⟨.ref l, H, I, rfl, q⟩⟩⟩)
theorem rep0 {pins : List (Addr × Obj)} {s : Shared} {σ : L2.St} {H : Hp} {l : Addr} {xs : List V} {t : Tok} {Q : VK} (I : Inv X pins σ H s) (hT : SqT X.K H l xs) (hne : xs ≠ []) (q : ∀ p, H p = none → Q (.ref p) (upd H p (.tup []))) :
    wpAny (model X.prog X.w) X.A (binaryOp .Mult (.ref l) (.int 0 t)) (EP X pins σ Q) X.xe s := by
  obtain ⟨its, r, ⟨⟨cls, dd, data, sl⟩, ho, hc, n, hd⟩, hs⟩ := I.tuple hT
  simp only at hc hd
  subst hc hd
  have hi : its.toArray.isEmpty = false := by
    cases r with
    | nil => exact absurd rfl hne
    | cons a b => rfl
  refine wpAny_binaryOp_repeat_ref (T := "tuple") (U := "int") (by decide) ⟨_, ho, rfl⟩ (fun s' => typeIs_int s' 0 t) noFill_tuple_mul F.fills_int_mul F.slot_int_rmul repeat_tuple F.slot_int_index.lookup
    (call_meets F.slot_int_rmul (typeIs_int s 0 t) F.entry_int_rmul (F.args_int_rmul_2 _ _) (int_rmul_tuple 0 t l its.toArray n dd sl)
      ⟨ho, rfl, ⟨_, ho, rfl⟩, call_meets F.slot_tuple_mul ⟨_, ho, rfl⟩ F.entry_tuple_mul (F.args_tuple_mul_2 _ _) (tuple_mul0 l its.toArray n dd sl t hi) ⟨ho, ?_⟩⟩)
  refine ⟨.ref s.heap.objs.size, _, I.laid (t' := s.toks) (o := .tup []) (fun b ob q => Heap.get?_push_of_some _ q) (Nat.le_refl _) ?_, rfl, q _ (I.hok.fresh (Nat.le_refl _))⟩
  exact ⟨Nat.zero_le _, [], .nil, IsTup.new _ _⟩
theorem op_mulZ : OpR X (binaryOp .Mult) (rI IntMulOk fun i j => .int (i * j)) := opI fun _ _ _ _ _ _ _ hc q => mul_int q hc
theorem zo_mul : ZO X (binaryOp .Mult) oMul := ⟨oMul_mono, fun pins s σ H x y v u Q I rx ry ⟨dx, dy, M, r1, r2, rs, h⟩ => by
  unfold oMul at h
  split at h
  · cases r1; cases r2; exact op_mulZ pins s σ H _ _ v u Q I rx ry ⟨_, _, rfl, rfl, h.1, h.2.here rs (.int _)⟩
  · rename_i xs k
    cases r1 with | tup t1 q1 =>
    cases r2
    obtain ⟨hne, hz, h0, h1, h⟩ := h
    by_cases e0 : k = 0
    · subst e0
      cases rx
      obtain ⟨t, rfl⟩ := ry
      exact rep0 I t1 (fun e => hne (by subst e; cases q1; rfl)) fun p hp => new_tup rs .nil hp (by simpa using h)
    · by_cases e1 : k = 1
      · subst e1
        cases rx
        obtain ⟨t, rfl⟩ := ry
        refine rep1 I t1 (h.here rs ?_)
        have : (List.replicate (1 : Int).toNat xs).flatten = xs := by simp
        rw [this]
        exact .tup t1 q1
      · exact op_repT pins s σ H _ _ v u Q I rx ry ⟨_, k, _, rfl, rfl, t1, fun e => hne (by subst e; cases q1; rfl), by omega, h1, by rw [← q1.length]; exact hz, fun p hp => new_tup rs (replicate_flat q1 _) hp h⟩
  · obtain ⟨xs, ha, h1, h2, h3, h⟩ := h
    cases r1; cases r2
    obtain ⟨us, e1, q1⟩ := rs _ _ ha
    exact op_rep pins s σ H _ _ v u Q I rx ry ⟨_, _, _, rfl, rfl, e1, h1, h2, by rw [← q1.length]; exact h3, fun p hp => new_lst rs (replicate_flat q1 _) hp h⟩
  · exact False.elim h⟩
/-! ### comparisons -/
def scalEq : D → D → Option Bool
  | .int i, .int j => some (decide (i = j))
  | .str x, .str y => some (decide (x = y))
  | .bl a, .bl b => some (decide (a = b))
  | .non, .non => some true
  | .non, .int _ => some false
  | .int _, .non => some false
  | .non, .str _ => some false
  | .str _, .non => some false
  | .non, .bl _ => some false
  | .bl _, .non => some false
  | _, _ => none
def oEqC (f : Bool → Bool) : OF := fun x y M Q => match scalEq x y with
  | some b => Q (.bl (f b)) M
  | none => ∃ p q, Py M x p ∧ Py M y q ∧ min p.depth q.depth ≤ 60 ∧ Q (.bl (f (PyData.eqv p q))) M
abbrev oEq : OF := oEqC id
abbrev oNe : OF := oEqC not
theorem oEqC_mono {f : Bool → Bool} : MonoO (oEqC f) := by
  intro x y M Q Q' q h; unfold oEqC at h ⊢; split at h
  · exact q _ _ h
  · obtain ⟨p, p', a, b, c, d⟩ := h
    exact ⟨p, p', a, b, c, q _ _ d⟩
theorem scalEq_py {x y : D} {b : Bool} (h : scalEq x y = some b) : x.pure = true ∧ y.pure = true ∧ min x.py.depth y.py.depth = 0 ∧ PyData.eqv x.py y.py = b := by
  cases x <;> cases y <;> simp only [scalEq, Option.some.injEq, reduceCtorEq] at h <;> subst h <;> refine ⟨rfl, rfl, by simp [D.py, PyData.depth], ?_⟩ <;> simp only [D.py, PyData.eqv] <;>
    first | rfl | (rw [Bool.eq_iff_iff]; simp)
theorem oEqC_of {f : Bool → Bool} {x y : D} {M : Sto} {Q : KD} (h : oEqC f x y M Q) : ∃ p q, Py M x p ∧ Py M y q ∧ min p.depth q.depth ≤ 60 ∧ Q (.bl (f (PyData.eqv p q))) M := by
  unfold oEqC at h
  split at h
  · rename_i b e
    obtain ⟨h1, h2, h3, h4⟩ := scalEq_py e
    exact ⟨_, _, .of x h1, .of y h2, by omega, by rw [h4]; exact h⟩
  · exact h
theorem zo_eq (hu : X.A.units + 64 < cLine) : ZO X (compareOp .Eq) oEq := ⟨oEqC_mono, fun pins s σ H x y v u Q I rx ry ⟨dx, dy, M, r1, r2, rs, h⟩ => by
  obtain ⟨p, q, h1, h2, h3, h4⟩ := oEqC_of h
  obtain ⟨as, e1⟩ := h1.reads I rs r1 rx
  obtain ⟨bs, e2⟩ := h2.reads I rs r2 ry
  exact PySem.SeqAt.eq_plain e1 e2 h1.plain h2.plain (by omega) ⟨.bl _, H, I, rfl, h4.here rs (.bl _)⟩⟩
theorem zo_ne (hu : X.A.units + 64 < cLine) : ZO X (compareOp .NotEq) oNe := ⟨oEqC_mono, fun pins s σ H x y v u Q I rx ry ⟨dx, dy, M, r1, r2, rs, h⟩ => by
  obtain ⟨p, q, h1, h2, h3, h4⟩ := oEqC_of h
  obtain ⟨as, e1⟩ := h1.reads I rs r1 rx
  obtain ⟨bs, e2⟩ := h2.reads I rs r2 ry
  exact PySem.SeqAt.ne_plain e1 e2 h1.plain h2.plain (by omega) ⟨.bl _, H, I, rfl, h4.here rs (.bl _)⟩⟩
/-- order: f of (x < y) and (y < x) -/
def oOrd (g : Int → Int → Bool) (f : PyData → PyData → Bool) : OF := fun x y M Q => match x, y with
  | .int i, .int j => Q (.bl (g i j)) M
  | x, y => ∃ p q, Py M x p ∧ Py M y q ∧ PySem.W.alike p q = true ∧ p ≠ .none ∧ min p.depth q.depth ≤ 60 ∧ Q (.bl (f p q)) M
theorem oOrd_mono {g f} : MonoO (oOrd g f) := by
  intro x y M Q Q' q h; unfold oOrd at h ⊢; split at h
  · exact q _ _ h
  · obtain ⟨p, p', a, b, c, d, e, k⟩ := h
    exact ⟨p, p', a, b, c, d, e, q _ _ k⟩
theorem oOrd_of {g f} (e : ∀ i j : Int, f (.int i) (.int j) = g i j) {x y : D} {M : Sto} {Q : KD} (h : oOrd g f x y M Q) : ∃ p q, Py M x p ∧ Py M y q ∧ PySem.W.alike p q = true ∧ p ≠ .none ∧ min p.depth q.depth ≤ 60 ∧ Q (.bl (f p q)) M := by
  unfold oOrd at h
  split at h
  · rename_i i j
    exact ⟨_, _, .int i, .int j, rfl, PyData.noConfusion, by simp [PyData.depth], by rw [e]; exact h⟩
  · exact h
abbrev oLt : OF := oOrd (fun i j => decide (i < j)) fun p q => PySem.W.dataLt p q
abbrev oGt : OF := oOrd (fun i j => decide (j < i)) fun p q => PySem.W.dataLt q p
abbrev oLe : OF := oOrd (fun i j => decide (i ≤ j)) fun p q => !PySem.W.dataLt q p
abbrev oGe : OF := oOrd (fun i j => decide (j ≤ i)) fun p q => !PySem.W.dataLt p q
theorem not_dec_lt (i j : Int) : (!decide (j < i)) = decide (i ≤ j) := by
  rw [Bool.eq_iff_iff]; simp
theorem zo_lt (hu : X.A.units + 64 < cLine) : ZO X (compareOp .Lt) oLt := ⟨oOrd_mono, fun pins s σ H x y v u Q I rx ry ⟨dx, dy, M, r1, r2, rs, h⟩ => by
  obtain ⟨p, q, h1, h2, h3, hn, hd, h4⟩ := oOrd_of (fun i j => PySem.W.dataLt_int i j) h
  obtain ⟨as, e1⟩ := h1.reads I rs r1 rx
  obtain ⟨bs, e2⟩ := h2.reads I rs r2 ry
  exact PySem.W.lt_data e1 e2 h3 hn (by omega) ⟨.bl _, H, I, rfl, h4.here rs (.bl _)⟩⟩
theorem zo_gt (hu : X.A.units + 64 < cLine) : ZO X (compareOp .Gt) oGt := ⟨oOrd_mono, fun pins s σ H x y v u Q I rx ry ⟨dx, dy, M, r1, r2, rs, h⟩ => by
  obtain ⟨p, q, h1, h2, h3, hn, hd, h4⟩ := oOrd_of (fun i j => PySem.W.dataLt_int j i) h
  obtain ⟨as, e1⟩ := h1.reads I rs r1 rx
  obtain ⟨bs, e2⟩ := h2.reads I rs r2 ry
  exact PySem.W.gt_data e1 e2 h3 hn (by omega) ⟨.bl _, H, I, rfl, h4.here rs (.bl _)⟩⟩
theorem zo_le (hu : X.A.units + 64 < cLine) : ZO X (compareOp .LtE) oLe := ⟨oOrd_mono, fun pins s σ H x y v u Q I rx ry ⟨dx, dy, M, r1, r2, rs, h⟩ => by
  obtain ⟨p, q, h1, h2, h3, hn, hd, h4⟩ := oOrd_of (fun i j => by rw [PySem.W.dataLt_int]; exact not_dec_lt i j) h
  obtain ⟨as, e1⟩ := h1.reads I rs r1 rx
  obtain ⟨bs, e2⟩ := h2.reads I rs r2 ry
  exact PySem.W.le_data e1 e2 h3 hn (by omega) ⟨.bl _, H, I, rfl, h4.here rs (.bl _)⟩⟩
theorem zo_ge (hu : X.A.units + 64 < cLine) : ZO X (compareOp .GtE) oGe := ⟨oOrd_mono, fun pins s σ H x y v u Q I rx ry ⟨dx, dy, M, r1, r2, rs, h⟩ => by
  obtain ⟨p, q, h1, h2, h3, hn, hd, h4⟩ := oOrd_of (fun i j => by rw [PySem.W.dataLt_int]; exact not_dec_lt j i) h
  obtain ⟨as, e1⟩ := h1.reads I rs r1 rx
  obtain ⟨bs, e2⟩ := h2.reads I rs r2 ry
  exact PySem.W.ge_data e1 e2 h3 hn (by omega) ⟨.bl _, H, I, rfl, h4.here rs (.bl _)⟩⟩
/-- is None, is not None -/
def D.isN : D → Bool
  | .non => true
  | _ => false
def oIsN : OF := fun x y M Q => match y with
  | .non => Q (.bl x.isN) M
  | _ => False
def oNotN : OF := fun x y M Q => match y with
  | .non => Q (.bl (!x.isN)) M
  | _ => False
theorem isN_rd {K : PySem.W.Frag} {H : Hp} {d : D} {v : V} (r : RD K H d v) : decide (v = .non) = d.isN := by cases r <;> rfl
theorem zo_isN : ZO X (compareOp .Is) oIsN := ⟨fun x y M Q Q' q h => by cases y <;> first | exact q _ _ h | exact (h : False).elim, fun pins s σ H x y v u Q I rx ry ⟨dx, dy, M, r1, r2, rs, h⟩ => by
  cases dy <;> first | exact (h : False).elim | skip
  cases r2
  exact op_isN pins s σ H _ _ v u Q I rx ry ⟨rfl, by rw [isN_rd r1]; exact Cont.here rs (.bl _) h⟩⟩
theorem zo_notN : ZO X (compareOp .IsNot) oNotN := ⟨fun x y M Q Q' q h => by cases y <;> first | exact q _ _ h | exact (h : False).elim, fun pins s σ H x y v u Q I rx ry ⟨dx, dy, M, r1, r2, rs, h⟩ => by
  cases dy <;> first | exact (h : False).elim | skip
  cases r2
  exact op_notN pins s σ H _ _ v u Q I rx ry ⟨rfl, by rw [isN_rd r1]; exact Cont.here rs (.bl _) h⟩⟩
end
/-! ### dicts with int and text keys -/
section
variable {κ : Type} [DecidableEq κ] {α β : Type}
def lk (kvs : List (κ × α)) (k : κ) : Option α := (kvs.find? fun kv => decide (kv.1 = k)).map (·.2)
def pk (kvs : List (κ × α)) (k : κ) (v : α) : List (κ × α) :=
  if (kvs.any fun kv => decide (kv.1 = k)) = true then kvs.map fun kv => if kv.1 = k then (kv.1, v) else kv else kvs ++ [(k, v)]
def dk (kvs : List (κ × α)) (k : κ) : List (κ × α) := kvs.filter fun kv => decide (kv.1 ≠ k)
end
def keyD : Key → D
  | .inl i => .int i
  | .inr x => .str x
def D.key? : D → Option Key
  | .int i => some (.inl i)
  | .str x => some (.inr x)
  | _ => none
theorem key_rd {K : PySem.W.Frag} {H : Hp} {d : D} {v : V} {k : Key} (r : RD K H d v) (h : d.key? = some k) : v = kV k := by
  cases r <;> simp only [D.key?, Option.some.injEq, reduceCtorEq] at h <;> subst h <;> rfl
section
variable {K : PySem.W.Frag} {H : Hp} {κ : Type} [DecidableEq κ]
theorem RKV.lk : ∀ {kvs : List (κ × D)} {ks : List (κ × V)} (k : κ), RKV K H kvs ks → (Z.lk kvs k = none ∧ valV ks k = none) ∨ ∃ d v, Z.lk kvs k = some d ∧ valV ks k = some v ∧ RD K H d v
  | _, _, k, .nil => .inl ⟨rfl, rfl⟩
  | p :: kvs, q :: ks, k, .cons ⟨h1, h2⟩ t => by
    by_cases e : p.1 = k
    · refine .inr ⟨p.2, q.2, by simp [Z.lk, List.find?_cons, e], valV_pos (h1.symm.trans e), h2⟩
    · have e2 : ¬ q.1 = k := fun z => e (h1.trans z)
      rw [valV_neg e2]
      have : Z.lk (p :: kvs) k = Z.lk kvs k := by simp [Z.lk, List.find?_cons, e]
      rw [this]
      exact RKV.lk k t
theorem RKV.anyk : ∀ {kvs : List (κ × D)} {ks : List (κ × V)} (k : κ), RKV K H kvs ks → (kvs.any fun kv => decide (kv.1 = k)) = ks.any fun kv => decide (kv.1 = k)
  | _, _, k, .nil => rfl
  | p :: kvs, q :: ks, k, .cons ⟨h1, h2⟩ t => by rw [List.any_cons, List.any_cons, h1, RKV.anyk k t]
theorem RKV.repl (k : κ) {y : D} {u : V} (ry : RD K H y u) : ∀ {kvs : List (κ × D)} {ks : List (κ × V)}, RKV K H kvs ks → RKV K H (kvs.map fun kv => if kv.1 = k then (kv.1, y) else kv) (ks.map fun kv => if kv.1 = k then (kv.1, u) else kv)
  | _, _, .nil => .nil
  | p :: kvs, q :: ks, .cons ⟨h1, h2⟩ t => by
    refine .cons ?_ (RKV.repl k ry t)
    by_cases e : p.1 = k
    · have e2 : q.1 = k := h1.symm.trans e
      simp only [e, e2, if_true]
      exact ⟨trivial, ry⟩
    · have e2 : ¬ q.1 = k := fun z => e (h1.trans z)
      simp only [e, e2, if_false]
      exact ⟨h1, h2⟩
theorem RKV.snoc {k : κ} {y : D} {u : V} (ry : RD K H y u) : ∀ {kvs : List (κ × D)} {ks : List (κ × V)}, RKV K H kvs ks → RKV K H (kvs ++ [(k, y)]) (ks ++ [(k, u)])
  | _, _, .nil => .cons ⟨rfl, ry⟩ .nil
  | _, _, .cons h t => .cons h (RKV.snoc ry t)
theorem RKV.pk {kvs : List (κ × D)} {ks : List (κ × V)} (r : RKV K H kvs ks) (k : κ) {y : D} {u : V} (ry : RD K H y u) : RKV K H (Z.pk kvs k y) (putK ks k u) := by
  unfold Z.pk putK
  rw [r.anyk k]
  split
  · exact RKV.repl k ry r
  · exact RKV.snoc ry r
theorem RKV.dk (k : κ) : ∀ {kvs : List (κ × D)} {ks : List (κ × V)}, RKV K H kvs ks → RKV K H (Z.dk kvs k) (dropK ks k)
  | _, _, .nil => .nil
  | p :: kvs, q :: ks, .cons ⟨h1, h2⟩ t => by
    unfold Z.dk dropK
    by_cases e : p.1 = k
    · have e2 : q.1 = k := h1.symm.trans e
      simp only [List.filter_cons, e, e2, ne_eq, not_true_eq_false, decide_false, Bool.false_eq_true, if_false]
      exact RKV.dk k t
    · have e2 : ¬ q.1 = k := fun z => e (h1.trans z)
      simp only [List.filter_cons, e, e2, ne_eq, not_false_eq_true, decide_true, if_true]
      exact .cons ⟨h1, h2⟩ (RKV.dk k t)
theorem RKV.length {kvs : List (κ × D)} {ks : List (κ × V)} (r : RKV K H kvs ks) : kvs.length = ks.length := Paired.length r
end
end Z
set_option maxHeartbeats 4000000
namespace Z
open PySem PySem.Spec PyProof.Rows L2
/-! ### argument lists, displays -/
abbrev KA := List D → Sto → Prop
abbrev AF := DE → Sto → KA → Prop
def ContA (K : PySem.W.Frag) (M : Sto) (H : Hp) (Q : List V → Hp → Prop) : KA := fun ds M' => ∀ vs H', Ext K M M' H H' → RS K H' M' → RDs K H' ds vs → Q vs H'
def tza (K : PySem.W.Frag) (f : AF) : TA := fun σ H Q => ∃ δ M, RE K H σ δ ∧ RS K H M ∧ f δ M (ContA K M H Q)
def MonoA (f : AF) : Prop := ∀ δ M (Q Q' : KA), (∀ d M', Q d M' → Q' d M') → f δ M Q → f δ M Q'
structure ZA (X : Cx) (es : List Expr) (f : AF) : Prop where
  mono : MonoA f
  len : ∀ δ M Q, f δ M Q → f δ M fun ds M' => ds.length = es.length ∧ Q ds M'
  pa : PA X es (tza X.K f)
theorem ContA.mono {K : PySem.W.Frag} {M M1 M2 : Sto} {H H1 : Hp} {Q : List V → Hp → Prop} {d : List D} (x : Ext K M M1 H H1) (h : ContA K M H Q d M2) : ContA K M1 H1 Q d M2 := fun vs H' x' rs r => h vs H' (x.trans x') rs r
theorem tza_bind {K : PySem.W.Frag} {M : Sto} {H : Hp} {σ : L2.St} {δ : DE} {f : AF} (mo : MonoA f) (re : RE K H σ δ) (rs : RS K H M) {P : KA} {Q : List V → Hp → Prop} (hf : f δ M P)
    (k : ∀ ds M1 vs H1, P ds M1 → Ext K M M1 H H1 → RE K H1 σ δ → RS K H1 M1 → RDs K H1 ds vs → Q vs H1) : tza K f σ H Q :=
  ⟨δ, M, re, rs, mo _ _ _ _ (fun d M1 p vs H1 x r1 r2 => k d M1 vs H1 p x (x.re re) r1 r2) hf⟩
def aNil : AF := fun _ M Q => Q [] M
def aCons (fa : EF) (fr : AF) : AF := fun δ M Q => fa δ M fun d M1 => fr δ M1 fun ds M2 => Q (d :: ds) M2
section
variable {X : Cx} {a b c e : Expr} {es : List Expr} {fa fb fc fe : EF} {fs : AF} {pos : Pos}
theorem za_nil : ZA X [] aNil := ⟨fun _ _ _ _ q h => q _ _ h, fun _ _ _ h => ⟨rfl, h⟩, PA.weak pa_nil fun σ H Q ⟨δ, M, re, rs, h⟩ => h [] H (Ext.refl _ _ _) rs .nil⟩
theorem aCons_mono (ha : MonoE fa) (hr : MonoA fs) : MonoA (aCons fa fs) := fun δ M Q Q' q h => ha _ _ _ _ (fun _ _ h1 => hr _ _ _ _ (fun _ _ h2 => q _ _ h2) h1) h
theorem za_cons (ha : ZE X e fe) (hr : ZA X es fs) (hs : starEach (e :: es) X.env = (false, eval e X.env) :: starEach es X.env := by rfl) : ZA X (e :: es) (aCons fe fs) := by
  refine ⟨aCons_mono ha.mono hr.mono, fun δ M Q h => ?_, PA.weak (pa_cons ha.pe hr.pa hs) fun σ H Q ⟨δ, M, re, rs, h⟩ => ?_⟩
  · exact ha.mono _ _ _ _ (fun _ _ h1 => hr.mono _ _ _ _ (fun _ _ h2 => ⟨by rw [List.length_cons, List.length_cons, h2.1], h2.2⟩) (hr.len _ _ _ h1)) h
  · refine tz_bind ha.mono re rs h fun d M1 v H1 p x1 re1 rs1 r1 => ?_
    refine tza_bind hr.mono re1 rs1 p fun ds M2 vs H2 p2 x2 re2 rs2 r2 => ?_
    exact p2 _ H2 (x1.trans x2) rs2 (.cons (x2.rd r1) r2)
/-- (a, b, ..) -/
def eTup (f : AF) : EF := fun δ M Q => f δ M fun ds M1 => Q (.tup ds) M1
theorem eTup_mono (h : MonoA fs) : MonoE (eTup fs) := fun δ M Q Q' q g => h _ _ _ _ (fun _ _ h1 => q _ _ h1) g
theorem le1000 {n : Nat} (h : n ≤ 1000) : n ≤ sizeLine := Nat.le_of_lt (small1000 h)
theorem ze_tup {k} (h : ZA X es fs) (hn : es.length ≤ 1000 := by decide) : ZE X (.Tuple es k pos) (eTup fs) := by
  refine ⟨eTup_mono h.mono, PE.weak (pe_tup h.pa) fun σ H Q ⟨δ, M, re, rs, g⟩ => ?_⟩
  refine tza_bind h.mono re rs (h.len _ _ _ g) fun ds M1 vs H1 p x1 re1 rs1 r1 => ⟨by rw [← r1.length, p.1]; exact le1000 hn, fun t ht => ?_⟩
  exact p.2 _ _ (x1.trans (Ext.laid0 ht)) (rs1.laid0 ht) (.tup (.inl (.inl upd_same)) ((Ext.laid0 (K := X.K) (M := M1) ht).rds r1))
/-! lists that are new -/
/-- a list that nobody else has: its items -/
def tzf (K : PySem.W.Frag) (f : AF) : TE := fun σ H Q => ∃ δ M, RE K H σ δ ∧ RS K H M ∧ f δ M fun ds M' => ∀ a xs H', Ext K M M' H H' → RS K H' M' → H a = none → H' a = some (.lst xs) → M' a = none → RDs K H' ds xs → Q (.ref a) H'
structure ZL (X : Cx) (e : Expr) (f : AF) : Prop where
  mono : MonoA f
  pe : PE X e (tzf X.K f)
/-- a list or a tuple that is read: its items -/
def tzq (K : PySem.W.Frag) (f : AF) : TE := fun σ H Q => ∃ δ M, RE K H σ δ ∧ RS K H M ∧ f δ M fun ds M' => ∀ a xs H', Ext K M M' H H' → RS K H' M' → (SqL K H' a xs ∨ SqT K H' a xs) → RDs K H' ds xs → Q (.ref a) H'
structure ZQ (X : Cx) (e : Expr) (f : AF) : Prop where
  mono : MonoA f
  pe : PE X e (tzq X.K f)
theorem tzf_bind {K : PySem.W.Frag} {M : Sto} {H : Hp} {σ : L2.St} {δ : DE} {f : AF} (mo : MonoA f) (re : RE K H σ δ) (rs : RS K H M) {P : KA} {Q : VK} (hf : f δ M P)
    (k : ∀ ds M1 a xs H1, P ds M1 → Ext K M M1 H H1 → RE K H1 σ δ → RS K H1 M1 → H a = none → H1 a = some (.lst xs) → M1 a = none → RDs K H1 ds xs → Q (.ref a) H1) : tzf K f σ H Q :=
  ⟨δ, M, re, rs, mo _ _ _ _ (fun d M1 p a xs H1 x r1 e0 e n r2 => k d M1 a xs H1 p x (x.re re) r1 e0 e n r2) hf⟩
theorem tzq_bind {K : PySem.W.Frag} {M : Sto} {H : Hp} {σ : L2.St} {δ : DE} {f : AF} (mo : MonoA f) (re : RE K H σ δ) (rs : RS K H M) {P : KA} {Q : VK} (hf : f δ M P)
    (k : ∀ ds M1 a xs H1, P ds M1 → Ext K M M1 H H1 → RE K H1 σ δ → RS K H1 M1 → (SqL K H1 a xs ∨ SqT K H1 a xs) → RDs K H1 ds xs → Q (.ref a) H1) : tzq K f σ H Q :=
  ⟨δ, M, re, rs, mo _ _ _ _ (fun d M1 p a xs H1 x r1 e r2 => k d M1 a xs H1 p x (x.re re) r1 e r2) hf⟩
/-- told by the store from now on -/
def eNew (f : AF) : EF := fun δ M Q => f δ M fun ds M1 => ∀ p, M1 p = none → Q (.ref p) (put M1 p (.lst ds))
theorem eNew_mono (h : MonoA fs) : MonoE (eNew fs) := fun δ M Q Q' q g => h _ _ _ _ (fun _ _ h1 p n => q _ _ (h1 p n)) g
/-- an untold list is told -/
theorem tell {K : PySem.W.Frag} {M M1 : Sto} {H H1 : Hp} {a : Addr} {xs : List V} {ds : List D} (x : Ext K M M1 H H1) (rs : RS K H1 M1) (hn : H a = none) (e : H1 a = some (.lst xs)) (r : RDs K H1 ds xs) :
    Ext K M (put M1 a (.lst ds)) H H1 ∧ RS K H1 (put M1 a (.lst ds)) := by
  refine ⟨⟨x.tup, x.fz, fun c o h q => ?_, x.old⟩, fun c o h => ?_⟩
  · obtain ⟨h1, h2⟩ := x.frm c o h q
    exact ⟨h1, by rw [put_ne (ne_of_none h hn)]; exact h2⟩
  · by_cases q : c = a
    · subst q; rw [put_same] at h; cases h; exact ⟨xs, e, r⟩
    · rw [put_ne q] at h; exact rs c o h
theorem ze_new (h : ZL X e fs) : ZE X e (eNew fs) := by
  refine ⟨eNew_mono h.mono, PE.weak h.pe fun σ H Q ⟨δ, M, re, rs, g⟩ => ?_⟩
  refine tzf_bind h.mono re rs g fun ds M1 a xs H1 p x1 re1 rs1 hn e1 n1 r1 => ?_
  obtain ⟨x2, rs2⟩ := tell x1 rs1 hn e1 r1
  exact p a n1 _ H1 x2 rs2 (.ref a)
theorem zq_new (h : ZL X e fs) : ZQ X e fs := by
  refine ⟨h.mono, PE.weak h.pe fun σ H Q ⟨δ, M, re, rs, g⟩ => ?_⟩
  exact tzf_bind h.mono re rs g fun ds M1 a xs H1 p x1 re1 rs1 hn e1 n1 r1 => p a xs H1 x1 rs1 (.inl (SqL.of e1)) r1
/-- the items of what a value is -/
def qOf (fe : EF) : AF := fun δ M Q => fe δ M fun d M1 => match d with
  | .tup ys => Q ys M1
  | .scr ys => Q ys M1
  | .ref a => ∃ ys, M1 a = some (.lst ys) ∧ Q ys M1
  | _ => False
theorem qOf_mono (h : MonoE fe) : MonoA (qOf fe) := fun δ M Q Q' q g => h _ _ _ _ (fun d _ h1 => by
  cases d <;> first
    | exact (h1 : False).elim
    | exact q _ _ h1
    | (obtain ⟨ys, e, h1⟩ := h1; exact ⟨ys, e, q _ _ h1⟩)) g
theorem zq_of (h : ZE X e fe) : ZQ X e (qOf fe) := by
  refine ⟨qOf_mono h.mono, PE.weak h.pe fun σ H Q ⟨δ, M, re, rs, g⟩ => ?_⟩
  refine tz_bind h.mono re rs g fun d M1 v H1 p x1 re1 rs1 r1 => ?_
  cases d <;> first | exact (p : False).elim | skip
  · cases r1
    obtain ⟨ys, e1, p⟩ := p
    obtain ⟨xs, q, z⟩ := rs1 _ _ e1
    exact p _ _ H1 x1 rs1 (.inl (SqL.of q)) z
  · cases r1 with | tup t1 q1 => exact p _ _ H1 x1 rs1 (.inr t1) q1
  · cases r1 with | scr t1 q1 => exact p _ _ H1 x1 rs1 (.inl t1.sq) q1
/-- [a, b, ..] -/
theorem zl_lst (h : ZA X es fs) (hn : es.length ≤ 1000 := by decide) : ZL X (.List es pos) fs := by
  refine ⟨h.mono, PE.weak (pe_lst h.pa) fun σ H Q ⟨δ, M, re, rs, g⟩ => ?_⟩
  refine tza_bind h.mono re rs (h.len _ _ _ g) fun ds M1 vs H1 p x1 re1 rs1 r1 => ⟨by rw [← r1.length, p.1]; exact le1000 hn, fun t ht => ?_⟩
  exact p.2 t _ _ (x1.trans (Ext.laid0 ht)) (rs1.laid0 ht) (x1.old _ ht) upd_same (rs1.free ht) ((Ext.laid0 (K := X.K) (M := M1) ht).rds r1)
/-! ### subscripts -/
def oIx : OF := fun x y M Q => match x with
  | .tup ds => match y with | .int i => ∃ d, atI ds i = some d ∧ Q d M | _ => False
  | .scr ds => match y with | .int i => ∃ d, atI ds i = some d ∧ Q d M | _ => False
  | .str z => match y with | .int i => z.length ≤ sizeLine ∧ ∃ c, atI z.cps.toList i = some c ∧ Q (.str ⟨#[c]⟩) M | _ => False
  | .ref a => (∃ ds i d, y = .int i ∧ M a = some (.lst ds) ∧ atI ds i = some d ∧ Q d M) ∨ (∃ kvs k d, y.key? = some k ∧ M a = some (.dk kvs) ∧ lk kvs k = some d ∧ Q d M)
  | _ => False
theorem oIx_mono : MonoO oIx := by
  intro x y M Q Q' q h
  cases x with
  | tup ds => cases y <;> first | exact (h : False).elim | exact ⟨h.choose, h.choose_spec.1, q _ _ h.choose_spec.2⟩
  | scr ds => cases y <;> first | exact (h : False).elim | exact ⟨h.choose, h.choose_spec.1, q _ _ h.choose_spec.2⟩
  | str z => cases y <;> first | exact (h : False).elim | exact ⟨h.1, h.2.choose, h.2.choose_spec.1, q _ _ h.2.choose_spec.2⟩
  | ref a =>
    rcases h with ⟨ds, i, d, h1, h2, h3, h4⟩ | ⟨ds, i, d, h1, h2, h3, h4⟩
    · exact .inl ⟨ds, i, d, h1, h2, h3, q _ _ h4⟩
    · exact .inr ⟨ds, i, d, h1, h2, h3, q _ _ h4⟩
  | _ => exact (h : False).elim
theorem atI_rd {K : PySem.W.Frag} {H : Hp} {ds : List D} {vs : List V} {i : Int} {d : D} (r : RDs K H ds vs) (h : atI ds i = some d) : ∃ v, atI vs i = some v ∧ RD K H d v := by
  unfold atI at h ⊢
  rw [r.length] at h
  cases e : ixN vs.length i with
  | none => rw [e] at h; cases h
  | some j => rw [e] at h; exact r.get h
theorem ix_dict (hu : X.A.units + 1 < cLine) : IxR X (fun x y H Q => ∃ a v, x = .ref a ∧ DGet H a y (some v) ∧ Q v H) := by
  intro value slice pins s σ H x y v u Q I rx ry h hs
  obtain ⟨a, w, rfl, g, q⟩ := h
  cases rx
  exact tail_any (dict_typeIs I g) PySem.F.slot_dict_getitem.lookup (d_getItem hu I g ry fun w' s3 I3 rw' => ⟨w, H, I3, rw', q⟩) hs
theorem zix (hu : X.A.units + 1 < cLine) : IxR X (rz X.K oIx) := by
  intro value slice pins s σ H x y v u Q I rx ry ⟨dx, dy, M, r1, r2, rs, h⟩ hs
  cases dx with
  | tup ds =>
    cases r1 with | tup t1 q1 =>
    cases dy <;> first | exact (h : False).elim | skip
    cases r2
    obtain ⟨d, h1, h2⟩ := h
    obtain ⟨w, h3, h4⟩ := atI_rd q1 h1
    exact ix_tup value slice pins s σ H _ _ v u Q I rx ry ⟨_, _, _, _, rfl, rfl, t1, h3, h2.here rs h4⟩ hs
  | scr ds =>
    cases r1 with | scr t1 q1 =>
    cases dy <;> first | exact (h : False).elim | skip
    cases r2
    obtain ⟨d, h1, h2⟩ := h
    obtain ⟨w, h3, h4⟩ := atI_rd q1 h1
    exact ix_list value slice pins s σ H _ _ v u Q I rx ry ⟨_, _, _, _, rfl, rfl, t1.sq, h3, h2.here rs h4⟩ hs
  | str z =>
    cases r1
    cases dy <;> first | exact (h : False).elim | skip
    cases r2
    obtain ⟨hz, c, h1, h2⟩ := h
    exact ix_str value slice pins s σ H _ _ v u Q I rx ry ⟨_, _, _, rfl, rfl, hz, h1, h2.here rs (.str _)⟩ hs
  | ref a =>
    cases r1
    rcases h with ⟨ds, i, d, rfl, h2, h3, h4⟩ | ⟨kvs, k, d, h1, h2, h3, h4⟩
    · cases r2
      obtain ⟨xs, e, q1⟩ := rs _ _ h2
      obtain ⟨w, h5, h6⟩ := atI_rd q1 h3
      exact ix_list value slice pins s σ H _ _ v u Q I rx ry ⟨_, _, _, _, rfl, rfl, SqL.of e, h5, h4.here rs h6⟩ hs
    · obtain ⟨ks, e, q1⟩ := rs _ _ h2
      obtain rfl := key_rd r2 h1
      rcases q1.lk k with ⟨z, _⟩ | ⟨d', w, z1, z2, z3⟩
      · rw [z] at h3; cases h3
      · rw [z1] at h3; cases h3
        exact ix_dict hu value slice pins s σ H _ _ v u Q I rx ry ⟨a, w, rfl, by rw [← z2]; exact DGet.k e, h4.here rs z3⟩ hs
  | _ => exact (h : False).elim
theorem ze_ix (hu : X.A.units + 1 < cLine) (ha : ZE X a fa) (hb : ZE X b fb) (hs : PlainIx b := by intro _ _; rfl) : ZE X (.Subscript a b pos) (eOp oIx fa fb) :=
  ⟨eOp_mono oIx_mono ha.mono hb.mono, PE.weak (pe_ix (zix hu) ha.pe hb.pe hs) (tz_op oIx_mono ha hb)⟩
/-! in -/
def oInC (f : Bool → Bool) : OF := fun x y M Q => match y with
  | .tup ds => ∃ p ps, Py M x p ∧ Pys M ds ps ∧ min (PyData.depthAll ps) p.depth ≤ 60 ∧ Q (.bl (f (ps.any fun z => PyData.eqv z p))) M
  | .scr ds => ∃ p ps, Py M x p ∧ Pys M ds ps ∧ min (PyData.depthAll ps) p.depth ≤ 60 ∧ Q (.bl (f (ps.any fun z => PyData.eqv z p))) M
  | .ref a => (∃ ds p ps, M a = some (.lst ds) ∧ Py M x p ∧ Pys M ds ps ∧ min (PyData.depthAll ps) p.depth ≤ 60 ∧ Q (.bl (f (ps.any fun z => PyData.eqv z p))) M) ∨
      (∃ kvs k, x.key? = some k ∧ M a = some (.dk kvs) ∧ Q (.bl (f (lk kvs k).isSome)) M)
  | _ => False
abbrev oIn : OF := oInC id
abbrev oNotIn : OF := oInC not
theorem oInC_mono {f : Bool → Bool} : MonoO (oInC f) := by
  intro x y M Q Q' q h
  cases y with
  | tup ds => obtain ⟨p, ps, h1, h2, h3, h4⟩ := h; exact ⟨p, ps, h1, h2, h3, q _ _ h4⟩
  | scr ds => obtain ⟨p, ps, h1, h2, h3, h4⟩ := h; exact ⟨p, ps, h1, h2, h3, q _ _ h4⟩
  | ref a =>
    rcases h with ⟨ds, p, ps, h0, h1, h2, h3, h4⟩ | ⟨ds, k, h1, h2, h4⟩
    · exact .inl ⟨ds, p, ps, h0, h1, h2, h3, q _ _ h4⟩
    · exact .inr ⟨ds, k, h1, h2, q _ _ h4⟩
  | _ => exact (h : False).elim
theorem zo_inC {f : Bool → Bool} {op : CmpOp} (hu : X.A.units + 70 < cLine)
    (hl : ∀ {s : Shared} {c x : Value} {xs : List PyData} {d : PyData} {as bs : List Addr} {Q : Value → Shared → Prop}, Reads s.heap c (.list xs) as → Reads s.heap x d bs → PyData.plainAll xs = true → d.plain = true →
      X.A.units + 1 + min (PyData.depthAll xs) d.depth < cLine → Q (.bool (f (xs.any fun y => PyData.eqv y d))) s → wpAny (model X.prog X.w) X.A (compareOp op x c) Q X.xe s)
    (ht : ∀ {s : Shared} {c x : Value} {xs : List PyData} {d : PyData} {as bs : List Addr} {Q : Value → Shared → Prop}, Reads s.heap c (.tuple xs) as → Reads s.heap x d bs → PyData.plainAll xs = true → d.plain = true →
      X.A.units + 1 + min (PyData.depthAll xs) d.depth < cLine → Q (.bool (f (xs.any fun y => PyData.eqv y d))) s → wpAny (model X.prog X.w) X.A (compareOp op x c) Q X.xe s)
    (hd : ∀ {pins : List (Addr × Obj)} {s : Shared} {σ : L2.St} {H : Hp} {a : Addr} {y : V} {o : Option V} {u : Value} {Q : Value → Shared → Prop}, Inv X pins σ H s → DGet H a y o → RelV y u → (∀ s', Inv X pins σ H s' → Q (.bool (f o.isSome)) s') → wpAny (model X.prog X.w) X.A (compareOp op u (.ref a)) Q X.xe s) :
    ZO X (compareOp op) (oInC f) := ⟨oInC_mono, fun pins s σ H x y v u Q I rx ry ⟨dx, dy, M, r1, r2, rs, h⟩ => by
  cases dy with
  | tup ds =>
    obtain ⟨p, ps, h1, h2, h3, h4⟩ := h
    obtain ⟨as, e1⟩ := h1.reads I rs r1 rx
    obtain ⟨bs, e2⟩ := (Py.tup h2).reads I rs r2 ry
    exact ht e2 e1 h2.plain h1.plain (by omega) ⟨.bl _, H, I, rfl, h4.here rs (.bl _)⟩
  | scr ds =>
    obtain ⟨p, ps, h1, h2, h3, h4⟩ := h
    obtain ⟨as, e1⟩ := h1.reads I rs r1 rx
    obtain ⟨bs, e2⟩ := (Py.scr h2).reads I rs r2 ry
    exact hl e2 e1 h2.plain h1.plain (by omega) ⟨.bl _, H, I, rfl, h4.here rs (.bl _)⟩
  | ref a =>
    rcases h with ⟨ds, p, ps, h0, h1, h2, h3, h4⟩ | ⟨kvs, k, h1, h2, h4⟩
    · obtain ⟨as, e1⟩ := h1.reads I rs r1 rx
      obtain ⟨bs, e2⟩ := (Py.lst h0 h2).reads I rs r2 ry
      exact hl e2 e1 h2.plain h1.plain (by omega) ⟨.bl _, H, I, rfl, h4.here rs (.bl _)⟩
    · cases r2
      cases ry
      obtain ⟨ks, e, q1⟩ := rs _ _ h2
      obtain rfl := key_rd r1 h1
      refine hd I (DGet.k e) rx fun s' I' => ⟨.bl _, H, I', rfl, ?_⟩
      have : (valV ks k).isSome = (lk kvs k).isSome := by
        rcases q1.lk k with ⟨z, z'⟩ | ⟨d', w, z1, z2, z3⟩
        · rw [z, z']; rfl
        · rw [z1, z2]; rfl
      rw [this]
      exact h4.here rs (.bl _)
  | _ => exact (h : False).elim⟩
theorem zo_in (hu : X.A.units + 70 < cLine) : ZO X (compareOp .In) oIn :=
  zo_inC hu (fun a b c d e q => PySem.SeqAt.in_list_data a b c d e q) (fun a b c d e q => PySem.SeqAt.in_tuple_data a b c d e q) fun I g r q => d_in (by omega) I g r q
theorem zo_notIn (hu : X.A.units + 70 < cLine) : ZO X (compareOp .NotIn) oNotIn :=
  zo_inC hu (fun a b c d e q => PySem.SeqAt.notIn_list_data a b c d e q) (fun a b c d e q => PySem.SeqAt.notIn_tuple_data a b c d e q) fun I g r q => d_notIn (by omega) I g r q
end
end Z
set_option maxHeartbeats 4000000
namespace Z
open PySem PySem.Spec PyProof.Rows L2
/-! ### statements -/
structure ZEnds where
  nx : DE → Sto → Prop
  rt : KD
  bk : DE → Sto → Prop := fun _ _ => False
  ct : DE → Sto → Prop := fun _ _ => False
structure ZEnds.le (A B : ZEnds) : Prop where
  nx : ∀ δ M, A.nx δ M → B.nx δ M
  rt : ∀ d M, A.rt d M → B.rt d M
  bk : ∀ δ M, A.bk δ M → B.bk δ M
  ct : ∀ δ M, A.ct δ M → B.ct δ M
theorem ZEnds.le.refl (A : ZEnds) : A.le A := ⟨fun _ _ h => h, fun _ _ h => h, fun _ _ h => h, fun _ _ h => h⟩
abbrev SF := ZEnds → DE → Sto → Prop
def ContN (K : PySem.W.Frag) (M : Sto) (H : Hp) (Q : L2.St → Hp → Prop) : DE → Sto → Prop := fun δ' M' => ∀ σ' H', Ext K M M' H H' → RE K H' σ' δ' → RS K H' M' → Q σ' H'
def EndsOf (K : PySem.W.Frag) (M : Sto) (H : Hp) (D : Ends) : ZEnds := { nx := ContN K M H D.nx, rt := Cont K M H D.rt, bk := ContN K M H D.bk, ct := ContN K M H D.ct }
def tzs (K : PySem.W.Frag) (f : SF) : TS := fun D σ H => ∃ δ M, RE K H σ δ ∧ RS K H M ∧ f (EndsOf K M H D) δ M
def MonoS (f : SF) : Prop := ∀ A B : ZEnds, A.le B → ∀ δ M, f A δ M → f B δ M
structure ZS (X : Cx) (s : Stmt) (f : SF) : Prop where
  mono : MonoS f
  ps : PS X s (tzs X.K f)
structure ZSs (X : Cx) (s : List Stmt) (f : SF) : Prop where
  mono : MonoS f
  pss : PSs X s (tzs X.K f)
theorem ContN.mono {K : PySem.W.Frag} {M M1 M2 : Sto} {H H1 : Hp} {Q : L2.St → Hp → Prop} {δ : DE} (x : Ext K M M1 H H1) (h : ContN K M H Q δ M2) : ContN K M1 H1 Q δ M2 := fun σ' H' x' re rs => h σ' H' (x.trans x') re rs
theorem ContN.here {K : PySem.W.Frag} {M : Sto} {H : Hp} {Q : L2.St → Hp → Prop} {δ : DE} {σ : L2.St} (re : RE K H σ δ) (rs : RS K H M) (h : ContN K M H Q δ M) : Q σ H := h σ H (Ext.refl _ _ _) re rs
theorem EndsOf.le {K : PySem.W.Frag} {M M1 : Sto} {H H1 : Hp} {D : Ends} (x : Ext K M M1 H H1) : (EndsOf K M H D).le (EndsOf K M1 H1 D) := ⟨fun _ _ h => h.mono x, fun _ _ h => Cont.mono x h, fun _ _ h => h.mono x, fun _ _ h => h.mono x⟩
def sNext : SF := fun E δ M => E.nx δ M
def sSeq (f g : SF) : SF := fun E δ M => f ⟨g E, E.rt, E.bk, E.ct⟩ δ M
section
variable {X : Cx} {a b c e : Expr} {st : Stmt} {rest : List Stmt} {f g : SF} {fa fb fc fe : EF} {ta : TF} {fs : AF} {pos pos' : Pos}
theorem sNext_mono : MonoS sNext := fun _ _ l _ _ h => l.nx _ _ h
theorem zss_nil : ZSs X [] sNext := ⟨sNext_mono, PSs.weak pss_nil fun D σ H ⟨δ, M, re, rs, h⟩ => h.here re rs⟩
theorem sSeq_mono (hf : MonoS f) (hg : MonoS g) : MonoS (sSeq f g) := fun A B l δ M h => hf ⟨g A, A.rt, A.bk, A.ct⟩ ⟨g B, B.rt, B.bk, B.ct⟩ ⟨fun _ _ h => hg A B l _ _ h, l.rt, l.bk, l.ct⟩ δ M h
theorem zss_cons (h1 : ZS X st f) (h2 : ZSs X rest g) : ZSs X (st :: rest) (sSeq f g) := by
  refine ⟨sSeq_mono h1.mono h2.mono, PSs.weak (pss_cons h1.ps h2.pss) fun D σ H ⟨δ, M, re, rs, h⟩ => ?_⟩
  refine ⟨δ, M, re, rs, h1.mono ⟨g (EndsOf X.K M H D), (EndsOf X.K M H D).rt, (EndsOf X.K M H D).bk, (EndsOf X.K M H D).ct⟩ (EndsOf X.K M H ⟨tzs X.K g D, D.rt, D.bk, D.ct⟩) ⟨fun δ1 M1 h σ1 H1 x re1 rs1 => ?_, fun _ _ h => h, fun _ _ h => h, fun _ _ h => h⟩ _ _ h⟩
  exact ⟨δ1, M1, re1, rs1, h2.mono _ _ (EndsOf.le x) _ _ h⟩
theorem zss_one (h1 : ZS X st f) : ZSs X [st] f := ⟨h1.mono, pss_one h1.ps⟩
def sBreak : SF := fun E δ M => E.bk δ M
def sCont : SF := fun E δ M => E.ct δ M
theorem zs_pass : ZS X (.Pass pos) sNext := ⟨sNext_mono, PS.weak ps_pass fun D σ H ⟨δ, M, re, rs, h⟩ => h.here re rs⟩
theorem zs_break : ZS X (.Break pos) sBreak := ⟨fun _ _ l _ _ h => l.bk _ _ h, PS.weak ps_break fun D σ H ⟨δ, M, re, rs, h⟩ => h.here re rs⟩
theorem zs_continue : ZS X (.Continue pos) sCont := ⟨fun _ _ l _ _ h => l.ct _ _ h, PS.weak ps_continue fun D σ H ⟨δ, M, re, rs, h⟩ => h.here re rs⟩
def sRet (fe : EF) : SF := fun E δ M => fe δ M E.rt
theorem sRet_mono (h : MonoE fe) : MonoS (sRet fe) := fun _ _ l _ _ g => h _ _ _ _ (fun _ _ q => l.rt _ _ q) g
theorem zs_ret (h : ZE X e fe) : ZS X (.Return (some e) pos) (sRet fe) := ⟨sRet_mono h.mono, PS.weak (ps_ret h.pe) fun D σ H ⟨δ, M, re, rs, g⟩ => ⟨δ, M, re, rs, g⟩⟩
def sRetN : SF := fun E _ M => E.rt .non M
theorem zs_retN : ZS X (.Return none pos) sRetN := ⟨fun _ _ l _ _ h => l.rt _ _ h, PS.weak ps_retN fun D σ H ⟨δ, M, re, rs, h⟩ => Cont.here rs .non h⟩
def sDrop (fe : EF) : SF := fun E δ M => fe δ M fun _ M1 => E.nx δ M1
theorem sDrop_mono (h : MonoE fe) : MonoS (sDrop fe) := fun _ _ l _ _ g => h _ _ _ _ (fun _ _ q => l.nx _ _ q) g
theorem zs_expr (h : ZE X e fe) (hs : swapsWith e none pos.line X.env = pure false := by rfl) : ZS X (.Expr e pos) (sDrop fe) := by
  refine ⟨sDrop_mono h.mono, PS.weak (ps_expr h.pe hs) fun D σ H ⟨δ, M, re, rs, g⟩ => ?_⟩
  exact tz_bind h.mono re rs g fun d M1 v H1 p x1 re1 rs1 r1 => p σ H1 x1 re1 rs1
def sIf (t : TF) (f g : SF) : SF := fun E δ M => t δ M fun b M1 => zif b (f E δ M1) (g E δ M1)
theorem sIf_mono (h : MonoT ta) (hf : MonoS f) (hg : MonoS g) : MonoS (sIf ta f g) := fun A B l _ _ q => h _ _ _ _ (fun _ _ p => p.mono (hf A B l _ _) (hg A B l _ _)) q
theorem zs_if {sa sb : List Stmt} (hc : ZT X c ta) (ha : ZSs X sa f) (hb : ZSs X sb g) : ZS X (.If c sa sb pos) (sIf ta f g) := by
  refine ⟨sIf_mono hc.mono ha.mono hb.mono, PS.weak (ps_if hc.pt ha.pss hb.pss) fun D σ H ⟨δ, M, re, rs, h⟩ => ?_⟩
  refine tzt_bind hc.mono re rs h fun d M1 H1 p x1 re1 rs1 => zif.ite (p.mono (fun p => ?_) fun p => ?_)
  · exact ⟨δ, M1, re1, rs1, ha.mono _ _ (EndsOf.le x1) _ _ p⟩
  · exact ⟨δ, M1, re1, rs1, hb.mono _ _ (EndsOf.le x1) _ _ p⟩
/-! targets -/
abbrev GF := D → DE → Sto → (DE → Sto → Prop) → Prop
/-- σ' differs from σ at the slots vs alone -/
def Diff (vs : List Nat) (σ σ' : L2.St) : Prop := σ'.length = σ.length ∧ ∀ i : Nat, i ∉ vs → σ'[i]? = σ[i]?
theorem Diff.refl (vs : List Nat) (σ : L2.St) : Diff vs σ σ := ⟨rfl, fun _ _ => rfl⟩
theorem Diff.trans {vs : List Nat} {a b c : L2.St} (h : Diff vs a b) (k : Diff vs b c) : Diff vs a c := ⟨k.1.trans h.1, fun i hi => (k.2 i hi).trans (h.2 i hi)⟩
theorem Diff.mono {vs ws : List Nat} {a b : L2.St} (h : Diff vs a b) (s : ∀ i ∈ vs, i ∈ ws) : Diff ws a b := ⟨h.1, fun i hi => h.2 i fun z => hi (s i z)⟩
def tzg (K : PySem.W.Frag) (vs : List Nat) (g : GF) : TG := fun v σ H Q => ∃ d δ M, RD K H d v ∧ RE K H σ δ ∧ RS K H M ∧ g d δ M (fun δ' M' => ∀ σ' H', Diff vs σ σ' → Ext K M M' H H' → RE K H' σ' δ' → RS K H' M' → Q σ' H')
def MonoG (g : GF) : Prop := ∀ d δ M (Q Q' : DE → Sto → Prop), (∀ δ M, Q δ M → Q' δ M) → g d δ M Q → g d δ M Q'
structure ZG (X : Cx) (tg : Expr) (vs : List Nat) (g : GF) : Prop where
  mono : MonoG g
  pg : PG X tg (tzg X.K vs g)
theorem PG.weak {X : Cx} {e : Expr} {t t' : TG} (h : PG X e t) (w : ∀ v σ H Q, t' v σ H Q → t v σ H Q) : PG X e t' := ⟨fun pins s σ H v u Q I r q => h.run pins s σ H v u Q I r (w _ _ _ _ q)⟩
def gN (i : Nat) : GF := fun d δ M Q => Q (δ.set i (some d)) M
theorem gN_mono {i : Nat} : MonoG (gN i) := fun _ _ _ _ _ q h => q _ _ h
theorem diff_set {i : Nat} {σ : L2.St} {v : Option V} : Diff [i] σ (σ.set i v) := ⟨by simp, fun j hj => by rw [List.getElem?_set_ne (fun e => hj (by simp [e]))]⟩
theorem zg_name {i : Nat} {x : Str} (hN : X.N.Nodup) (hi : X.N[i]? = some x) (hx : Loc X.env.scope x) (hf : X.fn x = true ∨ X.env.scope.names.lookup x = some .local := by first | exact .inl rfl | exact .inr rfl | assumption) : ZG X (.Name x pos) [i] (gN i) :=
  ⟨gN_mono, PG.weak (pg_name hN hi hx hf) fun v σ H Q ⟨d, δ, M, r, re, rs, h⟩ => h _ H diff_set (Ext.refl _ _ _) (re.set i r) rs⟩
/-- several targets -/
abbrev GFs := List D → DE → Sto → (DE → Sto → Prop) → Prop
def tzgs (K : PySem.W.Frag) (vs : List Nat) (g : GFs) : TGs := fun xs σ H Q => ∃ ds δ M, RDs K H ds xs ∧ RE K H σ δ ∧ RS K H M ∧ g ds δ M (fun δ' M' => ∀ σ' H', Diff vs σ σ' → Ext K M M' H H' → RE K H' σ' δ' → RS K H' M' → Q σ' H')
def MonoGs (g : GFs) : Prop := ∀ d δ M (Q Q' : DE → Sto → Prop), (∀ δ M, Q δ M → Q' δ M) → g d δ M Q → g d δ M Q'
structure ZGs (X : Cx) (tg : List Expr) (vs : List Nat) (g : GFs) : Prop where
  mono : MonoGs g
  pgs : PGs X tg (tzgs X.K vs g)
theorem PGs.weak {X : Cx} {e : List Expr} {t t' : TGs} (h : PGs X e t) (w : ∀ v σ H Q, t' v σ H Q → t v σ H Q) : PGs X e t' := ⟨fun pins s σ H v u Q I r q => h.run pins s σ H v u Q I r (w _ _ _ _ q)⟩
def gsNil : GFs := fun ds δ M Q => match ds with | [] => Q δ M | _ :: _ => False
def gsCons (g : GF) (gs : GFs) : GFs := fun ds δ M Q => match ds with | [] => False | d :: r => g d δ M fun δ1 M1 => gs r δ1 M1 Q
theorem zgs_nil : ZGs X [] [] gsNil := by
  refine ⟨fun ds δ M Q Q' q h => ?_, PGs.weak pgs_nil fun xs σ H Q ⟨ds, δ, M, r, re, rs, h⟩ => ?_⟩
  · cases ds with
    | nil => exact q _ _ h
    | cons _ _ => exact (h : False).elim
  · cases r with
    | nil => exact ⟨rfl, h σ H (Diff.refl _ _) (Ext.refl _ _ _) re rs⟩
    | cons _ _ => exact (h : False).elim
theorem zgs_cons {es : List Expr} {vs ws : List Nat} {g : GF} {gs : GFs} (h1 : ZG X e vs g) (h2 : ZGs X es ws gs) (hs : (assignEach (e :: es) X.env).map (·.2) = assign e X.env :: (assignEach es X.env).map (·.2) := by rfl) : ZGs X (e :: es) (vs ++ ws) (gsCons g gs) := by
  refine ⟨fun ds δ M Q Q' q h => ?_, PGs.weak (pgs_cons h1.pg h2.pgs hs) fun xs σ H Q ⟨ds, δ, M, r, re, rs, h⟩ => ?_⟩
  · cases ds with
    | nil => exact (h : False).elim
    | cons d r => exact h1.mono _ _ _ _ _ (fun _ _ h => h2.mono _ _ _ _ _ q h) h
  · cases r with
    | nil => exact (h : False).elim
    | @cons d v ds vs' r rr =>
      refine ⟨v, vs', rfl, d, δ, M, r, re, rs, h1.mono _ _ _ _ _ (fun δ1 M1 h σ1 H1 df x re1 rs1 => ?_) h⟩
      refine ⟨ds, δ1, M1, x.rds rr, re1, rs1, h2.mono _ _ _ _ _ (fun δ2 M2 h σ2 H2 df2 x2 re2 rs2 => ?_) h⟩
      exact h σ2 H2 ((df.mono fun i hi => List.mem_append_left _ hi).trans (df2.mono fun i hi => List.mem_append_right _ hi)) (x.trans x2) re2 rs2
def gT (gs : GFs) : GF := fun d δ M Q => match d with
  | .tup ds => gs ds δ M Q
  | _ => False
theorem gT_mono {gs : GFs} (h : MonoGs gs) : MonoG (gT gs) := fun d δ M Q Q' q g => by cases d <;> first | exact (g : False).elim | exact h _ _ _ _ _ q g
/-- the items that are stored have the number of names -/
def GLen (n : Nat) (gs : GFs) : Prop := ∀ ds δ M Q, gs ds δ M Q → ds.length = n
theorem glen_nil : GLen 0 gsNil := fun ds δ M Q h => by cases ds <;> first | rfl | exact (h : False).elim
theorem glen_cons {n : Nat} {g : GF} {gs : GFs} (hg : MonoG g) (h : GLen n gs) (hex : ∀ d δ M Q, g d δ M Q → ∃ δ1 M1, Q δ1 M1) : GLen (n + 1) (gsCons g gs) := fun ds δ M Q q => by
  cases ds with
  | nil => exact (q : False).elim
  | cons d r =>
    obtain ⟨δ1, M1, z⟩ := hex _ _ _ _ q
    rw [List.length_cons, h _ _ _ _ z]
theorem zg_tup {es : List Expr} {k : Nat} {vs : List Nat} {gs : GFs} {n : Nat} (hc : X.calm = true) (h : ZGs X es vs gs) (hl : GLen n gs) (hn : (assignEach es X.env).length = n := by rfl) (hst : (assignEach es X.env).findIdx? (·.1) = none := by rfl) : ZG X (.Tuple es k pos) vs (gT gs) := by
  refine ⟨gT_mono h.mono, PG.weak (pg_tup hc h.pgs hn hst) fun v σ H Q ⟨d, δ, M, r, re, rs, g⟩ => ?_⟩
  cases d <;> first | exact (g : False).elim | skip
  cases r with
  | tup t1 q1 => exact ⟨_, _, rfl, t1, by rw [← q1.length]; exact hl _ _ _ _ g, _, δ, M, q1, re, rs, g⟩
/-! stores -/
def sAsg (fe : EF) (g : GF) : SF := fun E δ M => fe δ M fun d M1 => g d δ M1 E.nx
theorem sAsg_mono {g : GF} (h : MonoE fe) (hg : MonoG g) : MonoS (sAsg fe g) := fun A B l _ _ q => h _ _ _ _ (fun _ _ p => hg _ _ _ _ _ (fun _ _ z => l.nx _ _ z) p) q
theorem zs_set {i : Nat} {x : Str} (hN : X.N.Nodup) (hi : X.N[i]? = some x) (hx : Loc X.env.scope x) (he : ZE X e fe) (hs : swapsWith e (some (.Name x pos')) pos.line X.env = pure false := by rfl) (hf : X.fn x = true ∨ X.env.scope.names.lookup x = some .local := by first | exact .inl rfl | exact .inr rfl | assumption) :
    ZS X (.Assign [.Name x pos'] e pos) (sAsg fe (gN i)) := by
  refine ⟨sAsg_mono he.mono gN_mono, PS.weak (ps_set hN hi hx he.pe hs hf) fun D σ H ⟨δ, M, re, rs, h⟩ => ?_⟩
  exact tz_bind he.mono re rs h fun d M1 v H1 p x1 re1 rs1 r1 => p _ H1 x1 (re1.set i r1) rs1
theorem zs_asg {tg : Expr} {vs : List Nat} {g : GF} (he : ZE X e fe) (hg : ZG X tg vs g) (hs : swapsWithSole [tg] e pos.line X.env = pure false := by rfl) (hw : swappedStores [tg] e X.env = pure none := by rfl)
    (h1 : (assignEach [tg] X.env).map (·.2) = [assign tg X.env] := by rfl) : ZS X (.Assign [tg] e pos) (sAsg fe g) := by
  refine ⟨sAsg_mono he.mono hg.mono, PS.weak (ps_asg he.pe hg.pg hs hw h1) fun D σ H ⟨δ, M, re, rs, h⟩ => ?_⟩
  refine tz_bind he.mono re rs h fun d M1 v H1 p x1 re1 rs1 r1 => ?_
  exact ⟨d, δ, M1, r1, re1, rs1, hg.mono _ _ _ _ _ (fun δ' M' q σ' H' df x' re' rs' => q σ' H' (x1.trans x') re' rs') p⟩
/-- a, b = x, y -/
def sPar (i j : Nat) (fs : AF) : SF := fun E δ M => fs δ M fun ds M1 => match ds with | [d, d'] => E.nx ((δ.set i (some d)).set j (some d')) M1 | _ => False
theorem zs_par {i j : Nat} {x y : Str} {px py pt : Pos} {kt k2 pt2} (hc : X.calm = true) (hN : X.N.Nodup) (hi : X.N[i]? = some x) (hj : X.N[j]? = some y) (hij : i ≠ j)
    (hx : X.env.scope.names.lookup x = some .local) (hy : X.env.scope.names.lookup y = some .local) (ha : ZA X [a, b] fs)
    (hw : swappedStores [.Tuple [.Name x px, .Name y py] kt pt] (.Tuple [a, b] k2 pt2) X.env = pure (some [x, y]) := by rfl)
    (hs : swapsWithSole [.Tuple [.Name x px, .Name y py] kt pt] (.Tuple [a, b] k2 pt2) pos.line X.env = pure false := by rfl) :
    ZS X (.Assign [.Tuple [.Name x px, .Name y py] kt pt] (.Tuple [a, b] k2 pt2) pos) (sPar i j fs) := by
  refine ⟨fun A B l δ M h => ha.mono _ _ _ _ (fun ds M1 q => ?_) h, PS.weak (ps_par hc hN hi hj hij hx hy ha.pa hw hs) fun D σ H ⟨δ, M, re, rs, h⟩ => ?_⟩
  · rcases ds with _ | ⟨d, _ | ⟨d', _ | ⟨d'', r⟩⟩⟩ <;> first | exact (q : False).elim | exact l.nx _ _ q
  · refine tza_bind ha.mono re rs h fun ds M1 vs H1 p x1 re1 rs1 r1 => ?_
    rcases ds with _ | ⟨d, _ | ⟨d', _ | ⟨d'', r⟩⟩⟩ <;> first | exact (p : False).elim | skip
    cases r1 with
    | cons q1 t1 =>
      cases t1 with
      | cons q2 t2 =>
        cases t2
        exact ⟨_, _, rfl, p _ H1 x1 ((re1.set i q1).set j q2) rs1⟩
/-- o[i] = e -/
abbrev UF := D → D → D → Sto → (Sto → Prop) → Prop
def uSet : UF := fun o i v M Q => match o with
  | .ref a => (∃ ds k j, i = .int k ∧ M a = some (.lst ds) ∧ ixN ds.length k = some j ∧ Q (put M a (.lst (ds.set j v)))) ∨ (∃ kvs k, i.key? = some k ∧ M a = some (.dk kvs) ∧ kvs.length < sizeLine ∧ Q (put M a (.dk (pk kvs k v))))
  | _ => False
def sSub (fe fo fi : EF) : SF := fun E δ M => fe δ M fun v M1 => fo δ M1 fun o M2 => fi δ M2 fun i M3 => uSet o i v M3 fun M4 => E.nx δ M4
theorem uSet_mono {o i v : D} {M : Sto} {Q Q' : Sto → Prop} (q : ∀ M, Q M → Q' M) (h : uSet o i v M Q) : uSet o i v M Q' := by
  cases o <;> first | exact (h : False).elim | skip
  rcases h with ⟨ds, k, j, h1, h2, h3, h4⟩ | ⟨kvs, k, h1, h2, h3, h4⟩
  · exact .inl ⟨ds, k, j, h1, h2, h3, q _ h4⟩
  · exact .inr ⟨kvs, k, h1, h2, h3, q _ h4⟩
theorem sSub_mono (he : MonoE fe) (ho : MonoE fa) (hi : MonoE fb) : MonoS (sSub fe fa fb) := fun A B l _ _ q => he _ _ _ _ (fun _ _ q => ho _ _ _ _ (fun _ _ q => hi _ _ _ _ (fun _ _ q => uSet_mono (fun _ z => l.nx _ _ z) q) q) q) q
theorem set_dict (hu : X.A.units + 1 < cLine) : PSet X (fun o i v H Q => ∃ a kvs k, o = .ref a ∧ i = kV k ∧ H a = some (.dK kvs) ∧ kvs.length < sizeLine ∧ Q (upd H a (.dK (putK kvs k v)))) := by
  intro pins s σ H o i v ov iv u Q I r1 r2 r3 ⟨a, kvs, k, e1, e2, e3, hz, q⟩
  subst e1 e2
  cases r1
  exact d_setItem hu I (DPut.k e3 hz) r2 r3 fun s' I' => ⟨_, I', q⟩
theorem pset_or {t t' : TSet} (h : PSet X t) (h' : PSet X t') : PSet X (fun o i v H Q => t o i v H Q ∨ t' o i v H Q) := by
  intro pins s σ H o i v ov iv u Q I r1 r2 r3 q
  rcases q with q | q
  · exact h pins s σ H o i v ov iv u Q I r1 r2 r3 q
  · exact h' pins s σ H o i v ov iv u Q I r1 r2 r3 q
theorem uSet_ok {M : Sto} {H : Hp} {o i v : D} {ov iv vv : V} {Q : Hp → Prop} (rs : RS X.K H M) (r1 : RD X.K H o ov) (r2 : RD X.K H i iv) (r3 : RD X.K H v vv) (h : uSet o i v M fun M' => ∀ H', Ext X.K M M' H H' → RS X.K H' M' → Q H') :
    rSetL ov iv vv H Q ∨ ∃ a kvs k, ov = .ref a ∧ iv = kV k ∧ H a = some (.dK kvs) ∧ kvs.length < sizeLine ∧ Q (upd H a (.dK (putK kvs k vv))) := by
  cases o <;> first | exact (h : False).elim | skip
  cases r1
  rcases h with ⟨ds, k, j, rfl, h2, h3, h4⟩ | ⟨kvs, k, h1, h2, h3, h4⟩
  · cases r2
    obtain ⟨xs, e, q1⟩ := rs _ _ h2
    have x : Ext X.K M _ H _ := Ext.write (o := .lst (xs.set j vv)) (m := .lst (ds.set j v)) (by rw [e]; trivial) h2
    exact .inl ⟨_, xs, k, j, rfl, rfl, e, by rw [← q1.length]; exact h3, h4 _ x (rs.write h2 ⟨_, upd_same, x.rds (q1.set r3 j)⟩)⟩
  · obtain ⟨xs, e, q1⟩ := rs _ _ h2
    have x : Ext X.K M _ H _ := Ext.write (o := .dK (putK xs k vv)) (m := .dk (pk kvs k v)) (by rw [e]; trivial) h2
    exact .inr ⟨_, xs, k, rfl, key_rd r2 h1, e, by rw [← q1.length]; exact h3, h4 _ x (rs.write h2 ⟨_, upd_same, x.rkv (q1.pk k r3)⟩)⟩
theorem zs_sub {o i : Expr} (hu : X.A.units + 1 < cLine) (he : ZE X e fe) (ho : ZE X o fa) (hi : ZE X i fb)
    (hs : swapsWithSole [.Subscript o i pos'] e pos.line X.env = pure false := by rfl) (hw : swappedStores [.Subscript o i pos'] e X.env = pure none := by rfl)
    (h1 : (assignEach [.Subscript o i pos'] X.env).map (·.2) = [assign (.Subscript o i pos') X.env] := by rfl)
    (ha : ∀ v, assign (.Subscript o i pos') X.env v = (do
      let ov ← holding [v] (eval o X.env)
      let iv ← holding [v, ov] (eval i X.env)
      standAt pos'
      holding [v, ov, iv] (setItem ov iv v)
      release [v, ov, iv] []) := by intro _; rfl) : ZS X (.Assign [.Subscript o i pos'] e pos) (sSub fe fa fb) := by
  refine ⟨sSub_mono he.mono ho.mono hi.mono, PS.weak (ps_asg he.pe (pg_sub ho.pe hi.pe (pset_or set_list (set_dict hu)) ha) hs hw h1) fun D σ H ⟨δ, M, re, rs, h⟩ => ?_⟩
  refine tz_bind he.mono re rs h fun d M1 v H1 p x1 re1 rs1 r1 => ?_
  refine tz_bind ho.mono re1 rs1 p fun d2 M2 v2 H2 p2 x2 re2 rs2 r2 => ?_
  refine tz_bind hi.mono re2 rs2 p2 fun d3 M3 v3 H3 p3 x3 re3 rs3 r3 => ?_
  refine uSet_ok rs3 (x3.rd r2) r3 ((x2.trans x3).rd r1) (uSet_mono (fun M4 z H4 x4 rs4 => ?_) p3)
  exact z σ H4 (((x1.trans x2).trans x3).trans x4) (x4.re re3) rs4
end
end Z
set_option maxHeartbeats 4000000
namespace Z
open PySem PySem.Spec PyProof.Rows L2
/-! ### while -/
def whileN (c : TF) (b : SF) : Nat → SF
  | 0 => fun _ _ _ => False
  | n + 1 => fun E δ M => c δ M fun k M1 => zif k (b ⟨whileN c b n E, E.rt, E.nx, whileN c b n E⟩ δ M1) (E.nx δ M1)
def sWhile (c : TF) (b : SF) : SF := fun E δ M => ∃ n, whileN c b n E δ M
theorem whileN_mono {c : TF} {b : SF} (hc : MonoT c) (hb : MonoS b) : ∀ n, MonoS (whileN c b n)
  | 0 => fun _ _ _ _ _ h => h
  | n + 1 => fun A B l δ M h => by
    have ih := whileN_mono hc hb n A B l
    exact hc _ _ _ _ (fun _ _ p => p.mono (fun q => hb ⟨whileN c b n A, A.rt, A.nx, whileN c b n A⟩ ⟨whileN c b n B, B.rt, B.nx, whileN c b n B⟩ ⟨ih, l.rt, l.nx, ih⟩ _ _ q) (l.nx _ _)) h
theorem sWhile_mono {c : TF} {b : SF} (hc : MonoT c) (hb : MonoS b) : MonoS (sWhile c b) := fun A B l δ M ⟨n, h⟩ => ⟨n, whileN_mono hc hb n A B l δ M h⟩
section
variable {X : Cx}
theorem zs_while {c : Expr} {body : List Stmt} {tc : TF} {tb : SF} {pos : Pos} (hp : PassesOwn (model X.prog X.w) X.A X.env X.xe) (hc : ZT X c tc) (hb : ZSs X body tb) : ZS X (.While c body [] pos) (sWhile tc tb) := by
  refine ⟨sWhile_mono hc.mono hb.mono, PS.weak (ps_while hp hc.pt hb.pss) fun D σ H ⟨δ, M, re, rs, n, h⟩ => ?_⟩
  refine ⟨fun m σ1 H1 => ∃ δ1 M1, RE X.K H1 σ1 δ1 ∧ RS X.K H1 M1 ∧ Ext X.K M M1 H H1 ∧ whileN tc tb m (EndsOf X.K M H D) δ1 M1, ⟨n, δ, M, re, rs, Ext.refl _ _ _, h⟩, ?_⟩
  rintro m σ1 H1 ⟨δ1, M1, re1, rs1, x1, h⟩
  cases m with
  | zero => exact (h : False).elim
  | succ m =>
    refine tzt_bind hc.mono re1 rs1 h fun d M2 H2 p x2 re2 rs2 => zif.ite (p.mono (fun p => ?_) fun p => p σ1 H2 (x1.trans x2) re2 rs2)
    refine ⟨fun σ' H' => ∃ δ' M', RE X.K H' σ' δ' ∧ RS X.K H' M' ∧ Ext X.K M M' H H' ∧ whileN tc tb m (EndsOf X.K M H D) δ' M', fun σ' H' q => ⟨m, Nat.lt_succ_self _, q⟩, δ1, M2, re2, rs2, hb.mono _ _ ?_ _ _ p⟩
    have again : ∀ δ' M', whileN tc tb m (EndsOf X.K M H D) δ' M' → ContN X.K M2 H2 (fun σ' H' => ∃ δ' M', RE X.K H' σ' δ' ∧ RS X.K H' M' ∧ Ext X.K M M' H H' ∧ whileN tc tb m (EndsOf X.K M H D) δ' M') δ' M' :=
      fun δ' M' q σ' H' x3 re3 rs3 => ⟨δ', M', re3, rs3, (x1.trans x2).trans x3, q⟩
    exact ⟨again, fun _ _ q => Cont.mono (x1.trans x2) q, fun _ _ q => ContN.mono (x1.trans x2) q, again⟩
end
/-! ### what is walked -/
abbrev KP := Option (Addr × List D)
def kpd (k : KP) (M : Sto) : Prop := match k with
  | none => True
  | some p => M p.1 = some (.lst p.2)
def kpc (k : KP) (M : Sto) (P : Prop) : Prop := match k with
  | none => P
  | some p => M p.1 = some (.lst p.2) ∧ P
theorem kpc.get {k : KP} {M : Sto} {P : Prop} (h : kpc k M P) : kpd k M ∧ P := by
  cases k with
  | none => exact ⟨trivial, h⟩
  | some p => exact h
theorem kpc.mono {k : KP} {M : Sto} {P P' : Prop} (h : kpc k M P) (q : P → P') : kpc k M P' := by
  cases k with
  | none => exact q h
  | some p => exact ⟨h.1, q h.2⟩
/-- tuples and lists that stay -/
structure Tx (K : PySem.W.Frag) (H H' : Hp) : Prop where
  tup : ∀ a xs, SqT K H a xs → SqT K H' a xs
  fz : ∀ a xs, FzL K H a xs → FzL K H' a xs
theorem Ext.tx {K : PySem.W.Frag} {M M' : Sto} {H H' : Hp} (e : Ext K M M' H H') : Tx K H H' := ⟨e.tup, e.fz⟩
theorem Tx.refl (K : PySem.W.Frag) (H : Hp) : Tx K H H := ⟨fun _ _ h => h, fun _ _ h => h⟩
theorem Tx.trans {K : PySem.W.Frag} {A B C : Hp} (x : Tx K A B) (y : Tx K B C) : Tx K A C := ⟨fun a xs h => y.tup a xs (x.tup a xs h), fun a xs h => y.fz a xs (x.fz a xs h)⟩
theorem Tx.rds {K : PySem.W.Frag} {H H' : Hp} (x : Tx K H H') {ds : List D} {vs : List V} (r : RDs K H ds vs) : RDs K H' ds vs := RDs.ext x.tup x.fz r
structure ItOk (K : PySem.W.Frag) (J : It) (ds : List D) (k : KP) (M0 : Sto) (H0 : Hp) : Prop where
  len : ds.length ≤ sizeLine
  stop : ∀ H M, Ext K M0 M H0 H → RS K H M → kpd k M → J.stop ds.length H
  go : ∀ H M (i : Nat), i < ds.length → Ext K M0 M H0 H → RS K H M → kpd k M → J.go i H
  yld : ∀ H M (i : Nat) x H', i < ds.length → Ext K M0 M H0 H → RS K H M → kpd k M → J.yld i H x H' → ∃ d, ds[i]? = some d ∧ RD K H' d x ∧ (H' = H ∨ (∃ p xs, H p = none ∧ H' = upd H p (.tup xs)) ∨ ∃ p xs q ys, H p = none ∧ upd H p (.tup xs) q = none ∧ H' = upd (upd H p (.tup xs)) q (.tup ys))
abbrev IF := DE → Sto → (List D → KP → Sto → Prop) → Prop
def MonoI (f : IF) : Prop := ∀ δ M (Q Q' : List D → KP → Sto → Prop), (∀ ds k M', Q ds k M' → Q' ds k M') → f δ M Q → f δ M Q'
def tzi (K : PySem.W.Frag) (f : IF) : TI := fun σ H R => ∃ δ M, RE K H σ δ ∧ RS K H M ∧ f δ M fun ds k M' => ∀ J H', Ext K M M' H H' → RS K H' M' → ItOk K J ds k M' H' → R J H'
structure ZI (X : Cx) (tg iter : Expr) (f : IF) : Prop where
  mono : MonoI f
  pi : PI X tg iter (tzi X.K f)
theorem PI.weak {X : Cx} {tg iter : Expr} {t t' : TI} (h : PI X tg iter t) (w : ∀ σ H R, t' σ H R → t σ H R) : PI X tg iter t' := ⟨fun pins s σ H R I q => h.run pins s σ H R I (w _ _ _ q)⟩
theorem tzi_bind {K : PySem.W.Frag} {M : Sto} {H : Hp} {σ : L2.St} {δ : DE} {f : IF} (mo : MonoI f) (re : RE K H σ δ) (rs : RS K H M) {P : List D → KP → Sto → Prop} {R : It → Hp → Prop} (hf : f δ M P)
    (k : ∀ ds kp M1 J H1, P ds kp M1 → Ext K M M1 H H1 → RE K H1 σ δ → RS K H1 M1 → ItOk K J ds kp M1 H1 → R J H1) : tzi K f σ H R :=
  ⟨δ, M, re, rs, mo _ _ _ _ (fun d kp M1 p J H1 x r1 ok => k d kp M1 J H1 p x (x.re re) r1 ok) hf⟩
/-! ### for -/
def forZ (g : GF) (b : SF) (k : KP) : List D → SF
  | [] => fun E δ M => kpc k M (E.nx δ M)
  | d :: r => fun E δ M => kpc k M (g d δ M fun δ1 M1 => b ⟨forZ g b k r E, E.rt, E.nx, forZ g b k r E⟩ δ1 M1)
def sFor (fi : IF) (g : GF) (b : SF) : SF := fun E δ M => fi δ M fun ds k M1 => forZ g b k ds E δ M1
theorem forZ_mono {g : GF} {b : SF} {k : KP} (hg : MonoG g) (hb : MonoS b) : ∀ ds, MonoS (forZ g b k ds)
  | [] => fun A B l δ M h => h.mono (l.nx _ _)
  | d :: r => fun A B l δ M h => by
    have ih := forZ_mono (k := k) hg hb r A B l
    exact h.mono fun q => hg _ _ _ _ _ (fun _ _ q => hb ⟨forZ g b k r A, A.rt, A.nx, forZ g b k r A⟩ ⟨forZ g b k r B, B.rt, B.nx, forZ g b k r B⟩ ⟨ih, l.rt, l.nx, ih⟩ _ _ q) q
section
variable {X : Cx}
theorem tup_step {K : PySem.W.Frag} {M : Sto} {H H' : Hp} (rs : RS K H M) (h : H' = H ∨ (∃ p xs, H p = none ∧ H' = upd H p (.tup xs)) ∨ ∃ p xs q ys, H p = none ∧ upd H p (.tup xs) q = none ∧ H' = upd (upd H p (.tup xs)) q (.tup ys)) : Ext K M M H H' ∧ RS K H' M := by
  rcases h with rfl | ⟨p, xs, hp, rfl⟩ | ⟨p, xs, q, ys, hp, hq, rfl⟩
  · exact ⟨Ext.refl _ _ _, rs⟩
  · exact ⟨Ext.laid0 hp, rs.laid0 hp⟩
  · exact ⟨(Ext.laid0 hp).trans (Ext.laid0 hq), (rs.laid0 hp).laid0 hq⟩
theorem zs_for {tg iter : Expr} {body : List Stmt} {fi : IF} {vs : List Nat} {g : GF} {tb : SF} {pos : Pos} (hp : PassesOwn (model X.prog X.w) X.A X.env X.xe) (hc : X.calm = true) (hi : ZI X tg iter fi) (hg : ZG X tg vs g) (hb : ZSs X body tb)
    (hs : ∀ x, foldedSetIterable iter X.env x = pure x := by intro _; rfl) : ZS X (.For tg iter body [] pos) (sFor fi g tb) := by
  refine ⟨fun A B l δ M h => hi.mono _ _ _ _ (fun ds k M1 h => forZ_mono hg.mono hb.mono ds A B l _ _ h) h, PS.weak (ps_for hp hc hi.pi hg.pg hb.pss hs) fun D σ H ⟨δ, M, re, rs, h⟩ => ?_⟩
  refine tzi_bind hi.mono re rs h fun ds k M1 J H1 h x1 re1 rs1 ok => ?_
  refine ⟨fun i m σ2 H2 => ∃ δ2 M2, RE X.K H2 σ2 δ2 ∧ RS X.K H2 M2 ∧ Ext X.K M1 M2 H1 H2 ∧ m = ds.length - i ∧ i ≤ ds.length ∧ forZ g tb k (ds.drop i) (EndsOf X.K M H D) δ2 M2,
    ⟨ds.length, δ, M1, re1, rs1, Ext.refl _ _ _, by simp, Nat.zero_le _, h⟩, ?_⟩
  rintro i m σ2 H2 ⟨δ2, M2, re2, rs2, x2, rfl, hi2, h⟩
  by_cases hlt : i < ds.length
  · have e : ds.drop i = ds[i] :: ds.drop (i + 1) := List.drop_eq_getElem_cons hlt
    rw [e] at h
    obtain ⟨kd, h⟩ := kpc.get h
    refine .inr ⟨ok.go _ _ i hlt x2 rs2 kd, fun σ3 H3 => ∃ δ3 M3, RE X.K H3 σ3 δ3 ∧ RS X.K H3 M3 ∧ Ext X.K M1 M3 H1 H3 ∧ forZ g tb k (ds.drop (i + 1)) (EndsOf X.K M H D) δ3 M3, fun σ' H' ⟨δ3, M3, a, b, c, e⟩ => ⟨ds.length - (i + 1), by omega, δ3, M3, a, b, c, rfl, hlt, e⟩, fun x H3 y => ?_⟩
    obtain ⟨d, e1, rd, st⟩ := ok.yld _ _ i x H3 hlt x2 rs2 kd y
    rw [List.getElem?_eq_getElem hlt] at e1
    cases e1
    obtain ⟨x3, rs3⟩ := tup_step rs2 st
    refine ⟨ds[i], δ2, M2, rd, x3.re re2, rs3, hg.mono _ _ _ _ _ (fun δ4 M4 q σ4 H4 df x4 re4 rs4 => ?_) h⟩
    refine ⟨δ4, M4, re4, rs4, hb.mono _ _ ?_ _ _ q⟩
    have again : ∀ δ' M', forZ g tb k (ds.drop (i + 1)) (EndsOf X.K M H D) δ' M' → ContN X.K M4 H4 (fun σ3 H3 => ∃ δ3 M3, RE X.K H3 σ3 δ3 ∧ RS X.K H3 M3 ∧ Ext X.K M1 M3 H1 H3 ∧ forZ g tb k (ds.drop (i + 1)) (EndsOf X.K M H D) δ3 M3) δ' M' :=
      fun δ' M' q σ' H' x5 re5 rs5 => ⟨δ', M', re5, rs5, ((x2.trans x3).trans x4).trans x5, q⟩
    have xx := x1.trans ((x2.trans x3).trans x4)
    exact ⟨again, fun _ _ q => Cont.mono xx q, fun _ _ q => ContN.mono xx q, again⟩
  · have e : i = ds.length := by omega
    subst e
    rw [List.drop_length] at h
    obtain ⟨kd, h⟩ := kpc.get h
    exact .inl ⟨ok.stop _ _ x2 rs2 kd, h σ2 H2 (x1.trans x2) re2 rs2⟩
/-! the sources -/
/-- the items of a list or a tuple, and what must stay -/
def iSeq (fe : EF) : IF := fun δ M Q => fe δ M fun d M1 => match d with
  | .tup ys => Q ys none M1
  | .scr ys => Q ys none M1
  | .ref a => ∃ ys, M1 a = some (.lst ys) ∧ Q ys (some (a, ys)) M1
  | _ => False
theorem iSeq_mono {fe : EF} (h : MonoE fe) : MonoI (iSeq fe) := fun δ M Q Q' q g => h _ _ _ _ (fun d _ h1 => by
  cases d <;> first
    | exact (h1 : False).elim
    | exact q _ _ _ h1
    | (obtain ⟨ys, e, h1⟩ := h1; exact ⟨ys, e, q _ _ _ h1⟩)) g
theorem itok_tup {K : PySem.W.Frag} {M : Sto} {H : Hp} {a : Addr} {xs : List V} {ds : List D} (t : SqT K H a xs) (r : RDs K H ds xs) (hz : xs.length ≤ sizeLine) : ItOk K (Itt K a) ds none M H where
  len := by rw [r.length]; exact hz
  stop := fun H' M' x _ _ => ⟨xs, x.tup _ _ t, by rw [r.length]; exact Nat.le_refl _⟩
  go := fun H' M' i hi x _ _ => by
    obtain ⟨v, hv, _⟩ := r.get (List.getElem?_eq_getElem hi)
    exact ⟨xs, v, x.tup _ _ t, hv⟩
  yld := fun H' M' i y H2 hi x _ _ ⟨e, h⟩ => by
    subst e
    obtain ⟨v, hv, rv⟩ := r.get (List.getElem?_eq_getElem hi)
    have := h xs (x.tup _ _ t)
    rw [hv] at this
    cases this
    exact ⟨_, List.getElem?_eq_getElem hi, x.rd rv, .inl rfl⟩
theorem itok_fz {K : PySem.W.Frag} {M : Sto} {H : Hp} {a : Addr} {xs : List V} {ds : List D} (t : FzL K H a xs) (r : RDs K H ds xs) (hz : xs.length ≤ sizeLine) : ItOk K (Itl K a) ds none M H where
  len := by rw [r.length]; exact hz
  stop := fun H' M' x _ _ => ⟨xs, (x.fz _ _ t).sq, by rw [r.length]; exact Nat.le_refl _⟩
  go := fun H' M' i hi x _ _ => by
    obtain ⟨v, hv, _⟩ := r.get (List.getElem?_eq_getElem hi)
    exact ⟨xs, v, (x.fz _ _ t).sq, hv⟩
  yld := fun H' M' i y H2 hi x _ _ ⟨e, h⟩ => by
    subst e
    obtain ⟨v, hv, rv⟩ := r.get (List.getElem?_eq_getElem hi)
    have := h xs (x.fz _ _ t).sq
    rw [hv] at this
    cases this
    exact ⟨_, List.getElem?_eq_getElem hi, x.rd rv, .inl rfl⟩
theorem itok_lst {K : PySem.W.Frag} {M : Sto} {H : Hp} {a : Addr} {xs : List V} {ds : List D} (r : RDs K H ds xs) (hz : xs.length ≤ sizeLine) : ItOk K (Itl K a) ds (some (a, ds)) M H where
  len := by rw [r.length]; exact hz
  stop := fun H' M' x rs k => by
    obtain ⟨ys, e, q⟩ := rs _ _ k
    exact ⟨ys, SqL.of e, by rw [q.length]; exact Nat.le_refl _⟩
  go := fun H' M' i hi x rs k => by
    obtain ⟨ys, e, q⟩ := rs _ _ k
    obtain ⟨v, hv, _⟩ := q.get (List.getElem?_eq_getElem hi)
    exact ⟨ys, v, SqL.of e, hv⟩
  yld := fun H' M' i y H2 hi x rs k ⟨e, h⟩ => by
    subst e
    obtain ⟨ys, e, q⟩ := rs _ _ k
    obtain ⟨v, hv, rv⟩ := q.get (List.getElem?_eq_getElem hi)
    have := h ys (SqL.of e)
    rw [hv] at this
    cases this
    exact ⟨_, List.getElem?_eq_getElem hi, rv, .inl rfl⟩
theorem itok_new {K : PySem.W.Frag} {M : Sto} {H : Hp} {a : Addr} {xs : List V} {ds : List D} (e : H a = some (.lst xs)) (n : M a = none) (r : RDs K H ds xs) (hz : xs.length ≤ sizeLine) : ItOk K (Itl K a) ds none M H where
  len := by rw [r.length]; exact hz
  stop := fun H' M' x _ _ => ⟨xs, SqL.of (x.frm _ _ e n).1, by rw [r.length]; exact Nat.le_refl _⟩
  go := fun H' M' i hi x _ _ => by
    obtain ⟨v, hv, _⟩ := r.get (List.getElem?_eq_getElem hi)
    exact ⟨xs, v, SqL.of (x.frm _ _ e n).1, hv⟩
  yld := fun H' M' i y H2 hi x _ _ ⟨e2, h⟩ => by
    subst e2
    obtain ⟨v, hv, rv⟩ := r.get (List.getElem?_eq_getElem hi)
    have := h xs (SqL.of (x.frm _ _ e n).1)
    rw [hv] at this
    cases this
    exact ⟨_, List.getElem?_eq_getElem hi, x.rd rv, .inl rfl⟩
def iSeqV (K : PySem.W.Frag) (tl : TE) : TI := fun σ H R => tl σ H fun x H1 => ∃ a, x = .ref a ∧ ((∃ xs, SqL K H1 a xs ∧ (xs.length ≤ sizeLine → R (Itl K a) H1)) ∨ (∃ xs, SqT K H1 a xs ∧ (xs.length ≤ sizeLine → R (Itt K a) H1)))
theorem pi_seqV {tg l : Expr} {tl : TE} (hl : PE X l tl) : PI X tg l (iSeqV X.K tl) := by
  refine ⟨fun pins s σ H R I h => ?_⟩
  refine thn (hl.run pins s σ H _ I h) fun v s1 ⟨x, H1, I1, r1, q1⟩ => ?_
  obtain ⟨a, e, q⟩ := q1
  subst e
  cases r1
  rcases q with ⟨xs, hq, q⟩ | ⟨xs, hq, q⟩
  · obtain ⟨its, rv, p, hz⟩ := I1.list hq
    refine wpAny_pyIter_list p.isList ?_
    refine ⟨s1.heap.objs.size, [s1.heap.objs.size], _, _, H1, rfl, I1.kept (t' := s1.toks) fun b o e => Heap.get?_push_of_some _ e, turn_list a _, ⟨_, Heap.get?_push_size _ rfl, rfl, rfl⟩, fun b hb => ?_, q hz⟩
    have e : b = s1.heap.objs.size := by simpa using hb
    subst e
    exact I1.fpOk (Nat.le_refl _) (I1.hok.fresh (Nat.le_refl _))
  · obtain ⟨its, rv, p, hz⟩ := I1.tuple hq
    refine wpAny_pyIter_tuple (show s1.heap.IsTuple a its.toArray from p) ?_
    refine ⟨s1.heap.objs.size, [s1.heap.objs.size], _, _, H1, rfl, I1.kept (t' := s1.toks) fun b o e => Heap.get?_push_of_some _ e, turn_tuple a _, ⟨_, Heap.get?_push_size _ rfl, rfl, rfl⟩, fun b hb => ?_, q hz⟩
    have e : b = s1.heap.objs.size := by simpa using hb
    subst e
    exact I1.fpOk (Nat.le_refl _) (I1.hok.fresh (Nat.le_refl _))
theorem zi_seq {tg l : Expr} {fe : EF} (h : ZE X l fe) : ZI X tg l (iSeq fe) := by
  refine ⟨iSeq_mono h.mono, PI.weak (pi_seqV h.pe) fun σ H R ⟨δ, M, re, rs, g⟩ => ?_⟩
  refine tz_bind h.mono re rs g fun d M1 v H1 p x1 re1 rs1 r1 => ?_
  cases d <;> first | exact (p : False).elim | skip
  · cases r1
    obtain ⟨ys, e1, p⟩ := p
    obtain ⟨xs, q, z⟩ := rs1 _ _ e1
    exact ⟨_, rfl, .inl ⟨xs, SqL.of q, fun hz => p _ H1 x1 rs1 (itok_lst z hz)⟩⟩
  · cases r1 with | tup t1 q1 => exact ⟨_, rfl, .inr ⟨_, t1, fun hz => p _ H1 x1 rs1 (itok_tup t1 q1 hz)⟩⟩
  · cases r1 with | scr t1 q1 => exact ⟨_, rfl, .inl ⟨_, t1.sq, fun hz => p _ H1 x1 rs1 (itok_fz t1 q1 hz)⟩⟩
def iNew (fl : AF) : IF := fun δ M Q => fl δ M fun ys M1 => Q ys none M1
theorem zi_new {tg l : Expr} {fl : AF} (h : ZL X l fl) : ZI X tg l (iNew fl) := by
  refine ⟨fun δ M Q Q' q g => h.mono _ _ _ _ (fun _ _ z => q _ _ _ z) g, PI.weak (pi_seqV h.pe) fun σ H R ⟨δ, M, re, rs, g⟩ => ?_⟩
  exact tzf_bind h.mono re rs g fun ds M1 a xs H1 p x1 re1 rs1 hn e1 n1 r1 => ⟨_, rfl, .inl ⟨xs, SqL.of e1, fun hz => p _ H1 x1 rs1 (itok_new e1 n1 r1 hz)⟩⟩
/-- range -/
def rangeD (lo : Int) (n : Nat) : List D := (List.range n).map fun (i : Nat) => D.int (lo + (i : Int))
theorem itok_rng {K : PySem.W.Frag} {M : Sto} {H : Hp} {lo : Int} {n : Nat} (hz : n ≤ sizeLine) : ItOk K (Itr lo n) (rangeD lo n) none M H where
  len := by simpa [rangeD] using hz
  stop := fun H' M' x _ _ => by show n ≤ _; simp [rangeD]
  go := fun H' M' i hi x _ _ => by show i < n; simpa [rangeD] using hi
  yld := fun H' M' i y H2 hi x _ _ ⟨e, h⟩ => by
    subst e h
    have hi' : i < n := by simpa [rangeD] using hi
    exact ⟨.int (lo + i), by simp [rangeD, hi'], .int _, .inl rfl⟩
def iRange (fs : AF) : IF := fun δ M Q => fs δ M fun ds M1 => match ds with
  | [.int j] => (-16000000 ≤ j ∧ j ≤ 16000000) ∧ Q (rangeD 0 j.toNat) none M1
  | [.int i, .int j] => (-16000000 ≤ i ∧ i ≤ 16000000 ∧ -16000000 ≤ j ∧ j - i ≤ 16000000) ∧ Q (rangeD i (j - i).toNat) none M1
  | _ => False
theorem iRange_mono {fs : AF} (h : MonoA fs) : MonoI (iRange fs) := fun δ M Q Q' q g => h _ _ _ _ (fun ds M1 p => by
  rcases ds with _ | ⟨d, _ | ⟨d', _ | ⟨d'', r⟩⟩⟩
  · exact (p : False).elim
  · cases d <;> first | exact (p : False).elim | exact ⟨p.1, q _ _ _ p.2⟩
  · cases d <;> cases d' <;> first | exact (p : False).elim | exact ⟨p.1, q _ _ _ p.2⟩
  · cases d <;> cases d' <;> exact (p : False).elim) g
theorem zi_range1 {tg a : Expr} {fs : AF} {p pos : Pos} (hg : Gl X "range") (hm : X.mg "range" = none) (ha : ZA X [a] fs) (hs : starEach [a] X.env = [(false, eval a X.env)] := by rfl) : ZI X tg (.Call (.Name "range" p) [a] [] pos) (iRange fs) := by
  refine ⟨iRange_mono ha.mono, PI.weak (pi_range1 hg hm ha.pa hs) fun σ H R ⟨δ, M, re, rs, g⟩ => ?_⟩
  refine tza_bind ha.mono re rs (ha.len _ _ _ g) fun ds M1 vs H1 p x1 re1 rs1 r1 => ?_
  obtain ⟨hl, p⟩ := p
  rcases ds with _ | ⟨d, _ | ⟨d', r⟩⟩ <;> simp only [List.length_cons, List.length_nil] at hl <;> first | omega | skip
  cases d <;> first | exact (p : False).elim | skip
  rename_i j
  cases r1 with
  | cons q1 t1 =>
    cases q1; cases t1
    obtain ⟨⟨h1, h2⟩, p⟩ := p
    exact ⟨j, rfl, by omega, by omega, p _ H1 x1 rs1 (itok_rng (by rw [sizeLine_eq]; omega))⟩
theorem zi_range2 {tg a b : Expr} {fs : AF} {p pos : Pos} (hg : Gl X "range") (hm : X.mg "range" = none) (ha : ZA X [a, b] fs) (hs : starEach [a, b] X.env = [(false, eval a X.env), (false, eval b X.env)] := by rfl) (hs2 : starEach [b] X.env = [(false, eval b X.env)] := by rfl) :
    ZI X tg (.Call (.Name "range" p) [a, b] [] pos) (iRange fs) := by
  refine ⟨iRange_mono ha.mono, PI.weak (pi_range2 hg hm ha.pa hs hs2) fun σ H R ⟨δ, M, re, rs, g⟩ => ?_⟩
  refine tza_bind ha.mono re rs (ha.len _ _ _ g) fun ds M1 vs H1 p x1 re1 rs1 r1 => ?_
  obtain ⟨hl, p⟩ := p
  rcases ds with _ | ⟨d, _ | ⟨d', _ | ⟨d'', r⟩⟩⟩ <;> simp only [List.length_cons, List.length_nil] at hl <;> first | omega | skip
  cases d <;> cases d' <;> first | exact (p : False).elim | skip
  rename_i i j
  cases r1 with
  | cons q1 t1 =>
    cases t1 with
    | cons q2 t2 =>
      cases q1; cases q2; cases t2
      obtain ⟨⟨h1, h2, h3, h4⟩, p⟩ := p
      exact ⟨i, j, rfl, ⟨by omega, by omega, by omega, by omega⟩, p _ H1 x1 rs1 (itok_rng (by rw [sizeLine_eq]; omega))⟩
end
end Z
set_option maxHeartbeats 4000000
namespace Z
open PySem PySem.Spec PyProof.Rows L2
/-! ### list comprehensions -/
def wipeD (δ : DE) : List Nat → DE
  | [] => δ
  | v :: vs => (wipeD δ vs).set v none
def compZ (g : GF) (t : TF) (fe : EF) (k : KP) : List D → DE → Sto → KA → Prop
  | [], _, M, Q => kpc k M (Q [] M)
  | d :: r, δ, M, Q => kpc k M (g d δ M fun δ1 M1 => t δ1 M1 fun b M2 => zif b (fe δ1 M2 fun y M3 => compZ g t fe k r δ M3 fun ys M4 => Q (y :: ys) M4) (compZ g t fe k r δ M2 Q))
def eLC (fi : IF) (g : GF) (t : TF) (fe : EF) (vs : List Nat) : AF := fun δ M Q => fi δ M fun ds k M1 => compZ g t fe k ds (wipeD δ vs) M1 Q
theorem compZ_mono {g : GF} {t : TF} {fe : EF} {k : KP} (hg : MonoG g) (ht : MonoT t) (he : MonoE fe) : ∀ (ds : List D) (δ : DE) (M : Sto) (Q Q' : KA), (∀ d M', Q d M' → Q' d M') → compZ g t fe k ds δ M Q → compZ g t fe k ds δ M Q'
  | [], _, _, _, _, q, h => h.mono (q _ _)
  | d :: r, δ, M, Q, Q', q, h => h.mono fun h => hg _ _ _ _ _ (fun δ1 M1 h => ht _ _ _ _ (fun b M2 h => h.mono
      (fun h => he _ _ _ _ (fun y M3 h => compZ_mono hg ht he r δ M3 _ _ (fun _ _ h => q _ _ h) h) h) fun h => compZ_mono hg ht he r δ M2 _ _ q h) h) h
def tYesZ : TF := fun _ M Q => Q true M
structure ZTs (X : Cx) (ifs : List Expr) (f : TF) : Prop where
  mono : MonoT f
  pts : PTs X ifs (tzt X.K f)
theorem PTs.weak {X : Cx} {e : List Expr} {t t' : TT} (h : PTs X e t) (w : ∀ σ H Q, t' σ H Q → t σ H Q) : PTs X e t' := ⟨fun pins s σ H Q I q => h.run pins s σ H Q I (w _ _ _ q)⟩
section
variable {X : Cx}
theorem zts_nil : ZTs X [] tYesZ := ⟨fun _ _ _ _ q h => q _ _ h, PTs.weak pts_nil fun σ H Q ⟨δ, M, re, rs, h⟩ => h H (Ext.refl _ _ _) rs⟩
theorem zts_one {c : Expr} {t : TF} (h : ZT X c t) : ZTs X [c] t := ⟨h.mono, pts_one h.pt⟩
theorem wipe_get {σ : L2.St} {i : Nat} : ∀ {vs : List Nat}, i ∉ vs → (wipe σ vs)[i]? = σ[i]?
  | [], _ => rfl
  | v :: vs, h => by
    show ((wipe σ vs).set v none)[i]? = _
    rw [List.getElem?_set_ne (fun e => h (by simp [e])), wipe_get fun z => h (List.mem_cons_of_mem _ z)]
theorem wipe_in {σ : L2.St} {i : Nat} : ∀ {vs : List Nat}, i ∈ vs → i < σ.length → (wipe σ vs)[i]? = some none
  | v :: vs, h, hl => by
    show ((wipe σ vs).set v none)[i]? = _
    by_cases e : v = i
    · subst e
      rw [List.getElem?_set_self (by rw [wipe_length]; exact hl)]
    · rw [List.getElem?_set_ne e]
      rcases List.mem_cons.mp h with z | z
      · exact absurd z.symm e
      · exact wipe_in z hl
theorem Diff.wipe {vs : List Nat} {a b : L2.St} (h : Diff vs a b) : L2.wipe b vs = L2.wipe a vs := by
  apply List.ext_getElem?
  intro i
  by_cases hi : i ∈ vs
  · by_cases hl : i < a.length
    · rw [wipe_in hi hl, wipe_in hi (by rw [h.1]; exact hl)]
    · rw [List.getElem?_eq_none (by rw [wipe_length, h.1]; omega), List.getElem?_eq_none (by rw [wipe_length]; omega)]
  · rw [wipe_get hi, wipe_get hi, h.2 i hi]
theorem diff_wipe {vs : List Nat} {a : L2.St} : Diff vs a (L2.wipe a vs) := ⟨wipe_length _ _, fun i hi => wipe_get hi⟩
theorem RE.wipe {K : PySem.W.Frag} {H : Hp} {σ : L2.St} {δ : DE} (r : RE K H σ δ) : ∀ vs : List Nat, RE K H (L2.wipe σ vs) (wipeD δ vs)
  | [] => r
  | v :: vs => by
    have ih := RE.wipe r vs
    refine ⟨by show ((L2.wipe σ vs).set v none).length = ((wipeD δ vs).set v none).length; simpa using ih.1, fun i d q => ?_⟩
    have q' : ((wipeD δ vs).set v none)[i]? = some (some d) := q
    show ∃ w, ((L2.wipe σ vs).set v none)[i]? = some (some w) ∧ _
    by_cases e : v = i
    · subst e
      by_cases hl : v < (wipeD δ vs).length
      · rw [List.getElem?_set_self hl] at q'; cases q'
      · rw [List.getElem?_eq_none (by simpa using hl)] at q'; cases q'
    · rw [List.getElem?_set_ne e] at q' ⊢
      exact ih.2 i d q'
/-- an untold list is written -/
theorem Ext.hid {K : PySem.W.Frag} {M M' : Sto} {H H' : Hp} {a : Addr} {o : HO} (x : Ext K M M' H H') (hn : H a = none) (m : Mut (H' a)) : Ext K M M' H (upd H' a o) :=
  ⟨fun b xs h => sqt_write m (x.tup b xs h), fun b xs h => fzl_write m (x.fz b xs h), fun b u h n => let ⟨h1, n1⟩ := x.frm b u h n; ⟨by rw [upd_ne (ne_of_none h hn)]; exact h1, n1⟩, fun b h => x.old b (upd_old b h)⟩
theorem RS.hid {K : PySem.W.Frag} {M : Sto} {H : Hp} {a : Addr} {o : HO} (r : RS K H M) (n : M a = none) (m : Mut (H a)) : RS K (upd H a o) M := fun b u h => by
  have t : Tx K H (upd H a o) := ⟨fun _ _ h => sqt_write m h, fun _ _ h => fzl_write m h⟩
  have e : upd H a o b = H b := upd_ne (ne_of_free h n)
  have := r b u h
  cases u with
  | lst ds => obtain ⟨xs, q, z⟩ := this; exact ⟨xs, e.trans q, t.rds z⟩
  | dk kvs => obtain ⟨xs, q, z⟩ := this; exact ⟨xs, e.trans q, Paired.mapP z fun _ _ ⟨h1, h2⟩ => ⟨h1, RD.ext t.tup t.fz h2⟩⟩
  | ins C fs => obtain ⟨dx, xs, q, z⟩ := this; exact ⟨dx, xs, e.trans q, Paired.mapP z fun _ _ ⟨h1, h2⟩ => ⟨h1, RD.ext t.tup t.fz h2⟩⟩
theorem lc_read {fi : IF} {g : GF} {t : TF} {fe : EF} {vs ws : List Nat} {K : PySem.W.Frag} {te : TE} {tt : TT} {gg : TG} (hg : MonoG g) (ht : MonoT t) (he : MonoE fe) (hi : MonoI fi) (hws : ∀ i ∈ ws, i ∈ vs)
    (egg : gg = tzg K ws g) (ett : tt = tzt K t) (ete : te = tz K fe) (σ : L2.St) (H : Hp) (Q : VK) (h : tzf K (eLC fi g t fe vs) σ H Q) : tLc (tzi K fi) gg tt te vs σ H Q := by
  subst egg ett ete
  obtain ⟨δ, M, re, rs, h⟩ := h
  refine tzi_bind hi re rs h fun ds k M1 J H1 h x1 re1 rs1 ok => ?_
  intro D hD
  have hD0 : H D = none := x1.old _ hD
  have hDM : M1 D = none := rs1.free hD
  refine ⟨fun i m H2 => ∃ M2 accD accV, RS K H2 M2 ∧ Ext K M1 M2 H1 H2 ∧ H2 D = some (.lst accV) ∧ M2 D = none ∧ RDs K H2 accD accV ∧ accD.length ≤ i ∧ m = ds.length - i ∧ i ≤ ds.length ∧
      compZ g t fe k (ds.drop i) (wipeD δ vs) M2 (fun ys M' => ∀ a xs H', Ext K M M' H H' → RS K H' M' → H a = none → H' a = some (.lst xs) → M' a = none → RDs K H' (accD ++ ys) xs → Q (.ref a) H'),
    ⟨ds.length, M1, [], [], rs1.laid0 hD, Ext.laid0 hD, upd_same, hDM, .nil, Nat.zero_le _, by simp, Nat.zero_le _, ?_⟩, ?_⟩
  · exact h
  · rintro i m H2 ⟨M2, accD, accV, rs2, x2, e2, n2, racc, hacc, rfl, hi2, h⟩
    by_cases hlt : i < ds.length
    · have e : ds.drop i = ds[i] :: ds.drop (i + 1) := List.drop_eq_getElem_cons hlt
      rw [e] at h
      obtain ⟨kd, h⟩ := kpc.get h
      refine .inr ⟨ok.go _ _ i hlt x2 rs2 kd, fun H3 => ∃ M3 accD accV, RS K H3 M3 ∧ Ext K M1 M3 H1 H3 ∧ H3 D = some (.lst accV) ∧ M3 D = none ∧ RDs K H3 accD accV ∧ accD.length ≤ i + 1 ∧
        compZ g t fe k (ds.drop (i + 1)) (wipeD δ vs) M3 (fun ys M' => ∀ a xs H', Ext K M M' H H' → RS K H' M' → H a = none → H' a = some (.lst xs) → M' a = none → RDs K H' (accD ++ ys) xs → Q (.ref a) H'),
        fun H' ⟨M3, a1, a2, b1, b2, b3, b4, b5, b6, b7⟩ => ⟨ds.length - (i + 1), by omega, M3, a1, a2, b1, b2, b3, b4, b5, b6, rfl, hlt, b7⟩, fun x H3 y => ?_⟩
      obtain ⟨d, e1, rd, st⟩ := ok.yld _ _ i x H3 hlt x2 rs2 kd y
      rw [List.getElem?_eq_getElem hlt] at e1
      cases e1
      obtain ⟨x3, rs3⟩ := tup_step rs2 st
      have re3 : RE K H3 (L2.wipe σ vs) (wipeD δ vs) := ((x1.trans x2).trans x3).re re |>.wipe vs
      refine ⟨ds[i], wipeD δ vs, M2, rd, re3, rs3, hg _ _ _ _ _ (fun δ4 M4 q σ4 H4 df x4 re4 rs4 => ⟨?_, ?_⟩) h⟩
      · rw [(df.mono hws).wipe, (diff_wipe (vs := vs) (a := σ)).wipe]
      · refine tzt_bind ht re4 rs4 q fun b M5 H5 q x5 re5 rs5 => ?_
        have e5 : H5 D = some (.lst accV) ∧ M5 D = none := by
          have z3 : H3 D = some (.lst accV) := (x3.frm _ _ e2 n2).1
          obtain ⟨z4, n4⟩ := x4.frm _ _ z3 n2
          exact x5.frm _ _ z4 n4
        have xx5 := ((x2.trans x3).trans x4).trans x5
        have r5 : RDs K H5 accD accV := ((x3.trans x4).trans x5).rds racc
        cases b with
        | false =>
          refine iteF ⟨M5, accD, accV, rs5, xx5, e5.1, e5.2, r5, by omega, q.2 rfl⟩
        | true =>
          refine iteT (tz_bind he re5 rs5 (q.1 rfl) fun y M6 yv H6 q x6 re6 rs6 r6 => ?_)
          obtain ⟨e6, n6⟩ := x6.frm _ _ e5.1 e5.2
          refine ⟨accV, e6, ?_, M6, accD ++ [y], accV ++ [yv], rs6.hid n6 (by rw [e6]; trivial), (xx5.trans x6).hid hD (by rw [e6]; trivial), upd_same, n6, ?_, by rw [List.length_append]; simp; omega, ?_⟩
          · have hz := ok.len
            rw [← r5.length]
            omega
          · have t6 : Tx K H6 (upd H6 D (.lst (accV ++ [yv]))) := ⟨fun _ _ h => sqt_write (by rw [e6]; trivial) h, fun _ _ h => fzl_write (by rw [e6]; trivial) h⟩
            exact t6.rds ((x6.rds r5).snoc r6)
          · refine compZ_mono hg ht he _ _ _ _ _ (fun ys M' z a xs H' x' rs' hn ea na ra => ?_) q
            exact z a xs H' x' rs' hn ea na (by rw [List.append_assoc] at ra; exact ra)
    · have e : i = ds.length := by omega
      subst e
      rw [List.drop_length] at h
      obtain ⟨kd, h⟩ := kpc.get h
      exact .inl ⟨ok.stop _ _ x2 rs2 kd, h D accV H2 (x1.trans x2) rs2 hD0 e2 n2 (by simpa using racc)⟩
theorem eLC_mono {fi : IF} {g : GF} {t : TF} {fe : EF} {vs : List Nat} (hg : MonoG g) (ht : MonoT t) (he : MonoE fe) (hi : MonoI fi) : MonoA (eLC fi g t fe vs) := fun δ M Q Q' q h => hi _ _ _ _ (fun ds k M1 h => compZ_mono hg ht he _ _ _ _ _ q h) h
theorem zl_lc {elt tg iter : Expr} {ifs : List Expr} {scope : Scope} {own : List (Str × Nat)} {pos : Pos} {fi : IF} {ws : List Nat} {g : GF} {t : TF} {fe : EF} (hc : X.calm = true) (hN : X.N.Nodup) (hi : ZI X tg iter fi) (ok : BlkOk X.N X.env.scope scope own)
    (hg : ∀ (s : Shared) (H : Hp) (C : Addr) (cl : List (Str × Addr)) (fp : List Addr), ZG (X.blk s H scope (compEnvC scope cl C X.env) fp) tg ws g) (ht : ∀ (s : Shared) (H : Hp) (C : Addr) (cl : List (Str × Addr)) (fp : List Addr), ZTs (X.blk s H scope (compEnvC scope cl C X.env) fp) ifs t)
    (he : ∀ (s : Shared) (H : Hp) (C : Addr) (cl : List (Str × Addr)) (fp : List Addr), ZE (X.blk s H scope (compEnvC scope cl C X.env) fp) elt fe) (hws : ∀ i ∈ ws, i ∈ own.map (·.2) := by decide) (hs : ∀ x, foldedSetIterable iter X.env x = pure x := by intro _; rfl) :
    ZL X (.ListComp elt [⟨tg, iter, ifs, 0⟩] scope pos) (eLC fi g t fe (own.map (·.2))) := by
  have mg := (hg X.s_0 X.H_0 0 [] []).mono
  have mt := (ht X.s_0 X.H_0 0 [] []).mono
  have me := (he X.s_0 X.H_0 0 [] []).mono
  exact ⟨eLC_mono mg mt me hi.mono, PE.weak (pe_lc (g := tzg X.K ws g) (tt := tzt X.K t) (te := tz X.K fe) hc hN hi.pi ok (fun s H C cl fp => (hg s H C cl fp).pg) (fun s H C cl fp => (ht s H C cl fp).pts) (fun s H C cl fp => (he s H C cl fp).pe) hs)
    fun σ H Q h => lc_read mg mt me hi.mono hws rfl rfl rfl σ H Q h⟩
theorem zs_setLc {i : Nat} {y : Str} {py : Pos} {elt tg iter : Expr} {ifs : List Expr} {scope : Scope} {own : List (Str × Nat)} {pos spos : Pos} {fi : IF} {ws : List Nat} {g : GF} {t : TF} {fe : EF} (hc : X.calm = true) (hN : X.N.Nodup) (hy : X.N[i]? = some y) (hyl : X.env.scope.names.lookup y = some .local)
    (hsw : swapsWith (.ListComp elt [⟨tg, iter, ifs, 0⟩] scope pos) (some (.Name y py)) spos.line X.env = pure true) (hi : ZI X tg iter fi) (ok : BlkOk X.N X.env.scope scope own)
    (hg : ∀ (s : Shared) (H : Hp) (C : Addr) (cl : List (Str × Addr)) (fp : List Addr), ZG (X.blk s H scope (compEnvC scope cl C X.env) fp) tg ws g) (ht : ∀ (s : Shared) (H : Hp) (C : Addr) (cl : List (Str × Addr)) (fp : List Addr), ZTs (X.blk s H scope (compEnvC scope cl C X.env) fp) ifs t)
    (he : ∀ (s : Shared) (H : Hp) (C : Addr) (cl : List (Str × Addr)) (fp : List Addr), ZE (X.blk s H scope (compEnvC scope cl C X.env) fp) elt fe) (hws : ∀ i ∈ ws, i ∈ own.map (·.2) := by decide) (hs : ∀ x, foldedSetIterable iter X.env x = pure x := by intro _; rfl) :
    ZS X (.Assign [.Name y py] (.ListComp elt [⟨tg, iter, ifs, 0⟩] scope pos) spos) (sAsg (eNew (eLC fi g t fe (own.map (·.2)))) (gN i)) := by
  have mg := (hg X.s_0 X.H_0 0 [] []).mono
  have mt := (ht X.s_0 X.H_0 0 [] []).mono
  have me := (he X.s_0 X.H_0 0 [] []).mono
  refine ⟨sAsg_mono (eNew_mono (eLC_mono mg mt me hi.mono)) gN_mono, PS.weak (ps_setLc (g := tzg X.K ws g) (tt := tzt X.K t) (te := tz X.K fe) hc hN hy hyl hsw hi.pi ok (fun s H C cl fp => (hg s H C cl fp).pg) (fun s H C cl fp => (ht s H C cl fp).pts) (fun s H C cl fp => (he s H C cl fp).pe) hs)
    fun D σ H ⟨δ, M, re, rs, h⟩ => ?_⟩
  refine lc_read mg mt me hi.mono hws rfl rfl rfl σ H _ ⟨δ, M, re, rs, eLC_mono mg mt me hi.mono _ _ _ _ (fun ds M1 q a xs H1 x1 rs1 hn e1 n1 r1 => ?_) h⟩
  obtain ⟨x2, rs2⟩ := tell x1 rs1 hn e1 r1
  exact q a n1 _ H1 x2 ((x1.re re).set i (.ref a)) rs2
end
end Z
set_option maxHeartbeats 4000000
namespace Z
open PySem PySem.Spec PyProof.Rows L2
/-! ### defs: no repr runs around the call (what the built-in repr asks) -/
structure FnG (P : Program) (w : World) (K : PySem.W.Frag) (mg : Str → Option Value) (base : Heap) (CX : CXT) (k : Nat) (f : Addr) (fd : FuncData) (ps : List Str) (sp : Sp) : Prop where
  len : ∀ vs H Q E, sp vs H Q E → vs.length = ps.length
  run : ∀ (A : Around), A.guards = some [] → Room k A → ∀ (outer : List PySem.Env) (s : Shared) (H : Hp), Env0 P w K mg base A outer s H → ∀ (args : Args) (us : List Value) (vs : List V) (Q : VK) (E : XK), BindsTo s fd args (ps.zip us) → Vals vs us → sp vs H Q E →
    codeAny (model P w) A (.call (.ref f) args) (CR CX outer P w H s Q E) s
section
variable {P : Program} {w : World} {K : PySem.W.Frag} {mg : Str → Option Value} {base : Heap} {CX : CXT} {k j : Nat} {f : Addr} {fd : FuncData} {ps N : List Str} {sp sp' : Sp} {x qual : Str} {st : Stmt}
theorem FnG.mono (F : FnG P w K mg base CX j f fd ps sp) (h : j ≤ k) : FnG P w K mg base CX k f fd ps sp := ⟨F.len, fun A hg hr => F.run A hg (hr.mono h)⟩
theorem FnG.imp (F : FnG P w K mg base CX k f fd ps sp) (h : ∀ vs H Q E, sp' vs H Q E → sp vs H Q E) : FnG P w K mg base CX k f fd ps sp' :=
  ⟨fun vs H Q E q => F.len _ _ _ _ (h _ _ _ _ q), fun A hg hr outer s H e args us vs Q E b r q => F.run A hg hr outer s H e args us vs Q E b r (h _ _ _ _ q)⟩
/-- a def of the text, by its body -/
theorem FnG.of (F : Fun K x qual st f fd) (S : FnScope N ps (defScope st)) (len : ∀ vs H Q E, sp vs H Q E → vs.length = ps.length)
    (hb : ∀ (cdv : Value) (A : Around) (outer : List PySem.Env) (s : Shared) (H : Hp) (vs : List V) (Q : VK) (E : XK), A.guards = some [] → Room k (A.deeper (envOfC qual (defScope st) s.heap.objs.size f cdv)) → sp vs H Q E →
      ∃ t, PSs (cxOf CX P w K mg base N qual (defScope st) f cdv A outer s H E) (defBody st) t ∧ t { nx := fun _ H' => Q .non H', rt := Q } (L2.start N vs) H) : FnG P w K mg base CX (k + 1) f fd ps sp := by
  obtain ⟨oc, od, kV, doc, pm, an, cdv, ct, osl, rfl, lk, hcd⟩ := F.ex
  refine ⟨len, fun A hg hr outer s H e0 args us vs Q E bd r q => ?_⟩
  have KX : K.In s.heap := e0.mod.kin.keeps fun b o z => (e0.bs b o z).1
  have look : ∀ y ∈ ps.zip us, (defScope st).names.lookup y.1 = some .local ∨ ((defScope st).names.lookup y.1 = some .cell ∧ ((cellsFrom (s.heap.objs.size + 1) (defScope st).names []).lookup y.1).isSome = true) := by
    rintro ⟨n, v⟩ hy
    exact (S.par n (List.of_mem_zip hy).1).imp id fun z => ⟨z, PySem.W.cellsFrom_some _ _ _ (.inl z)⟩
  refine codeAny_call_function hr.depth (KX _ _ lk) rfl S.co S.gen rfl (PySem.W.codeRec_of KX hcd) (bd _ _ _ _ (wpAny_newFunctionEnv_cells S.kind look fun env he s1 xc => ?_))
  subst he
  obtain ⟨t, ht, hq⟩ := hb cdv A outer s H vs Q E hg (hr.deeper _) q
  have lim : s.heap.NoLimit := e0.mod.nolimit.keeps fun b o z => (e0.bs b o z).1
  have I := inv_start (E := E) (CX := CX) S hr.hd e0 (len _ _ _ _ q) r xc
  refine ⟨lim.keeps xc.toInCall.keep, codeAny_func (wpAny_mono (ht.run [] s1 _ H _ I hq) (fun fl s' z => ?_) fun _ _ z => z)⟩
  cases fl with
  | ret u => obtain ⟨v, _, H', J, rv, z⟩ := z; exact ⟨v, H', J.os, J.bare, J.base, J.hok, rv, z⟩
  | next => obtain ⟨_, H', J, z⟩ := z; exact ⟨V.non, H', J.os, J.bare, J.base, J.hok, rfl, z⟩
  | brk => obtain ⟨_, _, _, z⟩ := z; exact z.elim
  | cont => obtain ⟨_, _, _, z⟩ := z; exact z.elim
end
section
variable {X : Cx} {CX : CXT} {k : Nat} {f : Addr} {fd : FuncData} {ps : List Str} {sp : Sp} {dvs : List V} {ds : List Value} {E : XK}
theorem FnG.called {pins : List (Addr × Obj)} {σ : L2.St} {H : Hp} {s : Shared} {Q : VK} {us : List Value} {vs : List V} (F : FnG X.prog X.w X.K X.mg X.base CX k f fd ps sp) (hg : X.A.guards = some []) (hr : Room k X.A) (hb : Binds X.K fd ps ds) (hd : Vals dvs ds) (hx : Passes CX X E)
    (I : Inv X pins σ H s) (r : Vals vs us) (h : sp (vs ++ dvs) H Q E) : wpAny (model X.prog X.w) X.A (call (.ref f) us) (EP X pins σ Q) X.xe s := by
  have r2 : Vals (vs ++ dvs) (us ++ ds) := r.append hd
  refine wpAny_call (codeAny_mono (F.run X.A hg hr X.stack s H I.env0 ⟨us, []⟩ (us ++ ds) (vs ++ dvs) Q E (hb s us I.kIn (r2.length ▸ F.len _ _ _ _ h)) r2 h) fun res s' q => ?_)
  cases res with
  | error e => exact hx pins σ H s e s' I q
  | ok fl => cases fl <;> first | exact I.after q | exact False.elim q
theorem pe_callG {e : Expr} {es : List Expr} {t : TA} {x : Str} {p pos : Pos} (F : FnG X.prog X.w X.K X.mg X.base CX k f fd ps sp) (hG : X.A.guards = some []) (hr : Room k X.A) (hg : Gl X x) (hm : X.mg x = some (.ref f)) (hk : PySem.W.keepIn X.K (.ref f) = true) (hb : Binds X.K fd ps ds) (hd : Vals dvs ds) (hx : Passes CX X E)
    (ha : PA X (e :: es) t) (hdb : (x == ("__debug__" : Str)) = false := by decide) (he : starEach (e :: es) X.env = (false, eval e X.env) :: starEach es X.env := by rfl) (hpl : (backTo pos (starEach es X.env)).any (·.1) = false := by rfl) :
    PE X (.Call (.Name x p) (e :: es) [] pos) (tCall sp dvs E t) := ⟨fun pins s σ H Q I h =>
  wpAny_Call_Name_kw (ld_glob I hg hm (PySem.W.callWith_K (h₀ := X.base) I.ok.mod.kin hk (thn (ha.run pos pins s σ H _ I h) fun us s1 ⟨vs, H1, I1, r, q⟩ => ⟨I1.kIn, F.called hG hr hb hd hx I1 r q⟩) he hpl) hdb)⟩
theorem pe_callG0 {x : Str} {p pos : Pos} (F : FnG X.prog X.w X.K X.mg X.base CX k f fd ps sp) (hG : X.A.guards = some []) (hr : Room k X.A) (hg : Gl X x) (hm : X.mg x = some (.ref f)) (hk : PySem.W.keepIn X.K (.ref f) = true) (hb : Binds X.K fd ps ds) (hd : Vals dvs ds) (hx : Passes CX X E)
    (hdb : (x == ("__debug__" : Str)) = false := by decide) : PE X (.Call (.Name x p) [] [] pos) (tCall sp dvs E tNil) := ⟨fun pins s σ H Q I h =>
  wpAny_Call_Name_kw (ld_glob I hg hm (PySem.W.callWith_K0 I.kIn hk (F.called (us := []) hG hr hb hd hx I .nil h)) hdb)⟩
end
/-! ### defs by plain data -/
abbrev FF := List D → Sto → KD → Prop
def lift (K : PySem.W.Frag) (n : Nat) (g : FF) : Sp := fun vs H Q _ => ∃ ds M, ds.length = n ∧ RDs K H ds vs ∧ RS K H M ∧ g ds M (Cont K M H Q)
def MonoF (g : FF) : Prop := ∀ ds M (Q Q' : KD), (∀ d M', Q d M' → Q' d M') → g ds M Q → g ds M Q'
structure FnD (P : Program) (w : World) (K : PySem.W.Frag) (mg : Str → Option Value) (base : Heap) (k : Nat) (f : Addr) (fd : FuncData) (ps : List Str) (g : FF) : Prop where
  mono : MonoF g
  ok : FnG P w K mg base CX0 k f fd ps (lift K ps.length g)
section
variable {P : Program} {w : World} {K : PySem.W.Frag} {mg : Str → Option Value} {base : Heap} {k j : Nat} {f : Addr} {fd : FuncData} {ps : List Str} {g g' : FF}
theorem FnD.up (F : FnD P w K mg base j f fd ps g) (h : j ≤ k) : FnD P w K mg base k f fd ps g := ⟨F.mono, F.ok.mono h⟩
/-- by its own words -/
theorem FnD.imp (F : FnD P w K mg base k f fd ps g) (m : MonoF g') (h : ∀ ds M Q, ds.length = ps.length → g' ds M Q → g ds M Q) : FnD P w K mg base k f fd ps g' :=
  ⟨m, F.ok.imp fun vs H Q E ⟨ds, M, hl, r, rs, q⟩ => ⟨ds, M, hl, r, rs, h _ _ _ hl q⟩⟩
/-- the body's end: what the store told of the body alone may be dropped -/
def dropK (Q : KD) : KD := fun d M' => ∃ M'', Sub M'' M' ∧ Q d M''
def endsF (Q : KD) : ZEnds := { nx := fun _ M' => dropK Q .non M', rt := dropK Q }
theorem dropK_mono {Q Q' : KD} (q : ∀ d M', Q d M' → Q' d M') {d : D} {M : Sto} (h : dropK Q d M) : dropK Q' d M := let ⟨M', s, h⟩ := h; ⟨M', s, q _ _ h⟩
theorem dropK.self {Q : KD} {d : D} {M : Sto} (h : Q d M) : dropK Q d M := ⟨M, Sub.refl M, h⟩
def startD (N : List Str) (ds : List D) : DE := ds.map some ++ List.replicate (N.length - ds.length) none
def bodyF (n : Nat) (N : List Str) (s : SF) : FF := fun ds M Q => ds.length = n ∧ s (endsF Q) (startD N ds) M
theorem bodyF_mono {n : Nat} {N : List Str} {s : SF} (h : MonoS s) : MonoF (bodyF n N s) := fun ds M Q Q' q ⟨hl, g⟩ => ⟨hl, h (endsF Q) (endsF Q') ⟨fun _ _ z => dropK_mono q z, fun _ _ z => dropK_mono q z, fun _ _ z => z, fun _ _ z => z⟩ _ _ g⟩
theorem re_start {H : Hp} {N : List Str} {ds : List D} {vs : List V} (r : RDs K H ds vs) : RE K H (L2.start N vs) (startD N ds) := by
  have hl := r.length
  refine ⟨by simp [L2.start, startD, hl], fun i d e => ?_⟩
  unfold startD at e
  unfold L2.start
  by_cases hi : i < ds.length
  · rw [List.getElem?_append_left (by simpa using hi), List.getElem?_map] at e
    rw [List.getElem?_append_left (by simpa using (hl ▸ hi)), List.getElem?_map]
    cases q : ds[i]? with
    | none => rw [q] at e; cases e
    | some d' =>
      rw [q] at e
      cases e
      obtain ⟨v, h1, h2⟩ := r.get q
      exact ⟨v, by rw [h1]; rfl, h2⟩
  · rw [List.getElem?_append_right (by simpa using hi), List.getElem?_replicate] at e
    split at e <;> cases e
/-- THE RULE for a def -/
theorem FnD.of {x qual : Str} {st : Stmt} {N : List Str} {s : SF} (F : Fun K x qual st f fd) (S : FnScope N ps (defScope st)) (m : MonoS s)
    (hb : ∀ (cdv : Value) (A : Around) (outer : List PySem.Env) (s₀ : Shared) (H : Hp) (E : XK), A.guards = some [] → Room k (A.deeper (envOfC qual (defScope st) s₀.heap.objs.size f cdv)) →
      PSs (cxOf CX0 P w K mg base N qual (defScope st) f cdv A outer s₀ H E).nox (defBody st) (tzs K s)) : FnD P w K mg base (k + 1) f fd ps (bodyF ps.length N s) := by
  refine ⟨bodyF_mono m, FnG.of F S (fun vs H Q E ⟨ds, M, hl, r, _, _⟩ => by rw [← r.length]; exact hl) fun cdv A outer s₀ H vs Q E hg hr ⟨ds, M, hl, r, rs, hl2, h⟩ => ⟨_, (hb cdv A outer s₀ H E hg hr).nox, startD N ds, M, re_start r, rs, m _ _ ?_ _ _ h⟩⟩
  have fin : ∀ d M', dropK (Cont K M H Q) d M' → Cont K M H Q d M' := fun d M' ⟨M2, sb, q⟩ v H' x rs' rd => q v H' (x.sub sb) (rs'.sub sb) rd
  refine ⟨fun δ M' q σ' H' x re rs' => fin _ _ q _ H' x rs' .non, fun d M' q => fin d M' q, fun _ _ z => z.elim, fun _ _ z => z.elim⟩
end
/-- a call -/
def eCall (g : FF) (fs : AF) : EF := fun δ M Q => fs δ M fun ds M1 => g ds M1 Q
section
variable {X : Cx} {e : Expr} {es : List Expr} {fs : AF} {pos p : Pos} {x : Str}
theorem eCall_mono {g : FF} (hg : MonoF g) (h : MonoA fs) : MonoE (eCall g fs) := fun δ M Q Q' q z => h _ _ _ _ (fun _ _ z => hg _ _ _ _ q z) z
theorem ze_call {k : Nat} {f : Addr} {fd : FuncData} {ps : List Str} {g : FF} (F : FnD X.prog X.w X.K X.mg X.base k f fd ps g) (hG : X.A.guards = some []) (hr : Room k X.A) (hg : Gl X x) (hm : X.mg x = some (.ref f)) (hk : PySem.W.keepIn X.K (.ref f) = true) (hb : Binds X.K fd ps [])
    (ha : ZA X (e :: es) fs) (hl : (e :: es).length = ps.length := by rfl) (hdb : (x == ("__debug__" : Str)) = false := by decide) (he : starEach (e :: es) X.env = (false, eval e X.env) :: starEach es X.env := by rfl) (hpl : (backTo pos (starEach es X.env)).any (·.1) = false := by rfl) :
    ZE X (.Call (.Name x p) (e :: es) [] pos) (eCall g fs) := by
  refine ⟨eCall_mono F.mono ha.mono, PE.weak (pe_callG (pos := pos) (p := p) F.ok hG hr hg hm hk hb .nil (pass0) ha.pa hdb he hpl) fun σ H Q ⟨δ, M, re, rs, h⟩ => ?_⟩
  refine tza_bind ha.mono re rs (ha.len _ _ _ h) fun ds M1 vs H1 q x1 re1 rs1 r1 => ?_
  refine ⟨ds, M1, q.1.trans hl, by rw [List.append_nil]; exact r1, rs1, F.mono _ _ _ _ (fun _ _ z => Cont.mono x1 z) q.2⟩
theorem ze_call0 {k : Nat} {f : Addr} {fd : FuncData} {g : FF} (F : FnD X.prog X.w X.K X.mg X.base k f fd [] g) (hG : X.A.guards = some []) (hr : Room k X.A) (hg : Gl X x) (hm : X.mg x = some (.ref f)) (hk : PySem.W.keepIn X.K (.ref f) = true) (hb : Binds X.K fd [] [])
    (hdb : (x == ("__debug__" : Str)) = false := by decide) : ZE X (.Call (.Name x p) [] [] pos) (eCall g aNil) := by
  refine ⟨eCall_mono F.mono (za_nil (X := X)).mono, PE.weak (pe_callG0 (pos := pos) (p := p) F.ok hG hr hg hm hk hb .nil pass0 hdb) fun σ H Q ⟨δ, M, re, rs, h⟩ => ?_⟩
  exact ⟨[], M, rfl, .nil, rs, h⟩
/-! ### built-ins by values -/
abbrev BF := List D → Sto → KD → Prop
def rbz (K : PySem.W.Frag) (f : BF) : List V → Hp → VK → Prop := fun vs H Q => ∃ ds M, RDs K H ds vs ∧ RS K H M ∧ f ds M (Cont K M H Q)
structure ZB (X : Cx) (f : Value) (b : BF) : Prop where
  mono : MonoF b
  call : CallR X f (rbz X.K b)
theorem tz_call {b : BF} (mb : MonoF b) (ha : ZA X es fs) (σ : L2.St) (H : Hp) (Q : VK) (h : tz X.K (eCall b fs) σ H Q) : tCB (rbz X.K b) (tza X.K fs) σ H Q := by
  obtain ⟨δ, M, re, rs, h⟩ := h
  refine tza_bind ha.mono re rs h fun ds M1 vs H1 q x1 re1 rs1 r1 => ?_
  exact ⟨ds, M1, r1, rs1, mb _ _ _ _ (fun _ _ z => Cont.mono x1 z) q⟩
theorem ze_callB {id : String} {b : BF} (hc : ZB X (.builtin id) b) (hg : Gl X x) (hm : X.mg x = none) (hv : bootBuiltins x = some (.builtin id)) (ha : ZA X (e :: es) fs) (hn : x ≠ "__name__" := by decide) (hdb : (x == ("__debug__" : Str)) = false := by decide)
    (he : starEach (e :: es) X.env = (false, eval e X.env) :: starEach es X.env := by rfl) (hpl : (backTo pos (starEach es X.env)).any (·.1) = false := by rfl) : ZE X (.Call (.Name x p) (e :: es) [] pos) (eCall b fs) :=
  ⟨eCall_mono hc.mono ha.mono, PE.weak (pe_callB hc.call hg hm hv ha.pa hn hdb he hpl) (tz_call hc.mono ha)⟩
theorem ze_callTy {T : String} {b : BF} (hc : ZB X (.type T) b) (hg : Gl X x) (hm : X.mg x = none) (hv : bootBuiltins x = some (.type T)) (ha : ZA X (e :: es) fs) (hn : x ≠ "__name__" := by decide) (hdb : (x == ("__debug__" : Str)) = false := by decide)
    (he : starEach (e :: es) X.env = (false, eval e X.env) :: starEach es X.env := by rfl) (hpl : (backTo pos (starEach es X.env)).any (·.1) = false := by rfl) : ZE X (.Call (.Name x p) (e :: es) [] pos) (eCall b fs) :=
  ⟨eCall_mono hc.mono ha.mono, PE.weak (pe_callTy hc.call hg hm hv ha.pa hn hdb he hpl) (tz_call hc.mono ha)⟩
/-! one sequence as the argument: its items -/
/-- T(seq), by the items: r tells what is asked of the address -/
abbrev QF := List D → Sto → KD → Prop
structure ZQB (X : Cx) (f : Value) (b : QF) : Prop where
  mono : MonoF b
  call : CallR X f (fun vs H Q => ∃ a xs ds M, vs = [.ref a] ∧ (SqL X.K H a xs ∨ SqT X.K H a xs) ∧ RDs X.K H ds xs ∧ RS X.K H M ∧ b ds M (Cont X.K M H Q))
def eSeqCall (b : QF) (fq : AF) : EF := fun δ M Q => fq δ M fun ds M1 => b ds M1 Q
theorem eSeqCall_mono {b : QF} (hb : MonoF b) (h : MonoA fs) : MonoE (eSeqCall b fs) := fun δ M Q Q' q z => h _ _ _ _ (fun _ _ z => hb _ _ _ _ q z) z
theorem tz_seqCall {b : QF} (mb : MonoF b) (ha : ZQ X e fs) (σ : L2.St) (H : Hp) (Q : VK) (h : tz X.K (eSeqCall b fs) σ H Q) :
    tCB (fun vs H Q => ∃ a xs ds M, vs = [V.ref a] ∧ (SqL X.K H a xs ∨ SqT X.K H a xs) ∧ RDs X.K H ds xs ∧ RS X.K H M ∧ b ds M (Cont X.K M H Q)) (tCons (tzq X.K fs) tNil) σ H Q := by
  obtain ⟨δ, M, re, rs, h⟩ := h
  simp only [tCB, tCons, tNil]
  refine tzq_bind ha.mono re rs h fun ds M1 a xs H1 q x1 re1 rs1 e1 r1 => ?_
  exact ⟨a, xs, ds, M1, rfl, e1, r1, rs1, mb _ _ _ _ (fun _ _ z => Cont.mono x1 z) q⟩
theorem ze_seqB {id : String} {b : QF} (hc : ZQB X (.builtin id) b) (hg : Gl X x) (hm : X.mg x = none) (hv : bootBuiltins x = some (.builtin id)) (ha : ZQ X e fs) (hn : x ≠ "__name__" := by decide) (hdb : (x == ("__debug__" : Str)) = false := by decide)
    (he : starEach [e] X.env = [(false, eval e X.env)] := by rfl) : ZE X (.Call (.Name x p) [e] [] pos) (eSeqCall b fs) :=
  ⟨eSeqCall_mono hc.mono ha.mono, PE.weak (pe_callB hc.call hg hm hv (pa_cons ha.pe pa_nil he) hn hdb he rfl) (tz_seqCall hc.mono ha)⟩
theorem ze_seqTy {T : String} {b : QF} (hc : ZQB X (.type T) b) (hg : Gl X x) (hm : X.mg x = none) (hv : bootBuiltins x = some (.type T)) (ha : ZQ X e fs) (hn : x ≠ "__name__" := by decide) (hdb : (x == ("__debug__" : Str)) = false := by decide)
    (he : starEach [e] X.env = [(false, eval e X.env)] := by rfl) : ZE X (.Call (.Name x p) [e] [] pos) (eSeqCall b fs) :=
  ⟨eSeqCall_mono hc.mono ha.mono, PE.weak (pe_callTy hc.call hg hm hv (pa_cons ha.pe pa_nil he) hn hdb he rfl) (tz_seqCall hc.mono ha)⟩
/-- tuple(seq) -/
def bTuple : QF := fun ds M Q => Q (.tup ds) M
theorem zq_tuple : ZQB X (.type "tuple") bTuple := ⟨fun _ _ _ _ q h => q _ _ h, fun pins s σ H xs us Q I r ⟨a, ys, ds, M, e, hs, rd, rs, h⟩ => by
  subst e
  refine call_tuple_of pins s σ H _ us Q I r ⟨a, ys, rfl, ?_⟩
  rcases hs with hs | hs
  · exact .inl ⟨hs, fun l hl => new_tup rs rd hl h⟩
  · exact .inr ⟨hs, Cont.here rs (.tup hs rd) h⟩⟩
/-- len(seq) -/
def bLenS : QF := fun ds M Q => Q (.int ds.length) M
theorem zq_len : ZQB X (.builtin "len") bLenS := ⟨fun _ _ _ _ q h => q _ _ h, fun pins s σ H xs us Q I r ⟨a, ys, ds, M, e, hs, rd, rs, h⟩ => by
  subst e
  exact call_len_seq pins s σ H _ us Q I r ⟨a, ys, rfl, hs, by rw [← rd.length]; exact Cont.here rs (.int _) h⟩⟩
/-- list(seq): a new list -/
def lSeqCall (b : List D → Sto → KA → Prop) (fq : AF) : AF := fun δ M Q => fq δ M fun ds M1 => b ds M1 Q
theorem zl_list (hg : Gl X "list") (hm : X.mg "list" = none) (ha : ZQ X e fs) (he : starEach [e] X.env = [(false, eval e X.env)] := by rfl) : ZL X (.Call (.Name "list" p) [e] [] pos) fs := by
  refine ⟨ha.mono, PE.weak (pe_callTy call_list_of hg hm (by decide +kernel) (pa_cons ha.pe pa_nil he) (by decide) (by decide) he rfl) fun σ H Q ⟨δ, M, re, rs, h⟩ => ?_⟩
  simp only [tCB, tCons, tNil]
  refine tzq_bind ha.mono re rs h fun ds M1 a xs H1 q x1 re1 rs1 e1 r1 => ?_
  exact ⟨a, xs, rfl, e1, fun l hl => q l xs _ (x1.trans (Ext.laid0 hl)) (rs1.laid0 hl) (x1.old _ hl) upd_same (rs1.free hl) ((Ext.laid0 (K := X.K) (M := M1) hl).rds r1)⟩
end
end Z
set_option maxHeartbeats 4000000
namespace Z
open PySem PySem.Spec PyProof.Rows L2
section
variable {X : Cx} {e : Expr} {es : List Expr} {fs : AF} {fe : EF} {pos p apos cpos : Pos} {x : Str}
/-! ### built-ins -/
def bRepr : BF := fun ds M Q => match ds with
  | [d] => ∃ q, Py M d q ∧ q.showable = true ∧ q.depth ≤ 60 ∧ q.shown.length ≤ sizeLine ∧ Q (.str q.shown) M
  | _ => False
theorem Py.noDict {M : Sto} : ∀ {p : PyData}, p.plain = true → p.hasDict = false := fun {p} h => by
  have go : ∀ n, (∀ p : PyData, sizeOf p < n → p.plain = true → p.hasDict = false) ∧ ∀ ps : List PyData, sizeOf ps < n → PyData.plainAll ps = true → PyData.hasDictAll ps = false := by
    intro n
    induction n with
    | zero => exact ⟨fun _ h => absurd h (Nat.not_lt_zero _), fun _ h => absurd h (Nat.not_lt_zero _)⟩
    | succ n ih =>
      refine ⟨fun p hz hp => ?_, fun ps hz hp => ?_⟩
      · cases p with
        | list xs => simp only [PyData.plain] at hp; simp only [PyData.hasDict]; exact ih.2 xs (by simp at hz; omega) hp
        | tuple xs => simp only [PyData.plain] at hp; simp only [PyData.hasDict]; exact ih.2 xs (by simp at hz; omega) hp
        | dict kvs => simp [PyData.plain] at hp
        | _ => simp [PyData.hasDict]
      · cases ps with
        | nil => simp [PyData.hasDictAll]
        | cons q r =>
          simp only [PyData.plainAll, Bool.and_eq_true] at hp
          simp only [PyData.hasDictAll, Bool.or_eq_false_iff]
          exact ⟨ih.1 q (by simp at hz; omega) hp.1, ih.2 r (by simp at hz; omega) hp.2⟩
  exact (go (sizeOf p + 1)).1 p (Nat.lt_succ_self _) h
theorem bRepr_mono : MonoF bRepr := fun ds M Q Q' q h => by
  rcases ds with _ | ⟨d, _ | ⟨d', r⟩⟩
  · exact (h : False).elim
  · obtain ⟨p, h1, h2, h3, h4, h5⟩ := h; exact ⟨p, h1, h2, h3, h4, q _ _ h5⟩
  · exact (h : False).elim
theorem one_val {d : D} {K : PySem.W.Frag} {H : Hp} {vs : List V} {us : List Value} (r : RDs K H [d] vs) (rv : Vals vs us) : ∃ v u, vs = [v] ∧ us = [u] ∧ RD K H d v ∧ RelV v u := by
  cases r with
  | cons a b =>
    cases b
    obtain ⟨u, rfl, ru⟩ := Vals.one rv
    exact ⟨_, u, rfl, rfl, a, ru⟩
theorem zb_repr (hg : X.A.guards = some []) (hu : X.A.units + 64 < cLine) : ZB X (.builtin "repr") bRepr := ⟨bRepr_mono, fun pins s σ H xs us Q I r ⟨ds, M, rd, rs, h⟩ => by
  rcases ds with _ | ⟨d, _ | ⟨d', r'⟩⟩ <;> first | exact (h : False).elim | skip
  obtain ⟨v, u, rfl, rfl, r1, ru⟩ := one_val rd r
  obtain ⟨p, h1, h2, h3, h4, h5⟩ := h
  obtain ⟨as, rr⟩ := h1.reads I rs r1 ru
  have fin : ∀ h' t tk, (∀ b o, s.heap.get? b = some o → h'.get? b = some o) → EP X pins σ Q (.str p.shown t) { s with heap := h', toks := tk } := fun h' t tk hk => ⟨.str p.shown, H, I.kept hk, ⟨_, rfl⟩, Cont.here rs (.str _) h5⟩
  have tk0 : ∀ b o, s.heap.get? b = some o → s.heap.get? b = some o := fun _ _ z => z
  cases rr with
  | none => exact PySem.P.repr_of_none (fin s.heap _ _ tk0)
  | bool b => exact PySem.P.repr_of_bool (by simpa only [PyData.shown] using fin s.heap _ _ tk0)
  | int i t => exact PySem.P.repr_of_int (by simpa [PyData.showable] using h2) (by simpa only [PyData.shown] using fin s.heap _ _ tk0)
  | str y t => exact PySem.P.repr_of_str (by simpa only [PyData.shown] using fin s.heap _ _ tk0) (by simpa only [PyData.shown] using h4)
  | list a b c d => exact repr_of_reads' (.list a b c d) h2 (PyData.noDict_hsm (Py.noDict (M := M) h1.plain)) hg (by omega) tk0 (fun h' t tk hk => fin h' t tk hk) h4
  | tuple a b c d => exact repr_of_reads' (.tuple a b c d) h2 (PyData.noDict_hsm (Py.noDict (M := M) h1.plain)) hg (by omega) tk0 (fun h' t tk hk => fin h' t tk hk) h4
  | dict a b c d e => exact absurd h1.plain (by simp [PyData.plain])⟩
def bInt : BF := fun ds M Q => match ds with
  | [.int i] => Q (.int i) M
  | [.bl b] => Q (.int (if b then 1 else 0)) M
  | _ => False
theorem bInt_mono : MonoF bInt := fun ds M Q Q' q h => by
  rcases ds with _ | ⟨d, _ | ⟨d', r⟩⟩ <;> first | exact (h : False).elim | skip
  · cases d <;> first | exact (h : False).elim | exact q _ _ h
  · cases d <;> exact (h : False).elim
theorem zb_int : ZB X (.type "int") bInt := ⟨bInt_mono, fun pins s σ H xs us Q I r ⟨ds, M, rd, rs, h⟩ => by
  rcases ds with _ | ⟨d, _ | ⟨d', r'⟩⟩ <;> first | exact (h : False).elim | skip
  · cases rd with
    | cons a b =>
      cases b
      cases d <;> first | exact (h : False).elim | skip
      · cases a; exact call_int1 pins s σ H _ us Q I r (.inr ⟨_, rfl, Cont.here rs (.int _) h⟩)
      · cases a; exact call_int1 pins s σ H _ us Q I r (.inl ⟨_, rfl, Cont.here rs (.int _) h⟩)
  · cases d <;> exact (h : False).elim⟩
def bAbs : BF := fun ds M Q => match ds with
  | [.int i] => Q (.int (if i < 0 then -i else i)) M
  | _ => False
theorem bAbs_mono : MonoF bAbs := fun ds M Q Q' q h => by
  rcases ds with _ | ⟨d, _ | ⟨d', r⟩⟩ <;> first | exact (h : False).elim | skip
  · cases d <;> first | exact (h : False).elim | exact q _ _ h
  · cases d <;> exact (h : False).elim
theorem zb_abs : ZB X (.builtin "abs") bAbs := ⟨bAbs_mono, fun pins s σ H xs us Q I r ⟨ds, M, rd, rs, h⟩ => by
  rcases ds with _ | ⟨d, _ | ⟨d', r'⟩⟩ <;> first | exact (h : False).elim | skip
  · cases rd with
    | cons a b =>
      cases b
      cases d <;> first | exact (h : False).elim | skip
      cases a; exact call_abs pins s σ H _ us Q I r ⟨_, rfl, Cont.here rs (.int _) h⟩
  · cases d <;> exact (h : False).elim⟩
/-- min(i, j), max(i, j) -/
def b2 (f : Int → Int → Int) : BF := fun ds M Q => match ds with
  | [.int i, .int j] => Q (.int (f i j)) M
  | _ => False
theorem b2_mono {f} : MonoF (b2 f) := fun ds M Q Q' q h => by
  rcases ds with _ | ⟨d, _ | ⟨d', _ | ⟨d'', r⟩⟩⟩ <;> first | exact (h : False).elim | skip
  · cases d <;> exact (h : False).elim
  · cases d <;> cases d' <;> first | exact (h : False).elim | exact q _ _ h
  · cases d <;> cases d' <;> exact (h : False).elim
theorem b2_of {f} {ds : List D} {M : Sto} {Q : KD} (h : b2 f ds M Q) : ∃ i j, ds = [.int i, .int j] ∧ Q (.int (f i j)) M := by
  rcases ds with _ | ⟨d, _ | ⟨d', _ | ⟨d'', r⟩⟩⟩ <;> first | exact (h : False).elim | skip
  · cases d <;> exact (h : False).elim
  · cases d <;> cases d' <;> first | exact (h : False).elim | exact ⟨_, _, rfl, h⟩
  · cases d <;> cases d' <;> exact (h : False).elim
theorem zb_min2 (hc : X.calm = true) : ZB X (.builtin "min") (b2 fun i j => if j < i then j else i) := ⟨b2_mono, fun pins s σ H xs us Q I r ⟨ds, M, rd, rs, h⟩ => by
  obtain ⟨i, j, rfl, h⟩ := b2_of h
  cases rd with
  | cons a b =>
    cases b with
    | cons a' b' => cases a; cases a'; cases b'; exact call_min2 hc pins s σ H _ us Q I r ⟨_, _, rfl, Cont.here rs (.int _) h⟩⟩
theorem zb_max2 (hc : X.calm = true) : ZB X (.builtin "max") (b2 fun i j => if j > i then j else i) := ⟨b2_mono, fun pins s σ H xs us Q I r ⟨ds, M, rd, rs, h⟩ => by
  obtain ⟨i, j, rfl, h⟩ := b2_of h
  cases rd with
  | cons a b =>
    cases b with
    | cons a' b' => cases a; cases a'; cases b'; exact call_max2 hc pins s σ H _ us Q I r ⟨_, _, rfl, Cont.here rs (.int _) h⟩⟩
/-- isinstance(v, T) of data -/
def bIsa (f : PyData → Bool) : BF := fun ds M Q => match ds with
  | [d] => ∃ q, Py M d q ∧ Q (.bl (f q)) M
  | _ => False
theorem bIsa_mono {f} : MonoF (bIsa f) := fun ds M Q Q' q h => by
  rcases ds with _ | ⟨d, _ | ⟨d', r⟩⟩ <;> first | exact (h : False).elim | skip
  obtain ⟨p, h1, h5⟩ := h; exact ⟨p, h1, q _ _ h5⟩
def eIsa (f : PyData → Bool) (fe : EF) : EF := fun δ M Q => fe δ M fun d M1 => ∃ q, Py M1 d q ∧ Q (.bl (f q)) M1
theorem ze_isa {T : String} {f : PyData → Bool} {pt : Pos} {y : Str} (hT : ∀ {prog : Program} {w : World} {A : Around} {E : Value → Shared → Prop} {s : Shared} {v : Value} {d : PyData} {as : List Addr} {Q : Value → Shared → Prop}, Reads s.heap v d as →
      (∀ tk, s.toks ≤ tk → Q (.bool (f d)) { s with toks := tk }) → wpAny (model prog w) A (call (.builtin "isinstance") [v, .type T]) Q E s)
    (hg : Gl X "isinstance") (hm : X.mg "isinstance" = none) (hgy : Gl X y) (hmy : X.mg y = none) (hby : bootBuiltins y = some (.type T)) (ha : ZE X e fe)
    (hny : y ≠ "__name__" := by decide) (hdy : (y == ("__debug__" : Str)) = false := by decide)
    (he : starEach [e, .Name y pt] X.env = (false, eval e X.env) :: starEach [.Name y pt] X.env := by rfl) (he2 : starEach [.Name y pt] X.env = (false, eval (.Name y pt) X.env) :: starEach [] X.env := by rfl) (hpl : (backTo pos (starEach [.Name y pt] X.env)).any (·.1) = false := by rfl) :
    ZE X (.Call (.Name "isinstance" p) [e, .Name y pt] [] pos) (eIsa f fe) := by
  refine ⟨fun δ M Q Q' q h => ha.mono _ _ _ _ (fun d M1 ⟨z, h1, h2⟩ => ⟨z, h1, q _ _ h2⟩) h, ?_⟩
  have hc : CallR X (.builtin "isinstance") (fun vs H Q => ∃ v d M z, vs = [v, .ty T] ∧ RD X.K H d v ∧ RS X.K H M ∧ Py M d z ∧ Q (.bl (f z)) H) := by
    rintro pins s σ H xs us Q I r ⟨v, d, M, z, rfl, rd, rs, h1, h2⟩
    obtain ⟨u, u', rfl, ru, ru'⟩ := Vals.two r
    cases ru'
    obtain ⟨as, rr⟩ := h1.reads I rs rd ru
    exact hT rr fun tk _ => ⟨.bl (f z), H, I.tok _, rfl, h2⟩
  refine PE.weak (pe_callB hc hg hm (by decide +kernel) (pa_cons ha.pe (pa_cons (pe_bltn (v := .ty T) hgy hmy hby rfl hny hdy) pa_nil he2) he) (by decide) (by decide) he hpl) fun σ H Q ⟨δ, M, re, rs, h⟩ => ?_
  simp only [tCB, tCons, tNil, tC]
  exact tz_bind ha.mono re rs h fun d M1 v H1 ⟨z, h1, h2⟩ x1 re1 rs1 r1 => ⟨v, d, M1, z, rfl, r1, rs1, h1, h2 _ H1 x1 rs1 (.bl _)⟩
/-! ### methods of built-in types -/
abbrev MF := D → List D → Sto → KD → Prop
structure ZM (X : Cx) (T id : String) (m : MF) : Prop where
  mono : ∀ d, MonoF (m d)
  ty : ∀ {d ds M Q}, m d ds M Q → ∃ a, d = .ref a
  mt : MtR X id (fun v vs H Q => ∃ d ds M, RD X.K H d v ∧ RDs X.K H ds vs ∧ RS X.K H M ∧ m d ds M (Cont X.K M H Q))
/-- xs.m(..), xs a list -/
def eLM (m : MF) (fo : EF) (fs : AF) : EF := fun δ M Q => fo δ M fun d M1 => (match d with | .ref a => ∃ ds, M1 a = some (.lst ds) | _ => False) ∧ fs δ M1 fun ds M2 => m d ds M2 Q
theorem ze_lm {T id : String} {m : MF} {o : Expr} {fo : EF} {name : Str} (hT : T = "list") (pa : PlainAttrs T) (slot : Slot T name id) (hty : typeOf (.builtin id) = pure (.type "method_descriptor")) (hm : ZM X T id m) (ho : ZE X o fo) (ha : ZA X (e :: es) fs)
    (hbase : attributeBase o name X.env (eval o X.env) = eval o X.env := by rfl)
    (hfew : ((backTo cpos (starEach (e :: es) X.env)).all (fun x => !x.1) && (backToKw cpos (keywordEach [] X.env)).all (fun x => x.1.isSome)
      && decide ((e :: es).length + ([] : List Keyword).length + (if ([] : List Keyword).isEmpty then 0 else 1) < 30)) = true := by rfl)
    (hline : (apos.endLine == cpos.line) = true := by rfl) (hs : starEach (e :: es) X.env = (false, eval e X.env) :: starEach es X.env := by rfl) (hplain : (backTo cpos (starEach es X.env)).any (·.1) = false := by rfl) :
    ZE X (.Call (.Attribute o name apos) (e :: es) [] cpos) (eLM m fo fs) := by
  refine ⟨fun δ M Q Q' q h => ho.mono _ _ _ _ (fun d M1 h => ⟨h.1, ha.mono _ _ _ _ (fun _ _ h => hm.mono _ _ _ _ _ q h) h.2⟩) h, PE.weak (pe_bm pa slot hty hm.mt ho.pe ha.pa hbase hfew hline hs hplain) fun σ H Q ⟨δ, M, re, rs, h⟩ => ?_⟩
  refine tz_bind ho.mono re rs h fun d M1 v H1 ⟨h1, h2⟩ x1 re1 rs1 r1 => ?_
  cases d <;> first | exact (h1 : False).elim | skip
  cases r1
  obtain ⟨ds, e1⟩ := h1
  obtain ⟨xs, q, z⟩ := rs1 _ _ e1
  refine ⟨.inl ⟨hT, _, SqL.of q⟩, tza_bind ha.mono re1 rs1 h2 fun ds M2 vs H2 p x2 re2 rs2 r2 => ?_⟩
  exact ⟨_, ds, M2, .ref _, r2, rs2, hm.mono _ _ _ _ _ (fun _ _ z => Cont.mono (x1.trans x2) z) p⟩
theorem ze_lm0 {T id : String} {m : MF} {o : Expr} {fo : EF} {name : Str} (hT : T = "list") (pa : PlainAttrs T) (slot : Slot T name id) (hty : typeOf (.builtin id) = pure (.type "method_descriptor")) (hm : ZM X T id m) (ho : ZE X o fo)
    (hbase : attributeBase o name X.env (eval o X.env) = eval o X.env := by rfl) (hline : (apos.endLine == cpos.line) = true := by rfl) : ZE X (.Call (.Attribute o name apos) [] [] cpos) (eLM m fo aNil) := by
  refine ⟨fun δ M Q Q' q h => ho.mono _ _ _ _ (fun d M1 h => ⟨h.1, hm.mono _ _ _ _ _ q h.2⟩) h, PE.weak (pe_bm0 pa slot hty hm.mt ho.pe hbase hline) fun σ H Q ⟨δ, M, re, rs, h⟩ => ?_⟩
  refine tz_bind ho.mono re rs h fun d M1 v H1 ⟨h1, h2⟩ x1 re1 rs1 r1 => ?_
  cases d <;> first | exact (h1 : False).elim | skip
  cases r1
  obtain ⟨ds, e1⟩ := h1
  obtain ⟨xs, q, z⟩ := rs1 _ _ e1
  exact ⟨.inl ⟨hT, _, SqL.of q⟩, _, [], M1, .ref _, .nil, rs1, hm.mono _ _ _ _ _ (fun _ _ z => Cont.mono x1 z) h2⟩
/-- xs.append(d) -/
def mAppend : MF := fun o ds M Q => ∃ a ys d, o = .ref a ∧ ds = [d] ∧ M a = some (.lst ys) ∧ ys.length < sizeLine ∧ Q .non (put M a (.lst (ys ++ [d])))
theorem set_told {K : PySem.W.Frag} {M : Sto} {H : Hp} {a : Addr} {ys ys' : List D} {xs' : List V} {Q : VK} {d : D} {v : V} (rs : RS K H M) (e : M a = some (.lst ys)) (r : RDs K H ys' xs') (rd : RD K H d v) (h : Cont K M H Q d (put M a (.lst ys'))) : Q v (upd H a (.lst xs')) := by
  obtain ⟨xs, q, z⟩ := rs _ _ e
  have x : Ext K M (put M a (.lst ys')) H (upd H a (.lst xs')) := Ext.write (by rw [q]; trivial) e
  exact h v _ x (rs.write e ⟨xs', upd_same, x.rds r⟩) (x.rd rd)
theorem zm_append : ZM X "list" "list.append" mAppend := ⟨fun d ds M Q Q' q ⟨a, ys, d', h1, h2, h3, h4, h5⟩ => ⟨a, ys, d', h1, h2, h3, h4, q _ _ h5⟩, fun ⟨a, _, _, h, _⟩ => ⟨a, h⟩, fun pins s σ H v vs u us Q I r1 r2 ⟨d, ds, M, rd, rds, rs, a, ys, d', e1, e2, e3, e4, h⟩ => by
  subst e1 e2
  cases rd
  obtain ⟨xs, q, z⟩ := rs _ _ e3
  cases rds with
  | cons ra rb =>
    cases rb
    exact mt_append pins s σ H _ _ u us Q I r1 r2 ⟨a, xs, _, rfl, rfl, q, by rw [← z.length]; exact e4, set_told rs e3 (z.snoc ra) .non h⟩⟩
/-- xs.pop() -/
def mPop : MF := fun o ds M Q => ∃ a ys d, o = .ref a ∧ ds = [] ∧ M a = some (.lst ys) ∧ ys[ys.length - 1]? = some d ∧ Q d (put M a (.lst ys.dropLast))
theorem zm_pop : ZM X "list" "list.pop" mPop := ⟨fun d ds M Q Q' q ⟨a, ys, d', h1, h2, h3, h4, h5⟩ => ⟨a, ys, d', h1, h2, h3, h4, q _ _ h5⟩, fun ⟨a, _, _, h, _⟩ => ⟨a, h⟩, fun pins s σ H v vs u us Q I r1 r2 ⟨d, ds, M, rd, rds, rs, a, ys, d', e1, e2, e3, e4, h⟩ => by
  subst e1 e2
  cases rd
  cases rds
  obtain ⟨xs, q, z⟩ := rs _ _ e3
  obtain ⟨w, hw, rw'⟩ := z.get e4
  exact mt_pop pins s σ H _ _ u us Q I r1 r2 ⟨a, xs, w, rfl, rfl, q, by rw [← z.length]; exact hw, set_told rs e3 z.dropLast rw' h⟩⟩
/-- xs.pop(i) -/
def mPopAt : MF := fun o ds M Q => ∃ a ys d i k, o = .ref a ∧ ds = [.int i] ∧ M a = some (.lst ys) ∧ (-(2 ^ 63) ≤ i ∧ i < 2 ^ 63) ∧ seqIndex? i ys.length = some k ∧ ys[k]? = some d ∧ Q d (put M a (.lst (ys.eraseIdx k)))
theorem RDs.eraseIdx {K : PySem.W.Frag} {H : Hp} : ∀ {xs : List D} {us : List V} (i : Nat), RDs K H xs us → RDs K H (xs.eraseIdx i) (us.eraseIdx i)
  | _, _, _, .nil => .nil
  | _, _, 0, .cons _ t => t
  | _, _, i + 1, .cons r t => .cons r (RDs.eraseIdx i t)
theorem zm_popAt : ZM X "list" "list.pop" mPopAt := ⟨fun d ds M Q Q' q ⟨a, ys, d', i, k, h1, h2, h3, h4, h5, h6, h7⟩ => ⟨a, ys, d', i, k, h1, h2, h3, h4, h5, h6, q _ _ h7⟩, fun ⟨a, _, _, _, _, h, _⟩ => ⟨a, h⟩, fun pins s σ H v vs u us Q I r1 r2 ⟨d, ds, M, rd, rds, rs, a, ys, d', i, k, e1, e2, e3, e4, e5, e6, h⟩ => by
  subst e1 e2
  cases rd
  cases rds with
  | cons ra rb =>
    cases ra; cases rb
    obtain ⟨xs, q, z⟩ := rs _ _ e3
    obtain ⟨w, hw, rw'⟩ := z.get e6
    exact mt_popAt pins s σ H _ _ u us Q I r1 r2 ⟨a, xs, i, k, w, rfl, rfl, q, e4.1, e4.2, by rw [← z.length]; exact e5, hw, set_told rs e3 (z.eraseIdx k) rw' h⟩⟩
/-- xs.extend(new list) -/
def eExtend (fo : EF) (fl : AF) : EF := fun δ M Q => fo δ M fun d M1 => (match d with | .ref a => ∃ ds, M1 a = some (.lst ds) | _ => False) ∧ fl δ M1 fun zs M2 => ∃ a ys, d = .ref a ∧ M2 a = some (.lst ys) ∧ ys.length + zs.length ≤ sizeLine ∧ Q .non (put M2 a (.lst (ys ++ zs)))
theorem ze_extend {o : Expr} {fo : EF} (ho : ZE X o fo) (ha : ZL X e fs) (hbase : attributeBase o "extend" X.env (eval o X.env) = eval o X.env := by rfl)
    (hfew : ((backTo cpos (starEach [e] X.env)).all (fun x => !x.1) && (backToKw cpos (keywordEach [] X.env)).all (fun x => x.1.isSome)
      && decide ([e].length + ([] : List Keyword).length + (if ([] : List Keyword).isEmpty then 0 else 1) < 30)) = true := by rfl)
    (hline : (apos.endLine == cpos.line) = true := by rfl) (hs : starEach [e] X.env = (false, eval e X.env) :: starEach [] X.env := by rfl) :
    ZE X (.Call (.Attribute o "extend" apos) [e] [] cpos) (eExtend fo fs) := by
  refine ⟨fun δ M Q Q' q h => ho.mono _ _ _ _ (fun d M1 h => ⟨h.1, ha.mono _ _ _ _ (fun _ _ ⟨a, ys, h1, h2, h3, h4⟩ => ⟨a, ys, h1, h2, h3, q _ _ h4⟩) h.2⟩) h,
    PE.weak (pe_bm PySem.F.plainAttrs_list PySem.F.slot_list_extend PySem.F.type_list_extend mt_extend ho.pe (pa_cons ha.pe pa_nil hs) hbase hfew hline hs rfl) fun σ H Q ⟨δ, M, re, rs, h⟩ => ?_⟩
  refine tz_bind ho.mono re rs h fun d M1 v H1 ⟨h1, h2⟩ x1 re1 rs1 r1 => ?_
  cases d <;> first | exact (h1 : False).elim | skip
  cases r1
  obtain ⟨ds, e1⟩ := h1
  obtain ⟨xs, q, z⟩ := rs1 _ _ e1
  refine ⟨.inl ⟨rfl, _, SqL.of q⟩, ?_⟩
  simp only [tCons, tNil]
  refine tzf_bind ha.mono re1 rs1 h2 fun zs M2 b zv H2 ⟨a', ys, e2, e3, hz, p⟩ x2 re2 rs2 hn e4 n4 r4 => ?_
  cases e2
  obtain ⟨ws, q2, z2⟩ := rs2 _ _ e3
  exact ⟨_, b, ws, zv, rfl, rfl, q2, e4, by rw [← z2.length, ← r4.length]; exact hz, set_told rs2 e3 (z2.append r4) .non (fun v H' x' => p v H' ((x1.trans x2).trans x'))⟩
end
end Z
set_option maxHeartbeats 4000000
namespace Z
open PySem PySem.Spec PyProof.Rows L2
section
variable {X : Cx} {e : Expr} {es : List Expr} {fs : AF} {fe fo : EF} {pos p : Pos} {x : Str}
/-! ### lists that are read -/
def tzl (K : PySem.W.Frag) (f : AF) : TE := fun σ H Q => ∃ δ M, RE K H σ δ ∧ RS K H M ∧ f δ M fun ds M' => ∀ a xs H', Ext K M M' H H' → RS K H' M' → SqL K H' a xs → RDs K H' ds xs → Q (.ref a) H'
structure ZK (X : Cx) (e : Expr) (f : AF) : Prop where
  mono : MonoA f
  pe : PE X e (tzl X.K f)
theorem tzl_bind {K : PySem.W.Frag} {M : Sto} {H : Hp} {σ : L2.St} {δ : DE} {f : AF} (mo : MonoA f) (re : RE K H σ δ) (rs : RS K H M) {P : KA} {Q : VK} (hf : f δ M P)
    (k : ∀ ds M1 a xs H1, P ds M1 → Ext K M M1 H H1 → RE K H1 σ δ → RS K H1 M1 → SqL K H1 a xs → RDs K H1 ds xs → Q (.ref a) H1) : tzl K f σ H Q :=
  ⟨δ, M, re, rs, mo _ _ _ _ (fun d M1 p a xs H1 x r1 e r2 => k d M1 a xs H1 p x (x.re re) r1 e r2) hf⟩
theorem zk_new (h : ZL X e fs) : ZK X e fs := by
  refine ⟨h.mono, PE.weak h.pe fun σ H Q ⟨δ, M, re, rs, g⟩ => ?_⟩
  exact tzf_bind h.mono re rs g fun ds M1 a xs H1 p x1 re1 rs1 hn e1 n1 r1 => p a xs H1 x1 rs1 (SqL.of e1) r1
def kOf (fe : EF) : AF := fun δ M Q => fe δ M fun d M1 => match d with
  | .scr ys => Q ys M1
  | .ref a => ∃ ys, M1 a = some (.lst ys) ∧ Q ys M1
  | _ => False
theorem kOf_mono (h : MonoE fe) : MonoA (kOf fe) := fun δ M Q Q' q g => h _ _ _ _ (fun d _ h1 => by
  cases d <;> first
    | exact (h1 : False).elim
    | exact q _ _ h1
    | (obtain ⟨ys, e, h1⟩ := h1; exact ⟨ys, e, q _ _ h1⟩)) g
theorem zk_of (h : ZE X e fe) : ZK X e (kOf fe) := by
  refine ⟨kOf_mono h.mono, PE.weak h.pe fun σ H Q ⟨δ, M, re, rs, g⟩ => ?_⟩
  refine tz_bind h.mono re rs g fun d M1 v H1 p x1 re1 rs1 r1 => ?_
  cases d <;> first | exact (p : False).elim | skip
  · cases r1
    obtain ⟨ys, e1, p⟩ := p
    obtain ⟨xs, q, z⟩ := rs1 _ _ e1
    exact p _ _ H1 x1 rs1 (SqL.of q) z
  · cases r1 with | scr t1 q1 => exact p _ _ H1 x1 rs1 t1.sq q1
/-! xs[::-1] -/
def aRev (fs : AF) : AF := fun δ M Q => fs δ M fun ds M1 => Q ds.reverse M1
theorem aRev_mono (h : MonoA fs) : MonoA (aRev fs) := fun δ M Q Q' q g => h _ _ _ _ (fun _ _ z => q _ _ z) g
theorem zl_rev {k : Nat} {p1 p2 p3 : Pos} (h : ZK X e fs) : ZL X (.Subscript e (.Slice none none (some (.UnaryOp .USub (.Constant (.int 1) k p1) p2)) p3) pos) (aRev fs) := by
  refine ⟨aRev_mono h.mono, PE.weak (pe_revL h.pe) fun σ H Q ⟨δ, M, re, rs, g⟩ => ?_⟩
  refine tzl_bind h.mono re rs g fun ds M1 a xs H1 p x1 re1 rs1 e1 r1 => ⟨a, xs, rfl, e1, fun t ht => ?_⟩
  exact p t _ _ (x1.trans (Ext.laid0 ht)) (rs1.laid0 ht) (x1.old _ ht) upd_same (rs1.free ht) ((Ext.laid0 (K := X.K) (M := M1) ht).rds r1.reverse)
/-! slices -/
def OFz := DE → Sto → (Option Int → Sto → Prop) → Prop
def tzo (K : PySem.W.Frag) (f : OFz) : TO := fun σ H Q => ∃ δ M, RE K H σ δ ∧ RS K H M ∧ f δ M fun o M' => ∀ H', Ext K M M' H H' → RS K H' M' → Q o H'
structure ZOp (X : Cx) (e : Option Expr) (f : OFz) : Prop where
  mono : ∀ δ M (Q Q' : Option Int → Sto → Prop), (∀ d M', Q d M' → Q' d M') → f δ M Q → f δ M Q'
  po : PO X e (tzo X.K f)
theorem PO.weak {e : Option Expr} {t t' : TO} (h : PO X e t) (w : ∀ σ H Q, t' σ H Q → t σ H Q) : PO X e t' := ⟨fun pins s σ H Q I q => h.run pins s σ H Q I (w _ _ _ q)⟩
def oNone : OFz := fun _ M Q => Q none M
theorem zo_none : ZOp X none oNone := ⟨fun _ _ _ _ q h => q _ _ h, PO.weak po_none fun σ H Q ⟨δ, M, re, rs, h⟩ => h H (Ext.refl _ _ _) rs⟩
def oSome (fe : EF) : OFz := fun δ M Q => fe δ M fun d M1 => match d with | .int i => Q (some i) M1 | _ => False
theorem zo_some (h : ZE X e fe) : ZOp X (some e) (oSome fe) := ⟨fun δ M Q Q' q g => h.mono _ _ _ _ (fun d _ z => by cases d <;> first | exact (z : False).elim | exact q _ _ z) g, PO.weak (po_some h.pe) fun σ H Q ⟨δ, M, re, rs, h'⟩ => by
  refine tz_bind h.mono re rs h' fun d M1 v H1 p x1 re1 rs1 r1 => ?_
  cases d <;> first | exact (p : False).elim | skip
  cases r1
  exact ⟨_, rfl, p H1 x1 rs1⟩⟩
def cutD (xs : List D) (lo hi : Option Int) : List D := (xs.drop (HT.sIx xs.length 0 lo)).take (HT.sIx xs.length xs.length hi - HT.sIx xs.length 0 lo)
theorem RDs.cut {K : PySem.W.Frag} {H : Hp} {ds : List D} {vs : List V} {lo hi : Option Int} (r : RDs K H ds vs) : RDs K H (cutD ds lo hi) (cutV vs lo hi) := by
  unfold cutD cutV
  rw [r.length]
  exact (r.drop _).take _
/-- t[lo:hi] of a tuple -/
def eCutT (fe : EF) (l u : OFz) : EF := fun δ M Q => fe δ M fun d M1 => l δ M1 fun lo M2 => u δ M2 fun hi M3 => match d with
  | .tup ds => Q (.tup (cutD ds lo hi)) M3
  | _ => False
theorem sIx_whole {xs : List D} {lo hi : Option Int} (h1 : HT.sIx xs.length 0 lo = 0) (h2 : HT.sIx xs.length xs.length hi = xs.length) : cutD xs lo hi = xs := by
  unfold cutD; rw [h1, h2]; simp
theorem tzo_bind {K : PySem.W.Frag} {M : Sto} {H : Hp} {σ : L2.St} {δ : DE} {f : OFz} (mo : ∀ δ M (Q Q' : Option Int → Sto → Prop), (∀ d M', Q d M' → Q' d M') → f δ M Q → f δ M Q') (re : RE K H σ δ) (rs : RS K H M) {P : Option Int → Sto → Prop} {Q : Option Int → Hp → Prop} (hf : f δ M P)
    (k : ∀ o M1 H1, P o M1 → Ext K M M1 H H1 → RE K H1 σ δ → RS K H1 M1 → Q o H1) : tzo K f σ H Q :=
  ⟨δ, M, re, rs, mo _ _ _ _ (fun d M1 p H1 x r1 => k d M1 H1 p x (x.re re) r1) hf⟩
theorem ze_cutT {lo hi : Option Expr} {l u : OFz} {p2 : Pos} (he : ZE X e fe) (hl : ZOp X lo l) (hu : ZOp X hi u) : ZE X (.Subscript e (.Slice lo hi none p2) pos) (eCutT fe l u) := by
  refine ⟨fun δ M Q Q' q g => he.mono _ _ _ _ (fun d _ z => hl.mono _ _ _ _ (fun o _ z => hu.mono _ _ _ _ (fun o _ z => by cases d <;> first | exact (z : False).elim | exact q _ _ z) z) z) g,
    PE.weak (pe_slice sl_tupA he.pe hl.po hu.po) fun σ H Q ⟨δ, M, re, rs, h⟩ => ?_⟩
  refine tz_bind he.mono re rs h fun d M1 v H1 p1 x1 re1 rs1 r1 => ?_
  refine tzo_bind hl.mono re1 rs1 p1 fun lo M2 H2 p2 x2 re2 rs2 => ?_
  refine tzo_bind hu.mono re2 rs2 p2 fun hi M3 H3 p3 x3 re3 rs3 => ?_
  cases d <;> first | exact (p3 : False).elim | skip
  have xx := (x1.trans x2).trans x3
  cases r1 with
  | tup t1 q1 =>
    have t3 := (x2.trans x3).tup _ _ t1
    have q3 := (x2.trans x3).rds q1
    have hl := q3.length
    refine ⟨_, _, rfl, t3, fun ⟨w1, w2⟩ => ?_, fun _ p hp => ?_⟩
    · have e := sIx_whole (xs := _) (by rw [hl]; exact w1) (by rw [hl]; exact w2)
      have p4 : Cont X.K M H Q (.tup (cutD _ lo hi)) M3 := p3
      rw [e] at p4
      exact p4 _ H3 xx rs3 (.tup t3 q3)
    · exact new_tup rs3 q3.cut hp (p3.mono xx)
/-- xs[lo:hi] of a list: a new list -/
def aCutL (fs : AF) (l u : OFz) : AF := fun δ M Q => fs δ M fun ds M1 => l δ M1 fun lo M2 => u δ M2 fun hi M3 => Q (cutD ds lo hi) M3
/-! ### dicts -/
abbrev PFz := DE → Sto → (List (D × D) → Sto → Prop) → Prop
inductive RPs (K : PySem.W.Frag) (H : Hp) : List (D × D) → List (V × V) → Prop where
  | nil : RPs K H [] []
  | cons {d d' : D} {v v' : V} {ds : List (D × D)} {vs : List (V × V)} : RD K H d v → RD K H d' v' → RPs K H ds vs → RPs K H ((d, d') :: ds) ((v, v') :: vs)
structure ZPs (X : Cx) (pos : Pos) (keys : List (Option Expr)) (values : List Expr) (f : PFz) : Prop where
  mono : ∀ δ M (Q Q' : List (D × D) → Sto → Prop), (∀ d M', Q d M' → Q' d M') → f δ M Q → f δ M Q'
  ps : ∃ trs, PPs X pos keys values trs ∧ ∀ σ H δ M (P : List (V × V) → Hp → Prop), RE X.K H σ δ → RS X.K H M → f δ M (fun ds M' => ∀ vs H', Ext X.K M M' H H' → RS X.K H' M' → RPs X.K H' ds vs → P vs H') → tPairs trs σ H P
def pNil : PFz := fun _ M Q => Q [] M
def pCons (fk fv : EF) (r : PFz) : PFz := fun δ M Q => fk δ M fun k M1 => fv δ M1 fun v M2 => r δ M2 fun ps M3 => Q ((k, v) :: ps) M3
theorem zps_nil : ZPs X pos [] [] pNil := ⟨fun _ _ _ _ q h => q _ _ h, [], pps_nil, fun σ H δ M P re rs h => h [] H (Ext.refl _ _ _) rs .nil⟩
theorem zps_cons {k v : Expr} {ks : List (Option Expr)} {vs : List Expr} {fk fv : EF} {r : PFz} (hk : ZE X k fk) (hv : ZE X v fv) (hr : ZPs X pos ks vs r) : ZPs X pos (some k :: ks) (v :: vs) (pCons fk fv r) := by
  obtain ⟨m, trs, h1, h2⟩ := hr
  refine ⟨fun δ M Q Q' q h => hk.mono _ _ _ _ (fun _ _ h => hv.mono _ _ _ _ (fun _ _ h => m _ _ _ _ (fun _ _ z => q _ _ z) h) h) h, (tz X.K fk, tz X.K fv) :: trs, pps_cons hk.pe hv.pe h1, fun σ H δ M P re rs h => ?_⟩
  refine tz_bind hk.mono re rs h fun d M1 v H1 p1 x1 re1 rs1 r1 => ?_
  refine tz_bind hv.mono re1 rs1 p1 fun d' M2 v' H2 p2 x2 re2 rs2 r2 => ?_
  refine h2 _ _ _ _ _ re2 rs2 (m _ _ _ _ (fun ds M3 q vs H3 x3 rs3 r3 => ?_) p2)
  exact q _ H3 ((x1.trans x2).trans x3) rs3 (.cons ((x2.trans x3).rd r1) (x3.rd r2) r3)
def mergeD (kvs more : List (Key × D)) : List (Key × D) := more.foldl (fun acc kv => Z.pk acc kv.1 kv.2) kvs
theorem RKV.merge {K : PySem.W.Frag} {H : Hp} : ∀ {more : List (Key × D)} {ms : List (Key × V)} {kvs : List (Key × D)} {vs : List (Key × V)}, RKV K H more ms → RKV K H kvs vs → RKV K H (mergeD kvs more) (mergeK vs ms) := by
  intro more ms kvs vs r
  unfold RKV at r
  induction r generalizing kvs vs with
  | nil => intro q; exact q
  | @cons p q ps qs h t ih =>
    intro r0
    have e : RKV K H (Z.pk kvs p.1 p.2) (putK vs q.1 q.2) := by
      have := RKV.pk r0 p.1 h.2
      rw [← h.1]; exact this
    exact ih e
def eDisp (f : PFz) : EF := fun δ M Q => f δ M fun ps M1 => ∃ kvs : List (Key × D), ps = kvs.map (fun kv => (keyD kv.1, kv.2)) ∧ kvs.length ≤ 15 ∧ ∀ p, M1 p = none → Q (.ref p) (put M1 p (.dk (mergeD [] kvs)))
theorem keyD_rd {K : PySem.W.Frag} {H : Hp} {k : Key} {v : V} (r : RD K H (keyD k) v) : v = kV k := by
  cases k with
  | inl i => cases r; rfl
  | inr x => cases r; rfl
theorem RPs.kv {K : PySem.W.Frag} {H : Hp} : ∀ {kvs : List (Key × D)} {vs : List (V × V)}, RPs K H (kvs.map fun kv => (keyD kv.1, kv.2)) vs → ∃ ms : List (Key × V), vs = ms.map (fun kv => (kV kv.1, kv.2)) ∧ RKV K H kvs ms
  | [], _, r => by rw [List.map_nil] at r; cases r; exact ⟨[], rfl, .nil⟩
  | kv :: kvs, _, r => by
    rw [List.map_cons] at r
    cases r with
    | cons a b c =>
      obtain ⟨ms, e, q⟩ := RPs.kv c
      exact ⟨(kv.1, _) :: ms, by rw [List.map_cons, ← e, keyD_rd a], .cons ⟨rfl, b⟩ q⟩
theorem tellO {K : PySem.W.Frag} {M M1 : Sto} {H H1 : Hp} {a : Addr} {m : MO} (x : Ext K M M1 H H1) (rs : RS K H1 M1) (hn : H a = none) (r : ROk K H1 a m) :
    Ext K M (put M1 a m) H H1 ∧ RS K H1 (put M1 a m) := by
  refine ⟨⟨x.tup, x.fz, fun c o h q => ?_, x.old⟩, fun c o h => ?_⟩
  · obtain ⟨h1, h2⟩ := x.frm c o h q
    exact ⟨h1, by rw [put_ne (ne_of_none h hn)]; exact h2⟩
  · by_cases q : c = a
    · subst q; rw [put_same] at h; cases h; exact r
    · rw [put_ne q] at h; exact rs c o h
theorem ze_disp {keys : List (Option Expr)} {values : List Expr} {f : PFz} (h : ZPs X pos keys values f) (hall : keys.all (·.isSome) = true := by rfl) (hl : keys.length = values.length := by rfl) (h0 : keys ≠ [] := by exact fun e => nomatch e)
    (h15 : keys.length ≤ 15 := by decide) : ZE X (.Dict keys values pos) (eDisp f) := by
  obtain ⟨m, trs, h1, h2⟩ := h
  refine ⟨fun δ M Q Q' q h => m _ _ _ _ (fun _ _ ⟨kvs, a, b, c⟩ => ⟨kvs, a, b, fun p hp => q _ _ (c p hp)⟩) h, PE.weak (pe_disp h1 hall hl h0 h15) fun σ H Q ⟨δ, M, re, rs, h⟩ p hp => ?_⟩
  have x0 : Ext X.K M M H (upd H p (.dK [])) := Ext.laid0 hp
  refine h2 _ _ _ _ _ (x0.re re) (rs.laid0 hp) (m _ _ _ _ (fun ds M3 q vs H3 x3 rs3 r3 => ?_) h)
  obtain ⟨kvs, rfl, hz, q⟩ := q
  obtain ⟨ms, rfl, rk⟩ := r3.kv
  obtain ⟨e3, n3⟩ := x3.frm p _ upd_same (rs.free hp)
  refine ⟨e3, ms, rfl, by rw [← RKV.length rk]; exact hz, ?_⟩
  obtain ⟨x4, rs4⟩ := tellO (m := .dk []) (x0.trans x3) rs3 hp ⟨[], e3, .nil⟩
  have x5 : Ext X.K (put M3 p (.dk [])) (put (put M3 p (.dk [])) p (.dk (mergeD [] kvs))) H3 (upd H3 p (.dK (mergeK [] ms))) := Ext.write (by rw [e3]; trivial) put_same
  have rs5 := rs4.write (o := .dK (mergeK [] ms)) (m := .dk (mergeD [] kvs)) put_same ⟨_, upd_same, x5.rkv (RKV.merge rk .nil)⟩
  rw [put_put] at x5 rs5
  exact q p n3 _ _ (x4.trans x5) rs5 (.ref p)
theorem ze_dnew : ZE X (.Dict [] [] pos) (fun _ M Q => ∀ p, M p = none → Q (.ref p) (put M p (.dk []))) := by
  refine ⟨fun δ M Q Q' q h p hp => q _ _ (h p hp), PE.weak pe_dnewK fun σ H Q ⟨δ, M, re, rs, h⟩ p hp => ?_⟩
  exact h p (rs.free hp) _ _ (Ext.laid hp) (rs.laid hp ⟨[], upd_same, .nil⟩) (.ref p)
end
end Z
set_option maxHeartbeats 4000000
namespace Z
open PySem PySem.Spec PyProof.Rows L2
section
variable {X : Cx} {e : Expr} {es : List Expr} {fs : AF} {fe fo : EF} {pos p : Pos} {x : Str}
/-! ### sorted -/
theorem D.pures_mem : ∀ {ds : List D}, D.pures ds = true → ∀ d ∈ ds, d.pure = true
  | [], _, _, h => by cases h
  | d :: ds, h, e, m => by
    rw [D.pures, Bool.and_eq_true] at h
    rcases List.mem_cons.mp m with rfl | m
    · exact h.1
    · exact D.pures_mem h.2 e m
def srtD (ds : List D) : List D := ds.mergeSort (PySem.W.dataLe false D.py)
def aSort (fs : AF) : AF := fun δ M Q => fs δ M fun ds M1 => D.pures ds = true ∧ PySem.W.AllAlike (ds.map D.py) ∧ PySem.W.Sortable (ds.map D.py) ∧ (∀ d ∈ ds, d.py.depth ≤ 50) ∧ Q (srtD ds) M1
theorem aSort_mono (h : MonoA fs) : MonoA (aSort fs) := fun δ M Q Q' q g => h _ _ _ _ (fun _ _ ⟨a, b, c, d, z⟩ => ⟨a, b, c, d, q _ _ z⟩) g
theorem each_of {K : PySem.W.Frag} {H : Hp} : ∀ {ds : List D} {vs : List V} {us : List Value}, RDs K H ds vs → Vals vs us → PySem.W.EachIs (fun u d => ∃ v, RD K H d v ∧ RelV v u) us ds
  | _, _, _, .nil, r => by cases r; exact .nil
  | _, _, _, .cons a b, r => by cases r with | cons p q => exact .cons ⟨_, a, p⟩ (each_of b q)
theorem of_each {K : PySem.W.Frag} {H : Hp} : ∀ {us : List Value} {ds : List D}, PySem.W.EachIs (fun u d => ∃ v, RD K H d v ∧ RelV v u) us ds → ∃ vs, RDs K H ds vs ∧ Vals vs us
  | _, _, .nil => ⟨[], .nil, .nil⟩
  | _, _, .cons ⟨v, a, p⟩ b => let ⟨vs, x, y⟩ := of_each b; ⟨v :: vs, .cons a x, .cons p y⟩
theorem each_reads {pins : List (Addr × Obj)} {σ : L2.St} {s : Shared} {H : Hp} {M : Sto} (I : Inv X pins σ H s) (rs : RS X.K H M) : ∀ {ds : List D} {vs : List V} {us : List Value}, D.pures ds = true → RDs X.K H ds vs → Vals vs us → PySem.W.EachIs (fun u d => ∃ as, Reads s.heap u d.py as) us ds
  | _, _, _, _, .nil, r => by cases r; exact .nil
  | d :: ds, _, _, h, .cons a b, r => by
    rw [D.pures, Bool.and_eq_true] at h
    cases r with | cons p q => exact .cons ((Py.of (M := M) d h.1).reads I rs a p) (each_reads I rs h.2 b q)
theorem call_sortedZ (hu : X.A.units + 60 < cLine) : CallR X (.builtin "sorted") (fun vs H Q => ∃ a xs ds M, vs = [.ref a] ∧ SqL X.K H a xs ∧ RDs X.K H ds xs ∧ RS X.K H M ∧ D.pures ds = true ∧ PySem.W.AllAlike (ds.map D.py) ∧ PySem.W.Sortable (ds.map D.py) ∧ (∀ d ∈ ds, d.py.depth ≤ 50) ∧
    ∀ p ys, H p = none → RDs X.K H (srtD ds) ys → Q (.ref p) (upd H p (.lst ys))) := by
  rintro pins s σ H vs us Q I r ⟨a, xs, ds, M, rfl, hs, rd, rs, hp, hal, hk, hd, q⟩
  obtain ⟨its, rv, hl, hz⟩ := I.list hs
  rw [Vals.ref1 r]
  have hlen : ds.length ≤ sizeLine := by rw [rd.length]; exact hz
  refine PySem.W.sorted_data (bs := ds) (enc := D.py) hl.isList (each_of rd rv) (each_reads I rs hp rd rv) hal hk hlen (fun d m => by have := hd d m; omega) fun out ho eo => ?_
  obtain ⟨ys, ry, vy⟩ := of_each eo
  obtain ⟨ep, he'⟩ := PyProof.Rows.sortedAll_at s.heap its (List.toArray out)
  exact ⟨.ref _, upd H (s.heap.objs.size + 1) (.lst ys), I.laid (t' := s.toks) (fun _ _ => PyProof.Rows.sortedAll_old) (Nat.le_succ _) ⟨by rw [vy.length, ho]; exact hlen, out, ep, vy, he'⟩, rfl, q _ ys (I.hok.fresh (Nat.le_succ _)) ry⟩
theorem zl_sorted (hu : X.A.units + 60 < cLine) (hg : Gl X "sorted") (hm : X.mg "sorted" = none) (ha : ZK X e fs) (he : starEach [e] X.env = [(false, eval e X.env)] := by rfl) : ZL X (.Call (.Name "sorted" p) [e] [] pos) (aSort fs) := by
  refine ⟨aSort_mono ha.mono, PE.weak (pe_callB (call_sortedZ hu) hg hm (by decide +kernel) (pa_cons ha.pe pa_nil he) (by decide) (by decide) he rfl) fun σ H Q ⟨δ, M, re, rs, h⟩ => ?_⟩
  simp only [tCB, tCons, tNil]
  refine tzl_bind ha.mono re rs h fun ds M1 a xs H1 q x1 re1 rs1 e1 r1 => ?_
  obtain ⟨q1, q2, q3, q4, q5⟩ := q
  exact ⟨a, xs, ds, M1, rfl, e1, r1, rs1, q1, q2, q3, q4, fun p ys hp ry => q5 p ys _ (x1.trans (Ext.laid0 hp)) (rs1.laid0 hp) (x1.old _ hp) upd_same (rs1.free hp) ((Ext.laid0 (K := X.K) (M := M1) hp).rds ry)⟩
end
end Z
set_option maxHeartbeats 4000000
namespace Z
open PySem PySem.Spec PyProof.Rows L2
/-! ### enumerate of a tuple -/
theorem meets_enumerate_newB1 {v : Value} {o : Obj} {H : Heap → Prop} (B : Begins v o H) :
    Meets (Builtin.«enumerate.__new__» ⟨[.type "enumerate", v], []⟩) (fun _ R s => H s.heap ∧
      R (.ok (.ret (.ref (s.heap.push o).objs.size))) { s with heap := (s.heap.push o).push { cls := .type "enumerate", data := .fields #[.none, .bool false, .ref s.heap.objs.size, rawInt 0, .none, .none] } }) :=
  .of_wp fun prog w A R s h => by
    obtain ⟨hp, g, d, tk, os⟩ := s; obtain ⟨h1, h⟩ := h
    have hsub := sub_enumerate
    have q1 : ∀ {A' : Around} {E : Value → Shared → Prop} {Q : Value → Shared → Prop}, Q (.ref hp.objs.size) ⟨hp.push o, g, d, tk, os⟩ → wpAny (model prog w) A' (pyIter v) Q E ⟨hp, g, d, tk, os⟩ :=
      fun q => B.iter prog w _ _ ⟨hp, g, d, tk, os⟩ _ h1 q
    wp_walk using q1
    refine wpAny_stack_any fun st => wpAny_pure ?_
    split
    · rename_i c _ _ _ _ _
      cases (c == Value.type "enumerate")
      · wp_walk using q1
        exact ⟨_, rfl, h⟩
      · wp_walk using q1
        exact ⟨_, rfl, h⟩
    · wp_walk using q1
      exact ⟨_, rfl, h⟩
section
variable {prog : Program} {w : World} {A : Around} {E : Value → Shared → Prop} {s : Shared}
theorem enum_begins1 {v : Value} {o : Obj} {H : Heap → Prop} {Q : Value → Shared → Prop} (B : Begins v o H) (h1 : H s.heap)
    (h : ∀ h', IsEnum h' (s.heap.objs.size + 1) s.heap.objs.size 0 .none → h'.get? s.heap.objs.size = some o → h'.objs.size = s.heap.objs.size + 2 →
      (∀ b o, s.heap.get? b = some o → h'.get? b = some o) → Q (.ref (s.heap.objs.size + 1)) { s with heap := h' }) :
    wpAny (model prog w) A (call (.type "enumerate") [v]) Q E s := by
  refine callType_new F.called_enumerate (by decide) (F.typeCall_enumerate_1 _) (F.newCall_enumerate_1 _) (fun obj => F.args_object_init_2 obj _) F.entry_enumerate_new
    (meets_enumerate_newB1 B) ⟨h1, ?_⟩
  have hz : (s.heap.push o).objs.size = s.heap.objs.size + 1 := Heap.size_push ..
  show _ ∧ _
  rw [hz]
  have he : IsEnum ((s.heap.push o).push { cls := .type "enumerate", data := .fields #[.none, .bool false, .ref s.heap.objs.size, rawInt 0, .none, .none] }) (s.heap.objs.size + 1) s.heap.objs.size 0 .none := by
    have := Heap.get?_push_size (s.heap.push o) (o := { cls := .type "enumerate", data := .fields #[.none, .bool false, .ref s.heap.objs.size, rawInt 0, .none, .none] }) rfl
    rw [hz] at this; exact this
  refine ⟨⟨_, he, rfl⟩, h _ he (Heap.get?_push_of_some _ (Heap.get?_push_size _ B.free)) (by rw [Heap.size_push, hz]) fun b o x => Heap.get?_push_of_some _ (Heap.get?_push_of_some _ x)⟩
end
section
variable {prog : Program} {w : World} {A : Around} {E : Value → Shared → Prop} {s : Shared}
theorem pyNext_enum_endT {e it l : Addr} {c : Int} {i : Nat} {items : Array Value} {old : Value} {Q : Option Value → Shared → Prop} (hh : A.handled = none)
    (he : IsEnum s.heap e it c old) (hit : s.heap.IsTupleIter it l i) (hl : s.heap.IsTuple l items) (hx : items[i]? = none)
    (hQ : ∀ h', Heap.ExtBut it s.heap h' → Q none { s with heap := h' }) : wpAny (model prog w) A (pyNext (.ref e)) Q E s := by
  have hT : s.TypeIs (.ref e) "enumerate" := ⟨_, he, rfl⟩
  unfold pyNext
  refine wpAny_bind (wpAny_attempt (wpAny_callSpecial?_slot (name := Str.ofString "__next__") hT F.slot_enumerate_next
    (wpAny_call_entry F.slot_enumerate_next hT F.entry_enumerate_next ?_ (F.args_enumerate_next_1 _))))
  show wpAny _ _ (field (.ref e) 2 >>= _) _ _ _
  refine wpAny_bind (wpAny_field he rfl (x := .ref it) rfl ?_)
  refine wpAny_bind (wpAny_nextOf_tuple_end hh hit hl hx fun h' x he' hx' => ?_)
  obtain ⟨o, ho, hc⟩ := hx'
  refine wpAny_bind (wpAny_isInstance (T := "StopIteration") (b := true) ⟨o, ho, hc⟩ isSubtype_stop ?_)
  exact wpAny_pure (hQ _ he')
end
def IteT (K : PySem.W.Frag) (a : Addr) : It :=
  ⟨fun i H => ∃ (xs : List V) (x : V), SqT K H a xs ∧ xs[i]? = some x, fun i H v H' => ∃ T x, v = .ref T ∧ H T = none ∧ H' = upd H T (.tup [.int (i : Nat), x]) ∧ ∀ xs, SqT K H a xs → xs[i]? = some x, fun i H => ∃ xs : List V, SqT K H a xs ∧ xs.length ≤ i⟩
theorem turn_enumT {P : Program} {w : World} {K : PySem.W.Frag} {elts : List Expr} {kk : Nat} {tpos : Pos} (a e it : Addr) :
    Turn P w K (.Tuple elts kk tpos) (IteT K a) [e, it] e (fun i h => (∃ old, IsEnum h e it ((i : Nat) : Int) old) ∧ h.IsTupleIter it a i ∧ e ≠ it ∧ a ≠ it ∧ e ≠ a) where
  mem := by simp
  obj := fun i h st b hb => by
    obtain ⟨⟨old, he⟩, ⟨o, ho, hc, hd⟩, _⟩ := st
    have e' : b = e ∨ b = it := by simpa using hb
    rcases e' with z | z
    · rw [z]; exact ⟨_, he, fun v q => nomatch q⟩
    · rw [z]; exact ⟨o, ho, fun v q => by rw [hd] at q; cases q⟩
  keep := fun i h h' st k => let ⟨⟨old, he⟩, hi, hne⟩ := st; ⟨⟨old, k e (by simp) _ he⟩, hi.at fun o q => k it (by simp) o q, hne⟩
  item := by
    intro X hP hw hK hc i pins s σ H E I hf st hg
    subst hP hw hK
    obtain ⟨⟨old, he⟩, hit, hne, hai, hea⟩ := st
    obtain ⟨xs, x, hq, hx⟩ := hg
    obtain ⟨its, rv, p, hz⟩ := I.tuple hq
    obtain ⟨u, hu, ru⟩ := rv.get hx
    have hel : e < s.heap.objs.size := Heap.lt_size he
    have hil : it < s.heap.objs.size := by obtain ⟨_, q, _⟩ := hit; exact Heap.lt_size q
    have hlt : i < its.toArray.size := by
      rw [List.size_toArray]
      exact (List.getElem?_eq_some_iff.mp hu).1
    refine wpAny_pyNext_enum_itemC (Draws.tuple (A := X.A.in1) (show X.A.in1.handled = none from I.ok.hd hc) it a hai its.toArray) he ⟨hit, p⟩ hlt hne (by simp; exact ⟨hne, hea⟩) fun x' h' tk hP ho hst hT hsz hk => ?_
    have hxu : x' = u := by
      have h2 : its.toArray[i]? = some u := by simpa using hu
      rw [h2] at hP; exact (Option.some.inj hP).symm
    subst hxu
    refine ⟨_, rfl, wpAny_letOwnedTupleGo_enum (s := { s with heap := h', toks := tk + 1 }) ho fun h'' he' sb => ?_⟩
    have hT2 : h''.get? s.heap.objs.size = some { cls := .type "tuple", data := .seq #[.int i tk, x'] } := (sb.2 _ (Nat.ne_of_gt hel)).trans hT
    have new : ObjOk X.prog X.w (upd H s.heap.objs.size (.tup [.int (i : Nat), x])) h'' s.heap.objs.size (.tup [.int (i : Nat), x]) :=
      ⟨by show 2 ≤ sizeLine; decide, [.int i tk, x'], .cons ⟨_, rfl⟩ (.cons ru .nil), ⟨_, hT2, rfl, _, rfl⟩⟩
    have I1 : Inv X pins σ (upd H s.heap.objs.size (.tup [.int (i : Nat), x])) { s with heap := h'', toks := tk + 1 } :=
      I.turnedNew (ch := [e, it]) (fun b ob hb q => (sb.2 b (fun z => hb (by simp [z]))).trans (hk b ob (fun z => hb (by simp [z])) (fun z => hb (by simp [z])) q)) hf (Nat.le_refl _) new
    refine ⟨.ref s.heap.objs.size, _, I1, rfl, ⟨_, x, rfl, I.hok.fresh (Nat.le_refl _), rfl, fun ys hy => by rw [I.tuple_inj hy hq]; exact hx⟩, ⟨⟨x', ?_⟩, hst.1.at fun o q => (sb.2 it (Ne.symm hne)).trans q, hne, hai, hea⟩, fun b hb => ?_⟩
    · have e1 : ((i + 1 : Nat) : Int) = (i : Int) + 1 := by omega
      rw [e1]; exact he'
    · have hb' : b < s.heap.objs.size := by
        have e' : b = e ∨ b = it := by simpa using hb
        rcases e' with z | z
        · rw [z]; exact hel
        · rw [z]; exact hil
      rw [upd_ne (Nat.ne_of_lt hb')]
      exact (hf b hb).1
  done := by
    intro X hP hw hK hc i pins s σ H E I hf st hg
    subst hP hw hK
    obtain ⟨⟨old, he⟩, hit, hne, hai, hea⟩ := st
    obtain ⟨xs, hq, hx⟩ := hg
    obtain ⟨its, rv, p, hz⟩ := I.tuple hq
    have hl := rv.length
    obtain ⟨f0, f1, f2, f3, f4, f5⟩ := hf it (by simp)
    exact pyNext_enum_endT (I.ok.hd hc) he hit p (by simp; omega) fun h' eb => ⟨rfl, I.turned (t' := s.toks) (fun b o hb q => eb b o hb q) f0 f1 f3 f4 f5⟩
  self := fun A i s Q E st h => let ⟨⟨_, he⟩, _⟩ := st; wpAny_pyIter_enum he h
def iEnumV (K : PySem.W.Frag) (ta : TA) : TI := fun σ H R => ta σ H fun vs H1 => ∃ a, vs = [.ref a] ∧ ((∃ xs, SqL K H1 a xs ∧ (xs.length ≤ sizeLine → R (Ite K a) H1)) ∨ (∃ xs, SqT K H1 a xs ∧ (xs.length ≤ sizeLine → R (IteT K a) H1)))
theorem pi_enumV {X : Cx} {e : Expr} {ta : TA} {p pos tpos : Pos} {elts : List Expr} {kk : Nat} (hg : Gl X "enumerate") (hm : X.mg "enumerate" = none) (ha : PA X [e] ta) (hs : starEach [e] X.env = [(false, eval e X.env)] := by rfl) :
    PI X (.Tuple elts kk tpos) (.Call (.Name "enumerate" p) [e] [] pos) (iEnumV X.K ta) := by
  refine ⟨fun pins s σ H R I h => ?_⟩
  refine Call_ (ld_blt I hg hm boot_enumerate (PyProof.Rows.callWith_type1 (thn (ha.run pos pins s σ H _ I h) fun us s1 ⟨vs, H1, I1, r1, q1⟩ => ?_) hs rfl))
  obtain ⟨a, ex, q⟩ := q1
  subst ex
  cases r1 with
  | cons r rr =>
    cases rr
    cases r
    have fr : ∀ b ∈ [s1.heap.objs.size + 1, s1.heap.objs.size], FpOk X pins H1 b := fun b hb => by
      have e' : b = s1.heap.objs.size + 1 ∨ b = s1.heap.objs.size := by simpa using hb
      have hle : s1.heap.objs.size ≤ b := by
        rcases e' with z | z
        · rw [z]; exact Nat.le_add_right _ _
        · rw [z]; exact Nat.le_refl _
      exact I1.fpOk hle (I1.hok.fresh hle)
    rcases q with ⟨xs, hq, q⟩ | ⟨xs, hq, q⟩
    · obtain ⟨its, rv, p', hz⟩ := I1.list hq
      refine call_enumerate_list p'.isList fun h' he hit hsz hk => wpAny_pyIter_enum he ?_
      have I2 : Inv X pins σ H1 { s1 with heap := h' } := I1.kept (t' := s1.toks) hk
      exact ⟨s1.heap.objs.size + 1, [s1.heap.objs.size + 1, s1.heap.objs.size], _, _, H1, rfl, I2, turn_enum a (s1.heap.objs.size + 1) s1.heap.objs.size, ⟨⟨.none, he⟩, hit, Nat.succ_ne_self _⟩, fr, q hz⟩
    · obtain ⟨its, rv, p', hz⟩ := I1.tuple hq
      obtain ⟨o1, ho1, _⟩ := id p'
      have hlt := Heap.lt_size ho1
      refine enum_begins1 (begins_tuple a its.toArray) p' fun h' he hit hsz hk => wpAny_pyIter_enum he ?_
      have I2 : Inv X pins σ H1 { s1 with heap := h' } := I1.kept (t' := s1.toks) hk
      refine ⟨s1.heap.objs.size + 1, [s1.heap.objs.size + 1, s1.heap.objs.size], _, _, H1, rfl, I2, turn_enumT a (s1.heap.objs.size + 1) s1.heap.objs.size, ⟨⟨.none, he⟩, ⟨_, hit, rfl, rfl⟩, Nat.succ_ne_self _, Nat.ne_of_lt hlt, ?_⟩, fr, q hz⟩
      exact Nat.ne_of_gt (Nat.lt_succ_of_lt hlt)
def enumD : Nat → List D → List D
  | _, [] => []
  | i, d :: r => .tup [.int (i : Int), d] :: enumD (i + 1) r
theorem enumD_length : ∀ (i : Nat) (ds : List D), (enumD i ds).length = ds.length
  | _, [] => rfl
  | i, d :: r => by rw [enumD, List.length_cons, List.length_cons, enumD_length]
theorem enumD_get : ∀ (i : Nat) (ds : List D) (j : Nat), (enumD i ds)[j]? = (ds[j]?).map fun d => .tup [.int ((i + j : Nat) : Int), d]
  | _, [], j => by simp [enumD]
  | i, d :: r, 0 => by simp [enumD]
  | i, d :: r, j + 1 => by rw [enumD, List.getElem?_cons_succ, List.getElem?_cons_succ, enumD_get, show i + 1 + j = i + (j + 1) by omega]
theorem enum_yld {K : PySem.W.Frag} {H : Hp} {T : Addr} {i : Nat} {d : D} {v : V} (r : RD K H d v) (hT : H T = none) : RD K (upd H T (.tup [.int (i : Nat), v])) (.tup [.int ((0 + i : Nat) : Int), d]) (.ref T) := by
  have x : Ext K (fun _ => none) (fun _ => none) H (upd H T (.tup [.int (i : Nat), v])) := Ext.laid0 hT
  rw [Nat.zero_add]
  exact .tup (.inl (.inl upd_same)) (.cons (.int _) (.cons (x.rd r) .nil))
theorem itok_enumT {K : PySem.W.Frag} {M : Sto} {H : Hp} {a : Addr} {xs : List V} {ds : List D} (t : SqT K H a xs) (r : RDs K H ds xs) (hz : xs.length ≤ sizeLine) : ItOk K (IteT K a) (enumD 0 ds) none M H where
  len := by rw [enumD_length, r.length]; exact hz
  stop := fun H' M' x _ _ => ⟨xs, x.tup _ _ t, by rw [enumD_length, r.length]; exact Nat.le_refl _⟩
  go := fun H' M' i hi x _ _ => by
    rw [enumD_length] at hi
    obtain ⟨v, hv, _⟩ := r.get (List.getElem?_eq_getElem hi)
    exact ⟨xs, v, x.tup _ _ t, hv⟩
  yld := fun H' M' i y H2 hi x _ _ ⟨T, v, e1, hT, e2, h⟩ => by
    subst e1 e2
    rw [enumD_length] at hi
    obtain ⟨v', hv, rv⟩ := r.get (List.getElem?_eq_getElem hi)
    have := h xs (x.tup _ _ t)
    rw [hv] at this
    cases this
    exact ⟨.tup [.int ((0 + i : Nat) : Int), ds[i]], by rw [enumD_get, List.getElem?_eq_getElem hi]; rfl, enum_yld (x.rd rv) hT, .inr (.inl ⟨_, _, hT, rfl⟩)⟩
theorem itok_enumL {K : PySem.W.Frag} {M : Sto} {H : Hp} {a : Addr} {xs : List V} {ds : List D} (r : RDs K H ds xs) (hz : xs.length ≤ sizeLine) : ItOk K (Ite K a) (enumD 0 ds) (some (a, ds)) M H where
  len := by rw [enumD_length, r.length]; exact hz
  stop := fun H' M' x rs k => by
    obtain ⟨ys, e, q⟩ := rs _ _ k
    exact ⟨ys, SqL.of e, by rw [enumD_length, q.length]; exact Nat.le_refl _⟩
  go := fun H' M' i hi x rs k => by
    rw [enumD_length] at hi
    obtain ⟨ys, e, q⟩ := rs _ _ k
    obtain ⟨v, hv, _⟩ := q.get (List.getElem?_eq_getElem hi)
    exact ⟨ys, v, SqL.of e, hv⟩
  yld := fun H' M' i y H2 hi x rs k ⟨T, v, e1, hT, e2, h⟩ => by
    subst e1 e2
    rw [enumD_length] at hi
    obtain ⟨ys, e, q⟩ := rs _ _ k
    obtain ⟨v', hv, rv⟩ := q.get (List.getElem?_eq_getElem hi)
    have := h ys (SqL.of e)
    rw [hv] at this
    cases this
    exact ⟨.tup [.int ((0 + i : Nat) : Int), ds[i]], by rw [enumD_get, List.getElem?_eq_getElem hi]; rfl, enum_yld rv hT, .inr (.inl ⟨_, _, hT, rfl⟩)⟩
theorem itok_enumN {K : PySem.W.Frag} {M : Sto} {H : Hp} {a : Addr} {xs : List V} {ds : List D} (e : H a = some (.lst xs)) (n : M a = none) (r : RDs K H ds xs) (hz : xs.length ≤ sizeLine) : ItOk K (Ite K a) (enumD 0 ds) none M H where
  len := by rw [enumD_length, r.length]; exact hz
  stop := fun H' M' x _ _ => ⟨xs, SqL.of (x.frm _ _ e n).1, by rw [enumD_length, r.length]; exact Nat.le_refl _⟩
  go := fun H' M' i hi x _ _ => by
    rw [enumD_length] at hi
    obtain ⟨v, hv, _⟩ := r.get (List.getElem?_eq_getElem hi)
    exact ⟨xs, v, SqL.of (x.frm _ _ e n).1, hv⟩
  yld := fun H' M' i y H2 hi x _ _ ⟨T, v, e1, hT, e2, h⟩ => by
    subst e1 e2
    rw [enumD_length] at hi
    obtain ⟨v', hv, rv⟩ := r.get (List.getElem?_eq_getElem hi)
    have := h xs (SqL.of (x.frm _ _ e n).1)
    rw [hv] at this
    cases this
    exact ⟨.tup [.int ((0 + i : Nat) : Int), ds[i]], by rw [enumD_get, List.getElem?_eq_getElem hi]; rfl, enum_yld (x.rd rv) hT, .inr (.inl ⟨_, _, hT, rfl⟩)⟩
section
variable {X : Cx} {e : Expr} {fe : EF} {fs : AF} {p pos tpos : Pos} {elts : List Expr} {kk : Nat}
def iEnum (fe : EF) : IF := fun δ M Q => fe δ M fun d M1 => match d with
  | .tup ys => Q (enumD 0 ys) none M1
  | .ref a => ∃ ys, M1 a = some (.lst ys) ∧ Q (enumD 0 ys) (some (a, ys)) M1
  | _ => False
theorem iEnum_mono (h : MonoE fe) : MonoI (iEnum fe) := fun δ M Q Q' q g => h _ _ _ _ (fun d _ h1 => by
  cases d <;> first
    | exact (h1 : False).elim
    | exact q _ _ _ h1
    | (obtain ⟨ys, e, h1⟩ := h1; exact ⟨ys, e, q _ _ _ h1⟩)) g
theorem zi_enum (hg : Gl X "enumerate") (hm : X.mg "enumerate" = none) (h : ZE X e fe) (hs : starEach [e] X.env = [(false, eval e X.env)] := by rfl) : ZI X (.Tuple elts kk tpos) (.Call (.Name "enumerate" p) [e] [] pos) (iEnum fe) := by
  refine ⟨iEnum_mono h.mono, PI.weak (pi_enumV hg hm (pa_cons h.pe pa_nil hs) hs) fun σ H R ⟨δ, M, re, rs, g⟩ => ?_⟩
  simp only [iEnumV, tCons, tNil]
  refine tz_bind h.mono re rs g fun d M1 v H1 p x1 re1 rs1 r1 => ?_
  cases d <;> first | exact (p : False).elim | skip
  · cases r1
    obtain ⟨ys, e1, p⟩ := p
    obtain ⟨xs, q, z⟩ := rs1 _ _ e1
    exact ⟨_, rfl, .inl ⟨xs, SqL.of q, fun hz => p _ H1 x1 rs1 (itok_enumL z hz)⟩⟩
  · cases r1 with | tup t1 q1 => exact ⟨_, rfl, .inr ⟨_, t1, fun hz => p _ H1 x1 rs1 (itok_enumT t1 q1 hz)⟩⟩
def iEnumN (fl : AF) : IF := fun δ M Q => fl δ M fun ys M1 => Q (enumD 0 ys) none M1
theorem zi_enumN (hg : Gl X "enumerate") (hm : X.mg "enumerate" = none) (h : ZL X e fs) (hs : starEach [e] X.env = [(false, eval e X.env)] := by rfl) : ZI X (.Tuple elts kk tpos) (.Call (.Name "enumerate" p) [e] [] pos) (iEnumN fs) := by
  refine ⟨fun δ M Q Q' q g => h.mono _ _ _ _ (fun _ _ z => q _ _ _ z) g, PI.weak (pi_enumV hg hm (pa_cons h.pe pa_nil hs) hs) fun σ H R ⟨δ, M, re, rs, g⟩ => ?_⟩
  simp only [iEnumV, tCons, tNil]
  exact tzf_bind h.mono re rs g fun ds M1 a xs H1 p x1 re1 rs1 hn e1 n1 r1 => ⟨_, rfl, .inl ⟨xs, SqL.of e1, fun hz => p _ H1 x1 rs1 (itok_enumN e1 n1 r1 hz)⟩⟩
end
end Z
set_option maxHeartbeats 4000000
namespace Z
open PySem PySem.Spec PyProof.Rows L2
/-! ### the law's end, for defs by data -/
theorem only_fz {K : PySem.W.Frag} {H : Hp} {a : Addr} {xs : List V} (hO : Only H) (h : SqL K H a xs) : FzL K H a xs := by
  rcases h with (h | ⟨o, h⟩) | h
  · rcases hO a with z | ⟨o, ys, z⟩
    · rw [z] at h; cases h
    · rw [z] at h; cases h
  · exact .inl ⟨o, h⟩
  · exact .inr h
theorem law_callG {P : Program} {w : World} {K : PySem.W.Frag} {mg mb : Str → Option Value} {k : Nat} {fa a : Addr} {fd : FuncData} {x : Str} {g : FF} {s₁ : Shared} {vs : List Value} {ns : List Int}
    (KX : K.In s₁.heap) (hns : s₁.heap.Ns mainGlobals mg) (hb : s₁.heap.Ns builtinsNs mb) (hbb : ∀ x : Str, x ≠ "__name__" → mb x = bootBuiltins x) (hlim : s₁.heap.NoLimit) (hg : s₁.gens = #[])
    (ha : s₁.heap.get? a = some { cls := .type "list", data := .seq vs.toArray }) (hi : IntsAre vs ns) (hl : ns.length ≤ sizeLine) (hr : Room k callerA)
    (F : ∀ base : Heap, K.In base → base.Ns mainGlobals mg → FnD P w K mg base k fa fd [x] g) (hbind : ∀ (s : Shared) (u : Value), BindsTo s fd ⟨[u], []⟩ [(x, u)])
    (hsp : g [.scr (ns.map D.int)] (fun _ => none) fun d _ => d = .bl true) :
    codeAny (model P w) callerA (.call (.ref fa) ⟨[.ref a], []⟩) (fun r s' => r = .ok (.ret (.bool true)) ∧ OldK s₁.heap s'.heap ∧ s'.os = s₁.os ∧ AllBare s'.gens) s₁ := by
  have rv := vals_ints hi
  have lenV := hi.length
  have core : ∀ H : Hp, Only H → SqL K H a (ns.map V.int) → HOk P w H s₁.heap → (∀ b, H b ≠ none → b = a) → (H a ≠ none → K.lookup a = none) →
      codeAny (model P w) callerA (.call (.ref fa) ⟨[.ref a], []⟩) (fun r s' => r = .ok (.ret (.bool true)) ∧ OldK s₁.heap s'.heap ∧ s'.os = s₁.os ∧ AllBare s'.gens) s₁ := by
    intro H hO hS hok hA hK
    have base_of : ∀ {b : Addr} {o : Obj}, s₁.heap.get? b = some o → H b = none → (hidT s₁.heap H).get? b = some o := fun e n => hidT_get e n
    have noA : ∀ {b : Addr} {o : Obj} {es : Array DictEntry} {ep : Nat}, s₁.heap.get? b = some o → o.data = .dict es ep → H b = none := fun {b o es ep} e d => by
      cases q : H b with
      | none => rfl
      | some u =>
        have e' : b = a := hA b (by rw [q]; simp)
        subst e'
        rw [ha] at e; cases e
        have d' : Data.seq vs.toArray _ = Data.dict es ep := d
        cases d'
    have nsK : ∀ {b : Addr} {m : Str → Option Value}, s₁.heap.Ns b m → (hidT s₁.heap H).Ns b m := fun {b m} ⟨o, es, ep, e, d, r⟩ => ⟨o, es, ep, base_of e (noA e d), d, r⟩
    have hKb : K.In (hidT s₁.heap H) := fun b o e => base_of (KX b o e) (by
      cases q : H b with
      | none => rfl
      | some u =>
        have e' : b = a := hA b (by rw [q]; simp)
        subst e'
        rw [hK (by rw [q]; simp)] at e; cases e)
    have hM : Mod K mg (hidT s₁.heap H) := ⟨hKb, nsK hns, ⟨mb, nsK hb, hbb⟩, let ⟨mc, h1, h2⟩ := hlim; ⟨mc, nsK h1, h2⟩⟩
    have e0 : Env0 P w K mg (hidT s₁.heap H) callerA [] s₁ H := ⟨rfl, hM, fun b o e => of_hidT e, Nat.le_of_eq (hidT_size _ _), trivial, fun b hb => absurd (show b ∈ ([] : List Addr) from hb) (by simp), hok, .of_eq hg⟩
    have FF := F _ hKb (nsK hns)
    have hs : lift K [x].length g [.ref a] H (fun v _ => v = .bl true) (fun _ _ _ => False) := by
      refine ⟨[.scr (ns.map D.int)], fun _ => none, rfl, .cons (.scr (only_fz hO hS) (RDs.of_ints ns)) .nil, (fun _ _ e => nomatch e), FF.mono _ _ _ _ (fun d M' q v H' _ _ r => ?_) hsp⟩
      subst q; cases r; rfl
    refine codeAny_mono (FF.ok.run callerA rfl hr [] s₁ H e0 ⟨[.ref a], []⟩ [.ref a] [.ref a] _ _ (hbind s₁ (.ref a)) (.cons rfl .nil) hs) fun r s' h => ?_
    cases r with
    | error e => exact h.elim
    | ok fl =>
      cases fl with
      | next => exact False.elim h
      | brk => exact False.elim h
      | cont => exact False.elim h
      | ret u =>
        obtain ⟨v, H', os, bare, un, hok', r', q⟩ := h
        have q' : v = .bl true := q
        subst q'
        obtain rfl : u = Value.bool true := r'
        refine ⟨rfl, OldK.of_keep fun b o e => ?_, os, bare⟩
        cases q : H b with
        | none => exact un.keep b o e q (by intro z; exact absurd (show b ∈ ([] : List Addr) from z) (by simp)) (by simp)
        | some u =>
          rcases hO b with z | ⟨ob, xs, z⟩
          · rw [q] at z; cases z
          · have z2 := un.frzs b ob _ z
            obtain ⟨e1, _⟩ := hok b _ z
            obtain ⟨e2, _⟩ := hok' b _ z2
            rw [e] at e1; cases e1
            exact e2
  cases hk : K.lookup a with
  | some o =>
    have e := KX a o hk
    rw [ha] at e
    cases e
    refine core (fun _ => none) (fun _ => .inl rfl) (.inr ⟨_, vs.toArray, _, hk, rfl, rfl, rfl, by rw [List.size_toArray, lenV]; exact hl, by simpa using rv⟩) (fun b u z => by have z' : (none : Option HO) = some u := z; cases z') (fun b z => absurd rfl z) fun z => absurd rfl z
  | none =>
    refine core (fun b => if b = a then some (.frz { cls := .type "list", data := .seq vs.toArray } (.lst (ns.map V.int))) else none) (fun b => ?_) (.inl (.inr ⟨{ cls := .type "list", data := .seq vs.toArray }, if_pos rfl⟩)) (fun b u z => ?_) (fun b z => ?_) fun _ => hk
    · by_cases hb : b = a
      · exact .inr ⟨_, _, if_pos hb⟩
      · exact .inl (if_neg hb)
    · by_cases hb : b = a
      · have z' := (if_pos hb).symm.trans z
        cases z'
        subst hb
        exact ⟨ha, by rw [List.length_map]; exact hl, vs, _, rv, ha⟩
      · have z' := (if_neg hb).symm.trans z
        cases z'
    · by_cases hb : b = a
      · exact hb
      · exact absurd (if_neg hb) z
theorem walk_ofG {l : PySem.W.OpenLaw} {n k : Nat} {q : Program} {loose : List Str} {XP : (Str → Option Value) → Heap → Prop} {YP : World → Heap → Prop} {d : DefRec} {K : Params → PySem.W.Frag} {g : World → FF} {x : Str}
    (hn : l.most = some n) (hn2 : n ≤ sizeLine) (hdf : d.params.defaults = []) (hr : Room k callerA)
    (hY : ∀ (w : World) (h : Heap), YP w h → (K w.params).In h)
    (F : ∀ (w : World) (mg : Str → Option Value) (fa : Addr) (h : Heap), (K w.params).In h → h.Ns mainGlobals mg → mg d.name = some (.ref fa) →
      ∃ fd : FuncData, (∀ (s : Shared) (u : Value), BindsTo s fd ⟨[u], []⟩ [(x, u)]) ∧
        ∀ base : Heap, (K w.params).In base → base.Ns mainGlobals mg → FnD l.prog w (K w.params) mg base k fa fd [x] (g w))
    (hsp : ∀ (w : World) (ns : List Int), ns.length ≤ n → (∀ z ∈ ns, Builtin.Int.intBits z ≤ 1048576) → g w [.scr (ns.map D.int)] (fun _ => none) fun d _ => d = .bl true) :
    PySem.W.WalkO q loose XP YP l.row.toRowW d [] (fun f vs => PySem.call f vs) := by
  refine Att.attach_callB hn hdf fun w s₀ s₁ mg mb fa o pm cd doc a vs ns G Y ho hd hcd hmg hobj hints hlen hbits hg => ?_
  have KX := hY w _ Y
  obtain ⟨fd, hb, hF⟩ := F w mg fa _ KX G.T.g hmg
  exact law_callG KX G.T.g G.T.b G.T.builtins G.T.nolimit hg hobj hints (Nat.le_trans hlen hn2) hr hF hb (hsp w ns hlen hbits)
end Z
set_option maxHeartbeats 4000000
namespace Z
open PySem PySem.Spec PyProof.Rows L2
/-! ### defs, bundled -/
/-- made monotone -/
def cl (g : FF) : FF := fun ds M Q => ∃ Q0 : KD, (∀ d M', Q0 d M' → Q d M') ∧ g ds M Q0
theorem cl_mono (g : FF) : MonoF (cl g) := fun ds M Q Q' q ⟨Q0, h, z⟩ => ⟨Q0, fun d M' a => q d M' (h d M' a), z⟩
theorem cl_in {g : FF} {ds : List D} {M : Sto} {Q : KD} (h : g ds M Q) : cl g ds M Q := ⟨Q, fun _ _ z => z, h⟩
section
variable {P : Program} {w : World} {K : PySem.W.Frag} {mg : Str → Option Value} {base : Heap} {k j : Nat} {f : Addr} {fd : FuncData} {ps : List Str} {g g' : FF}
theorem FnD.ofZ {x qual : Str} {st : Stmt} {N : List Str} {s : SF} (F : Fun K x qual st f fd) (S : FnScope N ps (defScope st))
    (hb : ∀ (cdv : Value) (A : Around) (outer : List PySem.Env) (s₀ : Shared) (H : Hp) (E : XK), A.guards = some [] → Room k (A.deeper (envOfC qual (defScope st) s₀.heap.objs.size f cdv)) →
      ZSs (cxOf CX0 P w K mg base N qual (defScope st) f cdv A outer s₀ H E).nox (defBody st) s) : FnD P w K mg base (k + 1) f fd ps (cl (bodyF ps.length N s)) := by
  refine ⟨cl_mono _, FnG.of F S (fun vs H Q E ⟨ds, M, hl, r, _, _⟩ => by rw [← r.length]; exact hl) fun cdv A outer s H vs Q E hg hr ⟨ds, M, hl, r, rs, Q0, hq, hl2, h⟩ => ?_⟩
  have Z := hb cdv A outer s H E hg hr
  refine ⟨_, Z.pss.nox, startD N ds, M, re_start r, rs, Z.mono _ _ ?_ _ _ h⟩
  have fin : ∀ d M', dropK Q0 d M' → Cont K M H Q d M' := fun d M' ⟨M2, sb, q⟩ v H' x rs' rd => hq d M2 q v H' (x.sub sb) (rs'.sub sb) rd
  refine ⟨fun δ M' q σ' H' x re rs' => fin _ _ q _ H' x rs' .non, fun d M' q => fin d M' q, fun _ _ z => z.elim, fun _ _ z => z.elim⟩
/-- a def that may be called by its name -/
structure Cal (P : Program) (w : World) (K : PySem.W.Frag) (mg : Str → Option Value) (base : Heap) (k : Nat) (x : Str) (ps : List Str) (g : FF) : Prop where
  ex : ∃ (f : Addr) (fd : FuncData), FnD P w K mg base k f fd ps g ∧ mg x = some (.ref f) ∧ PySem.W.keepIn K (.ref f) = true ∧ Binds K fd ps []
theorem Cal.up {x : Str} (C : Cal P w K mg base j x ps g) (h : j ≤ k) : Cal P w K mg base k x ps g := let ⟨f, fd, a, b, c, d⟩ := C.ex; ⟨f, fd, a.up h, b, c, d⟩
theorem Cal.imp {x : Str} (C : Cal P w K mg base k x ps g) (m : MonoF g') (h : ∀ ds M Q, ds.length = ps.length → g' ds M Q → g ds M Q) : Cal P w K mg base k x ps g' := let ⟨f, fd, a, b, c, d⟩ := C.ex; ⟨f, fd, a.imp m h, b, c, d⟩
/-- the def's object as the module holds it -/
structure Hold (K : PySem.W.Frag) (mg : Str → Option Value) (x : Str) (st : Stmt) (ps : List Str) : Prop where
  ex : ∃ (f : Addr) (fd : FuncData), Fun K x x st f fd ∧ mg x = some (.ref f) ∧ Binds K fd ps []
theorem Hold.cal {x : Str} {st : Stmt} {N : List Str} {s : SF} (F : Hold K mg x st ps) (S : FnScope N ps (defScope st)) (m : MonoF g) (hl : ∀ ds M Q, ds.length = ps.length → g ds M Q → bodyF ps.length N s ds M Q)
    (hb : ∀ (f : Addr) (cdv : Value) (A : Around) (outer : List PySem.Env) (s₀ : Shared) (H : Hp) (E : XK), A.guards = some [] → Room k (A.deeper (envOfC x (defScope st) s₀.heap.objs.size f cdv)) →
      ZSs (cxOf CX0 P w K mg base N x (defScope st) f cdv A outer s₀ H E).nox (defBody st) s) : Cal P w K mg base (k + 1) x ps g := by
  obtain ⟨f, fd, a, b, c⟩ := F.ex
  exact ⟨f, fd, (FnD.ofZ a S (hb f)).imp m fun ds M Q e h => cl_in (hl ds M Q e h), b, a.kp, c⟩
end
section
variable {X : Cx} {e : Expr} {es : List Expr} {fs : AF} {pos p : Pos} {x : Str}
theorem ze_callC {k j : Nat} {ps : List Str} {g : FF} (C : Cal X.prog X.w X.K X.mg X.base j x ps g) (hG : X.A.guards = some []) (hr : Room k X.A) (hjk : j ≤ k) (hg : Gl X x) (ha : ZA X (e :: es) fs) (hl : (e :: es).length = ps.length := by rfl)
    (hdb : (x == ("__debug__" : Str)) = false := by decide) (he : starEach (e :: es) X.env = (false, eval e X.env) :: starEach es X.env := by rfl) (hpl : (backTo pos (starEach es X.env)).any (·.1) = false := by rfl) :
    ZE X (.Call (.Name x p) (e :: es) [] pos) (eCall g fs) := by
  obtain ⟨f, fd, a, b, c, d⟩ := C.ex
  exact ze_call a hG (hr.mono hjk) hg b c d ha hl hdb he hpl
theorem ze_callC0 {k j : Nat} {g : FF} (C : Cal X.prog X.w X.K X.mg X.base j x [] g) (hG : X.A.guards = some []) (hr : Room k X.A) (hjk : j ≤ k) (hg : Gl X x)
    (hdb : (x == ("__debug__" : Str)) = false := by decide) : ZE X (.Call (.Name x p) [] [] pos) (eCall g aNil) := by
  obtain ⟨f, fd, a, b, c, d⟩ := C.ex
  exact ze_call0 a hG (hr.mono hjk) hg b c d hdb
theorem u1 {k : Nat} {A : Around} (r : Room k A) : A.units + 1 < cLine := by have := r.un; omega
theorem u60 {k : Nat} {A : Around} (r : Room k A) : A.units + 60 < cLine := by have := r.un; omega
theorem u64 {k : Nat} {A : Around} (r : Room k A) : A.units + 64 < cLine := by have := r.un; omega
theorem u70 {k : Nat} {A : Around} (r : Room k A) : A.units + 70 < cLine := by have := r.un; omega
end
end Z
set_option maxHeartbeats 4000000
namespace Z
open PySem PySem.Spec PyProof.Rows L2
/-! ### names of the built-ins -/
theorem boot_b_int : bootBuiltins "int" = some (.type "int") := by decide +kernel
theorem boot_b_bool : bootBuiltins "bool" = some (.type "bool") := by decide +kernel
theorem boot_b_tuple : bootBuiltins "tuple" = some (.type "tuple") := by decide +kernel
theorem boot_b_list : bootBuiltins "list" = some (.type "list") := by decide +kernel
theorem boot_b_str : bootBuiltins "str" = some (.type "str") := by decide +kernel
theorem boot_b_dict : bootBuiltins "dict" = some (.type "dict") := by decide +kernel
theorem boot_b_repr : bootBuiltins "repr" = some (.builtin "repr") := by decide +kernel
theorem boot_b_abs : bootBuiltins "abs" = some (.builtin "abs") := by decide +kernel
theorem boot_b_min : bootBuiltins "min" = some (.builtin "min") := by decide +kernel
theorem boot_b_max : bootBuiltins "max" = some (.builtin "max") := by decide +kernel
theorem boot_b_len : bootBuiltins "len" = some (.builtin "len") := by decide +kernel
theorem boot_b_any : bootBuiltins "any" = some (.builtin "any") := by decide +kernel
theorem boot_b_all : bootBuiltins "all" = some (.builtin "all") := by decide +kernel
def isa_int : PyData → Bool := fun d => d.isInt
def isa_bool : PyData → Bool := fun d => d.isBool
def isa_tuple : PyData → Bool := fun d => d.isTuple
def isa_list : PyData → Bool := fun d => d.isList
def isa_str : PyData → Bool := fun d => d.isStr
def isa_dict : PyData → Bool := fun d => d.isDict
section
variable {prog : Program} {w : World} {A : Around} {E : Value → Shared → Prop} {s : Shared} {v : Value} {d : PyData} {as : List Addr} {Q : Value → Shared → Prop}
theorem hisa_int (r : Reads s.heap v d as) (h : ∀ tk, s.toks ≤ tk → Q (.bool (isa_int d)) { s with toks := tk }) : wpAny (model prog w) A (call (.builtin "isinstance") [v, .type "int"]) Q E s := PySem.W.isinstance_int_data r h
theorem hisa_bool (r : Reads s.heap v d as) (h : ∀ tk, s.toks ≤ tk → Q (.bool (isa_bool d)) { s with toks := tk }) : wpAny (model prog w) A (call (.builtin "isinstance") [v, .type "bool"]) Q E s := PySem.W.isinstance_bool_data r h
theorem hisa_tuple (r : Reads s.heap v d as) (h : ∀ tk, s.toks ≤ tk → Q (.bool (isa_tuple d)) { s with toks := tk }) : wpAny (model prog w) A (call (.builtin "isinstance") [v, .type "tuple"]) Q E s := PySem.W.isinstance_tuple_data r h
theorem hisa_list (r : Reads s.heap v d as) (h : ∀ tk, s.toks ≤ tk → Q (.bool (isa_list d)) { s with toks := tk }) : wpAny (model prog w) A (call (.builtin "isinstance") [v, .type "list"]) Q E s := PySem.W.isinstance_list_data r h
theorem hisa_str (r : Reads s.heap v d as) (h : ∀ tk, s.toks ≤ tk → Q (.bool (isa_str d)) { s with toks := tk }) : wpAny (model prog w) A (call (.builtin "isinstance") [v, .type "str"]) Q E s := PySem.W.isinstance_str_data r h
theorem hisa_dict (r : Reads s.heap v d as) (h : ∀ tk, s.toks ≤ tk → Q (.bool (isa_dict d)) { s with toks := tk }) : wpAny (model prog w) A (call (.builtin "isinstance") [v, .type "dict"]) Q E s := PySem.W.isinstance_dict_data r h
end
section
variable {X : Cx} {a b c e : Expr} {es : List Expr} {fs : AF} {fe : EF} {pos p : Pos} {x y z : Str}
/-- not e, by truth -/
def eNotT (fe : EF) : EF := fun δ M Q => fe δ M fun d M1 => truZ d M1 fun b => Q (.bl (!b)) M1
theorem ze_notT (h : ZE X e fe) : ZE X (.UnaryOp .Not e pos) (eNotT fe) := by
  refine ⟨fun δ M Q Q' q g => h.mono _ _ _ _ (fun _ _ h1 => truZ_mono (fun _ => q _ _) h1) g, PE.weak (pe_notT h.pe) fun σ H Q ⟨δ, M, re, rs, g⟩ => ?_⟩
  refine tz_bind h.mono re rs g fun d M1 v H1 p x1 re1 rs1 r1 => ?_
  obtain ⟨k, t, q⟩ := truZ_ok rs1 r1 p
  exact ⟨k, t, q _ H1 x1 rs1 (.bl _)⟩
/-- -e -/
def eNeg (fe : EF) : EF := fun δ M Q => fe δ M fun d M1 => match d with | .int i => Q (.int (-i)) M1 | _ => False
theorem ze_neg (h : ZE X e fe) : ZE X (.UnaryOp .USub e pos) (eNeg fe) := by
  refine ⟨fun δ M Q Q' q g => h.mono _ _ _ _ (fun d _ h1 => by cases d <;> first | exact (h1 : False).elim | exact q _ _ h1) g, PE.weak (pe_un un_neg h.pe) fun σ H Q ⟨δ, M, re, rs, g⟩ => ?_⟩
  refine tz_bind h.mono re rs g fun d M1 v H1 p x1 re1 rs1 r1 => ?_
  cases d <;> first | exact (p : False).elim | skip
  cases r1
  exact ⟨_, rfl, p _ H1 x1 rs1 (.int _)⟩
def eDNew : EF := fun _ M Q => ∀ p, M p = none → Q (.ref p) (put M p (.dk []))
theorem ze_dnewE : ZE X (.Dict [] [] pos) eDNew := ze_dnew
/-- any, all of truth values -/
def bAnyB (f : List Bool → Bool) : List D → Sto → KD → Prop := fun ds M Q => ∃ bs : List Bool, ds = bs.map D.bl ∧ Q (.bl (f bs)) M
theorem RDs.bls {K : PySem.W.Frag} {H : Hp} : ∀ {bs : List Bool} {us : List V}, RDs K H (bs.map D.bl) us → us = bs.map V.bl
  | [], _, h => by cases h; rfl
  | n :: ns, _, h => by
    rw [List.map_cons] at h
    cases h with
    | cons a b => cases a; rw [RDs.bls b, List.map_cons]
def eAny (fs : AF) : EF := fun δ M Q => fs δ M fun ds M1 => ∃ bs : List Bool, ds = bs.map D.bl ∧ Q (.bl (bs.any id)) M1
def eAll (fs : AF) : EF := fun δ M Q => fs δ M fun ds M1 => ∃ bs : List Bool, ds = bs.map D.bl ∧ Q (.bl (bs.all id)) M1
theorem ze_any (hc : X.calm = true) (hg : Gl X "any") (hm : X.mg "any" = none) (h : ZK X e fs) (he : starEach [e] X.env = [(false, eval e X.env)] := by rfl) : ZE X (.Call (.Name "any" p) [e] [] pos) (eAny fs) := by
  refine ⟨fun δ M Q Q' q g => h.mono _ _ _ _ (fun d _ ⟨bs, h1, h2⟩ => ⟨bs, h1, q _ _ h2⟩) g, PE.weak (pe_callB (cr_any hc) hg hm boot_b_any (pa_cons h.pe pa_nil he) (by decide) (by decide) he rfl) fun σ H Q ⟨δ, M, re, rs, g⟩ => ?_⟩
  simp only [tCB, tCons, tNil]
  refine tzl_bind h.mono re rs g fun ds M1 a xs H1 p x1 re1 rs1 e1 r1 => ?_
  obtain ⟨bs, rfl, q⟩ := p
  rw [RDs.bls r1] at e1
  exact ⟨a, bs, rfl, e1, q _ H1 x1 rs1 (.bl _)⟩
theorem ze_all (hc : X.calm = true) (hg : Gl X "all") (hm : X.mg "all" = none) (h : ZK X e fs) (he : starEach [e] X.env = [(false, eval e X.env)] := by rfl) : ZE X (.Call (.Name "all" p) [e] [] pos) (eAll fs) := by
  refine ⟨fun δ M Q Q' q g => h.mono _ _ _ _ (fun d _ ⟨bs, h1, h2⟩ => ⟨bs, h1, q _ _ h2⟩) g, PE.weak (pe_callB (cr_all hc) hg hm boot_b_all (pa_cons h.pe pa_nil he) (by decide) (by decide) he rfl) fun σ H Q ⟨δ, M, re, rs, g⟩ => ?_⟩
  simp only [tCB, tCons, tNil]
  refine tzl_bind h.mono re rs g fun ds M1 a xs H1 p x1 re1 rs1 e1 r1 => ?_
  obtain ⟨bs, rfl, q⟩ := p
  rw [RDs.bls r1] at e1
  exact ⟨a, bs, rfl, e1, q _ H1 x1 rs1 (.bl _)⟩
/-- a, b, c = x, y, z -/
def sPar3 (i j l : Nat) (fs : AF) : SF := fun E δ M => fs δ M fun ds M1 => match ds with | [d, d', d''] => E.nx (((δ.set i (some d)).set j (some d')).set l (some d'')) M1 | _ => False
theorem zs_par3 {i j l : Nat} {px py pz pt : Pos} {kt k2 pt2} (hc : X.calm = true) (hN : X.N.Nodup) (hi : X.N[i]? = some x) (hj : X.N[j]? = some y) (hl : X.N[l]? = some z) (hij : i ≠ j) (hil : i ≠ l) (hjl : j ≠ l)
    (hx : X.env.scope.names.lookup x = some .local) (hy : X.env.scope.names.lookup y = some .local) (hz : X.env.scope.names.lookup z = some .local) (ha : ZA X [a, b, c] fs)
    (hw : swappedStores [.Tuple [.Name x px, .Name y py, .Name z pz] kt pt] (.Tuple [a, b, c] k2 pt2) X.env = pure (some [x, y, z]) := by rfl)
    (hs : swapsWithSole [.Tuple [.Name x px, .Name y py, .Name z pz] kt pt] (.Tuple [a, b, c] k2 pt2) pos.line X.env = pure false := by rfl) :
    ZS X (.Assign [.Tuple [.Name x px, .Name y py, .Name z pz] kt pt] (.Tuple [a, b, c] k2 pt2) pos) (sPar3 i j l fs) := by
  refine ⟨fun A B l' δ M h => ha.mono _ _ _ _ (fun ds M1 q => ?_) h, PS.weak (ps_par3 hc hN hi hj hl hij hil hjl hx hy hz ha.pa hw hs) fun D σ H ⟨δ, M, re, rs, h⟩ => ?_⟩
  · rcases ds with _ | ⟨d, _ | ⟨d', _ | ⟨d'', _ | ⟨d3, r⟩⟩⟩⟩ <;> first | exact (q : False).elim | exact l'.nx _ _ q
  · refine tza_bind ha.mono re rs h fun ds M1 vs H1 p x1 re1 rs1 r1 => ?_
    rcases ds with _ | ⟨d, _ | ⟨d', _ | ⟨d'', _ | ⟨d3, r⟩⟩⟩⟩ <;> first | exact (p : False).elim | skip
    cases r1 with
    | cons q1 t1 =>
      cases t1 with
      | cons q2 t2 =>
        cases t2 with
        | cons q3 t3 =>
          cases t3
          exact ⟨_, _, _, rfl, p _ H1 x1 (((re1.set i q1).set j q2).set l q3) rs1⟩
/-! targets -/
def GEx (g : GF) : Prop := ∀ d δ M Q, g d δ M Q → ∃ δ1 M1, Q δ1 M1
def GsEx (g : GFs) : Prop := ∀ d δ M Q, g d δ M Q → ∃ δ1 M1, Q δ1 M1
theorem gN_ex {i : Nat} : GEx (gN i) := fun _ _ _ _ h => ⟨_, _, h⟩
theorem gsNil_ex : GsEx gsNil := fun ds _ _ _ h => by cases ds <;> first | exact ⟨_, _, h⟩ | exact (h : False).elim
theorem gsCons_ex {g : GF} {gs : GFs} (h1 : GEx g) (h2 : GsEx gs) : GsEx (gsCons g gs) := fun ds δ M Q h => by
  cases ds with
  | nil => exact (h : False).elim
  | cons d r =>
    obtain ⟨δ1, M1, q⟩ := h1 _ _ _ _ h
    exact h2 _ _ _ _ q
theorem gT_ex {gs : GFs} (h : GsEx gs) : GEx (gT gs) := fun d δ M Q q => by cases d <;> first | exact (q : False).elim | exact h _ _ _ _ q
theorem gsNil_mono : MonoGs gsNil := fun ds δ M Q Q' q h => by cases ds <;> first | exact q _ _ h | exact (h : False).elim
theorem gsCons_mono {g : GF} {gs : GFs} (h1 : MonoG g) (h2 : MonoGs gs) : MonoGs (gsCons g gs) := fun ds δ M Q Q' q h => by
  cases ds with
  | nil => exact (h : False).elim
  | cons d r => exact h1 _ _ _ _ _ (fun _ _ z => h2 _ _ _ _ _ q z) h
end
end Z
set_option maxHeartbeats 4000000
namespace Z
open PySem PySem.Spec PyProof.Rows L2 RZ
/-! ### enumerate(zip(t, u)) over two tuples: the zip's own tuple may be out -/
abbrev IsZ (h : Heap) (z TI TO : Addr) (f0 : Value) (f : Bool) : Prop :=
  h.get? z = some { cls := .type "zip", dict := none, data := .fields #[f0, .bool f, .bool false, .ref TI, .ref TO], slots := #[] }
def OutF (f0 : Value) : Prop := f0 = .none ∨ ∃ T : Addr, f0 = rawInt T
section
variable {prog : Program} {w : World} {A : Around} {E : Value → Shared → Prop} {s : Shared}
theorem alive_any {a : Addr} {Q : Option Obj → Shared → Prop} (h : Q (s.heap.get? a) s) : wpAny (model prog w) A (loadIfAlive a) Q E s := fun _ _ _ => h
theorem owned_zip {z TI TO : Addr} {f0 : Value} {f : Bool} {Q : Bool → Shared → Prop} (hz : IsZ s.heap z TI TO f0 f) (ho : OutF f0) (h1 : Q true s)
    (h2 : ∀ h', IsZ h' z TI TO f0 true → Heap.SameBut z s.heap h' → Q false { s with heap := h' }) : wpAny (model prog w) A (Builtin.SmallTypes.ownedTupleIsFree (.ref z)) Q E s := by
  unfold Builtin.SmallTypes.ownedTupleIsFree
  rcases ho with rfl | ⟨T, rfl⟩
  · exact wpAny_bind (wpAny_field hz rfl (x := .none) rfl (wpAny_pure h1))
  · refine wpAny_bind (wpAny_field hz rfl (x := rawInt T) rfl ?_)
    show wpAny _ _ (loadIfAlive ((T : Int).toNat) >>= _) _ _ _
    rw [Int.toNat_natCast]
    refine wpAny_bind (alive_any ?_)
    cases hT : s.heap.get? T with
    | none =>
      simp only [Option.isNone_none, if_true]
      exact wpAny_pure h1
    | some oT =>
      simp only [Option.isNone_some, Bool.false_eq_true, if_false]
      refine wpAny_bind (wpAny_field hz rfl (x := .bool f) rfl ?_)
      cases f with
      | true =>
        rw [if_neg (show ¬ ((Value.bool true != Value.bool true) = true) from Bool.false_ne_true)]
        exact wpAny_pure (h2 s.heap hz (Heap.SameBut.refl _ _))
      | false =>
        rw [if_pos (show (Value.bool false != Value.bool true) = true from rfl)]
        exact wpAny_bind (wpAny_setField_rec hz (by simp) fun h₁ hz₁ hs₁ => wpAny_pure (h2 h₁ hz₁ hs₁))
theorem zipG_next_item {z TI TO i1 i2 l1 l2 : Addr} {k1 k2 : Nat} {f0 : Value} {f : Bool} {xs ys : Array Value} {x y a b : Value} {Q : Value → Shared → Prop} (D : ZipApart z TI TO i1 i2 l1 l2)
    (hz : IsZ s.heap z TI TO f0 f) (ho : OutF f0) (hTI : IsPair s.heap TI (.ref i1) (.ref i2)) (hTO : IsPair s.heap TO a b)
    (h1 : s.heap.IsTupleIter i1 l1 k1) (h2 : s.heap.IsTupleIter i2 l2 k2) (hl1 : s.heap.IsTuple l1 xs) (hl2 : s.heap.IsTuple l2 ys) (hx : xs[k1]? = some x) (hy : ys[k2]? = some y)
    (hQ : ∀ h', (∃ g0 g, IsZ h' z TI TO g0 g ∧ OutF g0) → (∃ a b, IsPair h' TO a b) → h'.IsTupleIter i1 l1 (k1 + 1) → h'.IsTupleIter i2 l2 (k2 + 1) → IsPair h' s.heap.objs.size x y → h'.objs.size = s.heap.objs.size + 1 →
      (∀ c o, c ≠ z → c ≠ TO → c ≠ i1 → c ≠ i2 → s.heap.get? c = some o → h'.get? c = some o) → Q (.ref s.heap.objs.size) { s with heap := h' }) :
    wpAny (model prog w) A (Builtin.«zip.__next__» ⟨[.ref z], []⟩) (fun fin s' => ∃ v, fin = .done (.ret v) ∧ Q v s') E s := by
  show wpAny _ _ (field (.ref z) 2 >>= _) _ _ _
  refine wpAny_bind (wpAny_field hz rfl (x := .bool false) rfl ?_)
  show wpAny _ _ (field (.ref z) 3 >>= _) _ _ _
  refine wpAny_bind (wpAny_field hz rfl (x := .ref TI) rfl ?_)
  refine wpAny_bind (wpAny_seqItems hTI rfl ?_)
  show wpAny _ _ (Builtin.SmallTypes.ownedTupleIsFree (.ref z) >>= _) _ _ _
  refine wpAny_bind (owned_zip hz ho ?_ fun h₁ hz₁ hs₁ => ?_)
  · simp only [if_true]
    refine wpAny_bind (wpAny_rule ?_)
    refine wpAny_bind (wpAny_field hz rfl (x := .ref TO) rfl ?_)
    refine wpAny_bind (wpAny_setField_rec hz (by simp) fun h₁ hz₁ hs₁ => ?_)
    replace hz₁ : IsZ h₁ z TI TO .ellipsis f := hz₁
    refine wpAny_bind ?_
    simp only [List.zipIdx_cons, List.zipIdx_nil, List.forIn_cons, List.forIn_nil]
    refine wpAny_bind (wpAny_bind (wpAny_onRaise ?_))
    show wpAny _ _ (Builtin.SmallTypes.nextOf (.ref i1) >>= _) _ _ _
    refine wpAny_bind (nextOf_tuple_item (h1.extBut hs₁.extBut D.i1z) (hl1.extBut hs₁.extBut D.l1z) hx fun h₂ h1₂ hs₂ => wpAny_pure ?_)
    have hTO₂ : IsPair h₂ TO a b := hs₂.extBut _ _ D.TOi1 (hs₁.extBut _ _ D.TOz hTO)
    refine wpAny_bind (wpAny_seqItems hTO₂ rfl ?_)
    refine wpAny_bind (wpAny_updateSeq_pair hTO₂ fun h₃ hTO₃ hs₃ => ?_)
    replace hTO₃ : IsPair h₃ TO x b := hTO₃
    refine wpAny_bind (wpAny_letGo (wpAny_pure ?_))
    refine wpAny_bind (wpAny_bind (wpAny_onRaise ?_))
    show wpAny _ _ (Builtin.SmallTypes.nextOf (.ref i2) >>= _) _ _ _
    refine wpAny_bind (nextOf_tuple_item (((h2.extBut hs₁.extBut D.i2z).extBut hs₂.extBut D.i12.symm).extBut hs₃.extBut D.TOi2.symm)
      (((hl2.extBut hs₁.extBut D.l2z).extBut hs₂.extBut D.l2i1).extBut hs₃.extBut D.l2TO) hy fun h₄ h2₄ hs₄ => wpAny_pure ?_)
    have hTO₄ : IsPair h₄ TO x b := hs₄.extBut _ _ D.TOi2 hTO₃
    refine wpAny_bind (wpAny_seqItems hTO₄ rfl ?_)
    refine wpAny_bind (wpAny_updateSeq_pair hTO₄ fun h₅ hTO₅ hs₅ => ?_)
    replace hTO₅ : IsPair h₅ TO x y := hTO₅
    refine wpAny_bind (wpAny_letGo (wpAny_pure (wpAny_pure ?_)))
    refine wpAny_bind (wpAny_seqItems hTO₅ rfl ?_)
    refine wpAny_bind (wpAny_newTuple ?_)
    have hsz : h₅.objs.size = s.heap.objs.size := by rw [hs₅.1, hs₄.1, hs₃.1, hs₂.1, hs₁.1]
    have hz₅ : IsZ h₅ z TI TO .ellipsis f := hs₅.extBut _ _ D.TOz.symm (hs₄.extBut _ _ D.i2z.symm (hs₃.extBut _ _ D.TOz.symm (hs₂.extBut _ _ D.i1z.symm hz₁)))
    have hk₅ : ∀ c o, c ≠ z → c ≠ TO → c ≠ i1 → c ≠ i2 → s.heap.get? c = some o → h₅.get? c = some o := fun c o c1 c2 c3 c4 e =>
      hs₅.extBut _ _ c2 (hs₄.extBut _ _ c4 (hs₃.extBut _ _ c2 (hs₂.extBut _ _ c3 (hs₁.extBut _ _ c1 e))))
    have h1₅ : h₅.IsTupleIter i1 l1 (k1 + 1) := ((h1₂.extBut hs₃.extBut D.TOi1.symm).extBut hs₄.extBut D.i12).extBut hs₅.extBut D.TOi1.symm
    have h2₅ : h₅.IsTupleIter i2 l2 (k2 + 1) := h2₄.extBut hs₅.extBut D.TOi2.symm
    have hzlt : z < h₅.objs.size := Heap.lt_size hz₅
    show wpAny _ _ (Builtin.SmallTypes.ownedTupleHandOut (.ref z) (.ref h₅.objs.size) >>= _) _ _ _
    refine wpAny_bind ?_
    unfold Builtin.SmallTypes.ownedTupleHandOut
    have hz₆ : IsZ (h₅.push { cls := .type "tuple", data := .seq #[x, y] }) z TI TO .ellipsis f := Heap.get?_push_of_some _ hz₅
    refine wpAny_bind (wpAny_setField_rec hz₆ (by simp) fun h₇ hz₇ hs₇ => ?_)
    replace hz₇ : IsZ h₇ z TI TO (rawInt h₅.objs.size) f := hz₇
    refine wpAny_setField_rec hz₇ (by simp) fun h₈ hz₈ hs₈ => ?_
    replace hz₈ : IsZ h₈ z TI TO (rawInt h₅.objs.size) false := hz₈
    have up : ∀ c o, c ≠ z → h₅.get? c = some o → h₈.get? c = some o := fun c o c1 e => hs₈.extBut _ _ c1 (hs₇.extBut _ _ c1 (Heap.get?_push_of_some _ e))
    have hT₈ : IsPair h₈ h₅.objs.size x y := hs₈.extBut _ _ (Nat.ne_of_gt hzlt) (hs₇.extBut _ _ (Nat.ne_of_gt hzlt) (Heap.get?_push_size _ rfl))
    have hz8 : h₈.objs.size = h₅.objs.size + 1 := by rw [hs₈.1, hs₇.1, Heap.size_push]
    rw [hsz] at hz₈ hT₈ hz8
    refine wpAny_pure ⟨_, rfl, ?_⟩
    show Q (.ref h₅.objs.size) _
    rw [hsz]
    exact hQ h₈ ⟨_, _, hz₈, .inr ⟨_, rfl⟩⟩ ⟨_, _, up _ _ D.TOz hTO₅⟩ (h1₅.at fun o e => up _ o D.i1z e) (h2₅.at fun o e => up _ o D.i2z e) hT₈ hz8 fun c o c1 c2 c3 c4 e => up c o c1 (hk₅ c o c1 c2 c3 c4 e)
  · simp only [Bool.false_eq_true, if_false]
    refine wpAny_bind ?_
    rw [← Array.forIn_toList]
    simp only [List.forIn_cons, List.forIn_nil]
    refine wpAny_bind (wpAny_bind (wpAny_holding ?_))
    show wpAny _ _ (Builtin.SmallTypes.nextOf (.ref i1) >>= _) _ _ _
    refine wpAny_bind (nextOf_tuple_item (s := { s with heap := h₁ }) (h1.extBut hs₁.extBut D.i1z) (hl1.extBut hs₁.extBut D.l1z) hx fun h₂ h1₂ hs₂ => wpAny_pure ?_)
    refine wpAny_pure ?_
    refine wpAny_bind (wpAny_bind (wpAny_holding ?_))
    show wpAny _ _ (Builtin.SmallTypes.nextOf (.ref i2) >>= _) _ _ _
    refine wpAny_bind (nextOf_tuple_item (s := { s with heap := h₂ }) ((h2.extBut hs₁.extBut D.i2z).extBut hs₂.extBut D.i12.symm) ((hl2.extBut hs₁.extBut D.l2z).extBut hs₂.extBut D.l2i1) hy fun h₃ h2₃ hs₃ => wpAny_pure ?_)
    refine wpAny_pure (wpAny_pure ?_)
    show wpAny _ _ (newTuple [x, y] >>= _) _ _ _
    refine wpAny_bind (wpAny_newTuple ?_)
    have hsz : h₃.objs.size = s.heap.objs.size := by rw [hs₃.1, hs₂.1, hs₁.1]
    have hz₃ : IsZ h₃ z TI TO f0 true := hs₃.extBut _ _ D.i2z.symm (hs₂.extBut _ _ D.i1z.symm hz₁)
    have hk : ∀ c o, c ≠ z → c ≠ i1 → c ≠ i2 → s.heap.get? c = some o → h₃.get? c = some o := fun c o c1 c2 c3 e => hs₃.extBut _ _ c3 (hs₂.extBut _ _ c2 (hs₁.extBut _ _ c1 e))
    have h1₃ : h₃.IsTupleIter i1 l1 (k1 + 1) := h1₂.extBut hs₃.extBut D.i12
    have hTO₃ : IsPair h₃ TO a b := hk _ _ D.TOz D.TOi1 D.TOi2 hTO
    refine wpAny_pure ⟨_, rfl, ?_⟩
    show Q (.ref h₃.objs.size) _
    have hp : IsPair (h₃.push { cls := .type "tuple", data := .seq #[x, y] }) h₃.objs.size x y := Heap.get?_push_size _ rfl
    have hz4 : (h₃.push { cls := .type "tuple", data := .seq #[x, y] }).objs.size = h₃.objs.size + 1 := Heap.size_push ..
    rw [hsz] at hp hz4 ⊢
    exact hQ _ ⟨_, _, Heap.get?_push_of_some _ hz₃, ho⟩ ⟨_, _, Heap.get?_push_of_some _ hTO₃⟩ (h1₃.at fun o e => Heap.get?_push_of_some _ e) (h2₃.at fun o e => Heap.get?_push_of_some _ e) hp hz4 fun c o c1 _ c3 c4 e => Heap.get?_push_of_some _ (hk c o c1 c3 c4 e)
theorem zipG_next_end {z TI TO i1 i2 l1 l2 : Addr} {k1 k2 : Nat} {f0 : Value} {f : Bool} {xs ys : Array Value} {a b : Value} {Q : Fin → Shared → Prop} (hh : A.handled = none) (D : ZipApart z TI TO i1 i2 l1 l2)
    (hz : IsZ s.heap z TI TO f0 f) (ho : OutF f0) (hTI : IsPair s.heap TI (.ref i1) (.ref i2)) (hTO : IsPair s.heap TO a b)
    (h1 : s.heap.IsTupleIter i1 l1 k1) (h2 : s.heap.IsTupleIter i2 l2 k2) (hl1 : s.heap.IsTuple l1 xs) (hl2 : s.heap.IsTuple l2 ys) (hend : xs[k1]? = none ∨ ys[k2]? = none)
    (hE : ∀ h' e, (∀ c o, c ≠ z → c ≠ TO → c ≠ i1 → c ≠ i2 → s.heap.get? c = some o → h'.get? c = some o) → (∃ o, h'.get? e = some o ∧ o.cls = .type "StopIteration") → E (.ref e) { s with heap := h' }) :
    wpAny (model prog w) A (Builtin.«zip.__next__» ⟨[.ref z], []⟩) Q E s := by
  show wpAny _ _ (field (.ref z) 2 >>= _) _ _ _
  refine wpAny_bind (wpAny_field hz rfl (x := .bool false) rfl ?_)
  show wpAny _ _ (field (.ref z) 3 >>= _) _ _ _
  refine wpAny_bind (wpAny_field hz rfl (x := .ref TI) rfl ?_)
  refine wpAny_bind (wpAny_seqItems hTI rfl ?_)
  show wpAny _ _ (Builtin.SmallTypes.ownedTupleIsFree (.ref z) >>= _) _ _ _
  refine wpAny_bind (owned_zip hz ho ?_ fun h₁ hz₁ hs₁ => ?_)
  · simp only [if_true]
    refine wpAny_bind (wpAny_rule ?_)
    refine wpAny_bind (wpAny_field hz rfl (x := .ref TO) rfl ?_)
    refine wpAny_bind (wpAny_setField_rec hz (by simp) fun h₁ hz₁ hs₁ => ?_)
    replace hz₁ : IsZ h₁ z TI TO .ellipsis f := hz₁
    refine wpAny_bind ?_
    simp only [List.zipIdx_cons, List.zipIdx_nil, List.forIn_cons, List.forIn_nil]
    refine wpAny_bind (wpAny_bind (wpAny_onRaise ?_))
    show wpAny _ _ (Builtin.SmallTypes.nextOf (.ref i1) >>= _) _ _ _
    cases hx : xs[k1]? with
    | none =>
      refine wpAny_bind (nextOf_tuple_end hh (h1.extBut hs₁.extBut D.i1z) (hl1.extBut hs₁.extBut D.l1z) hx fun h₂ e hs₂ he => ?_)
      obtain ⟨oe, hoe, hce⟩ := he
      have hz₂ : IsZ h₂ z TI TO .ellipsis f := hs₂ _ _ D.i1z.symm hz₁
      have hez : e ≠ z := fun x => by subst x; rw [hz₂] at hoe; cases hoe; simp at hce
      refine wpAny_setField_rec hz₂ (by simp) fun h₃ _ hs₃ => hE h₃ e (fun c o c1 _ c3 _ x => hs₃.extBut _ _ c1 (hs₂ _ _ c3 (hs₁.extBut _ _ c1 x))) ⟨oe, hs₃.extBut _ _ hez hoe, hce⟩
    | some x =>
      have hy : ys[k2]? = none := by rcases hend with h | h; rw [hx] at h; cases h; exact h
      refine wpAny_bind (nextOf_tuple_item (h1.extBut hs₁.extBut D.i1z) (hl1.extBut hs₁.extBut D.l1z) hx fun h₂ h1₂ hs₂ => wpAny_pure ?_)
      have hTO₂ : IsPair h₂ TO a b := hs₂.extBut _ _ D.TOi1 (hs₁.extBut _ _ D.TOz hTO)
      refine wpAny_bind (wpAny_seqItems hTO₂ rfl ?_)
      refine wpAny_bind (wpAny_updateSeq_pair hTO₂ fun h₃ hTO₃ hs₃ => ?_)
      refine wpAny_bind (wpAny_letGo (wpAny_pure ?_))
      refine wpAny_bind (wpAny_bind (wpAny_onRaise ?_))
      show wpAny _ _ (Builtin.SmallTypes.nextOf (.ref i2) >>= _) _ _ _
      refine wpAny_bind (nextOf_tuple_end hh (((h2.extBut hs₁.extBut D.i2z).extBut hs₂.extBut D.i12.symm).extBut hs₃.extBut D.TOi2.symm)
        (((hl2.extBut hs₁.extBut D.l2z).extBut hs₂.extBut D.l2i1).extBut hs₃.extBut D.l2TO) hy fun h₄ e hs₄ he => ?_)
      obtain ⟨oe, hoe, hce⟩ := he
      have hz₄ : IsZ h₄ z TI TO .ellipsis f := hs₄ _ _ D.i2z.symm (hs₃.extBut _ _ D.TOz.symm (hs₂.extBut _ _ D.i1z.symm hz₁))
      have hez : e ≠ z := fun x => by subst x; rw [hz₄] at hoe; cases hoe; simp at hce
      refine wpAny_setField_rec hz₄ (by simp) fun h₅ _ hs₅ => hE h₅ e (fun c o c1 c2 c3 c4 x => hs₅.extBut _ _ c1 (hs₄ _ _ c4 (hs₃.extBut _ _ c2 (hs₂.extBut _ _ c3 (hs₁.extBut _ _ c1 x))))) ⟨oe, hs₅.extBut _ _ hez hoe, hce⟩
  · simp only [Bool.false_eq_true, if_false]
    refine wpAny_bind ?_
    rw [← Array.forIn_toList]
    simp only [List.forIn_cons, List.forIn_nil]
    refine wpAny_bind (wpAny_bind (wpAny_holding ?_))
    show wpAny _ _ (Builtin.SmallTypes.nextOf (.ref i1) >>= _) _ _ _
    cases hx : xs[k1]? with
    | none =>
      refine wpAny_bind (nextOf_tuple_end (s := { s with heap := h₁ }) hh (h1.extBut hs₁.extBut D.i1z) (hl1.extBut hs₁.extBut D.l1z) hx fun h₂ e hs₂ he => ?_)
      exact hE h₂ e (fun c o c1 _ c3 _ x => hs₂ _ _ c3 (hs₁.extBut _ _ c1 x)) he
    | some x =>
      have hy : ys[k2]? = none := by rcases hend with h | h; rw [hx] at h; cases h; exact h
      refine wpAny_bind (nextOf_tuple_item (s := { s with heap := h₁ }) (h1.extBut hs₁.extBut D.i1z) (hl1.extBut hs₁.extBut D.l1z) hx fun h₂ h1₂ hs₂ => wpAny_pure ?_)
      refine wpAny_pure ?_
      refine wpAny_bind (wpAny_bind (wpAny_holding ?_))
      show wpAny _ _ (Builtin.SmallTypes.nextOf (.ref i2) >>= _) _ _ _
      refine wpAny_bind (nextOf_tuple_end (s := { s with heap := h₂ }) hh ((h2.extBut hs₁.extBut D.i2z).extBut hs₂.extBut D.i12.symm) ((hl2.extBut hs₁.extBut D.l2z).extBut hs₂.extBut D.l2i1) hy fun h₃ e hs₃ he => ?_)
      exact hE h₃ e (fun c o c1 _ c3 c4 x => hs₃ _ _ c4 (hs₂.extBut _ _ c3 (hs₁.extBut _ _ c1 x))) he
end
end Z
set_option maxHeartbeats 4000000
namespace Z
open PySem PySem.Spec PyProof.Rows L2 RZ
structure ZipSt (z TI TO i1 i2 a b : Addr) (i : Nat) (h : Heap) : Prop where
  own : ∃ f0 f, IsZ h z TI TO f0 f ∧ OutF f0
  ti : IsPair h TI (.ref i1) (.ref i2)
  to : ∃ x y, IsPair h TO x y
  h1 : h.IsTupleIter i1 a i
  h2 : h.IsTupleIter i2 b i
theorem ZipSt.keep {z TI TO i1 i2 a b : Addr} {i : Nat} {h h' : Heap} (s : ZipSt z TI TO i1 i2 a b i h) (k : ∀ c ∈ [z, TI, TO, i1, i2], ∀ o, h.get? c = some o → h'.get? c = some o) : ZipSt z TI TO i1 i2 a b i h' := by
  obtain ⟨⟨f0, f, q, q'⟩, t, ⟨x, y, u⟩, a1, a2⟩ := s
  exact ⟨⟨f0, f, k z (by simp) _ q, q'⟩, k TI (by simp) _ t, ⟨x, y, k TO (by simp) _ u⟩, a1.at fun o q => k i1 (by simp) o q, a2.at fun o q => k i2 (by simp) o q⟩
section
variable {prog : Program} {w : World} {A : Around} {E : Value → Shared → Prop} {s : Shared}
theorem nextOf_zip {z TI TO i1 i2 l1 l2 : Addr} {i : Nat} {xs ys : Array Value} {x y : Value} {Q : Value → Shared → Prop} (D : ZipApart z TI TO i1 i2 l1 l2) (S : ZipSt z TI TO i1 i2 l1 l2 i s.heap)
    (hl1 : s.heap.IsTuple l1 xs) (hl2 : s.heap.IsTuple l2 ys) (hx : xs[i]? = some x) (hy : ys[i]? = some y)
    (hQ : ∀ h', ZipSt z TI TO i1 i2 l1 l2 (i + 1) h' → IsPair h' s.heap.objs.size x y → h'.objs.size = s.heap.objs.size + 1 →
      (∀ c o, c ≠ z → c ≠ TO → c ≠ i1 → c ≠ i2 → s.heap.get? c = some o → h'.get? c = some o) → Q (.ref s.heap.objs.size) { s with heap := h' }) :
    wpAny (model prog w) A (Builtin.SmallTypes.nextOf (.ref z)) Q E s := by
  obtain ⟨⟨f0, f, hz, ho⟩, hTI, ⟨a, b, hTO⟩, h1, h2⟩ := S
  have hTy : s.TypeIs (.ref z) "zip" := ⟨_, hz, rfl⟩
  unfold Builtin.SmallTypes.nextOf
  refine wpAny_bind (wpAny_callSpecial?_slot (name := Str.ofString "__next__") hTy F.slot_zip_next
    (wpAny_call_entry F.slot_zip_next hTy F.entry_zip_next (zipG_next_item D hz ho hTI hTO h1 h2 hl1 hl2 hx hy fun h' o' t' a1 a2 p sz k => ?_) (F.args_zip_next_1 _)))
  exact wpAny_pure (hQ h' ⟨o', k _ _ D.TIz D.TITO D.TIi1 D.TIi2 hTI, t', a1, a2⟩ p sz k)
theorem nextOf_zip_end {z TI TO i1 i2 l1 l2 : Addr} {i : Nat} {xs ys : Array Value} {Q : Value → Shared → Prop} (hh : A.handled = none) (D : ZipApart z TI TO i1 i2 l1 l2) (S : ZipSt z TI TO i1 i2 l1 l2 i s.heap)
    (hl1 : s.heap.IsTuple l1 xs) (hl2 : s.heap.IsTuple l2 ys) (hend : xs[i]? = none ∨ ys[i]? = none)
    (hE : ∀ h' e, (∀ c o, c ≠ z → c ≠ TO → c ≠ i1 → c ≠ i2 → s.heap.get? c = some o → h'.get? c = some o) → (∃ o, h'.get? e = some o ∧ o.cls = .type "StopIteration") → E (.ref e) { s with heap := h' }) :
    wpAny (model prog w) A (Builtin.SmallTypes.nextOf (.ref z)) Q E s := by
  obtain ⟨⟨f0, f, hz, ho⟩, hTI, ⟨a, b, hTO⟩, h1, h2⟩ := S
  have hTy : s.TypeIs (.ref z) "zip" := ⟨_, hz, rfl⟩
  unfold Builtin.SmallTypes.nextOf
  exact wpAny_bind (wpAny_callSpecial?_slot (name := Str.ofString "__next__") hTy F.slot_zip_next
    (wpAny_call_entry F.slot_zip_next hTy F.entry_zip_next (zipG_next_end hh D hz ho hTI hTO h1 h2 hl1 hl2 hend hE) (F.args_zip_next_1 _)))
theorem enumZ_next_item {e z TI TO i1 i2 l1 l2 : Addr} {i : Nat} {c : Int} {xs ys : Array Value} {x y old : Value} {Q : Value → Shared → Prop} (D : ZipApart z TI TO i1 i2 l1 l2) (he : IsEnum s.heap e z c old) (S : ZipSt z TI TO i1 i2 l1 l2 i s.heap)
    (hl1 : s.heap.IsTuple l1 xs) (hl2 : s.heap.IsTuple l2 ys) (hx : xs[i]? = some x) (hy : ys[i]? = some y) (hef : e ∉ [z, TI, TO, i1, i2])
    (hQ : ∀ h' tk, IsEnumOut h' e z (c + 1) (.ref s.heap.objs.size) (s.heap.objs.size + 1) → ZipSt z TI TO i1 i2 l1 l2 (i + 1) h' → IsPair h' s.heap.objs.size x y →
      h'.get? (s.heap.objs.size + 1) = some { cls := .type "tuple", data := .seq #[.int c tk, .ref s.heap.objs.size] } → h'.objs.size = s.heap.objs.size + 2 →
      (∀ b o, b ∉ [e, z, TI, TO, i1, i2] → s.heap.get? b = some o → h'.get? b = some o) → Q (.ref (s.heap.objs.size + 1)) { s with heap := h', toks := tk + 1 }) :
    wpAny (model prog w) A (Builtin.«enumerate.__next__» ⟨[.ref e], []⟩) (fun fin s' => ∃ v, fin = .done (.ret v) ∧ Q v s') E s := by
  obtain ⟨hp, g, d, tk, os⟩ := s
  have hel : e < hp.objs.size := Heap.lt_size he
  have e1 : e ≠ z := fun q => hef (by simp [q])
  have e2 : e ≠ TO := fun q => hef (by simp [q])
  have e3 : e ≠ i1 := fun q => hef (by simp [q])
  have e4 : e ≠ i2 := fun q => hef (by simp [q])
  have e5 : e ≠ TI := fun q => hef (by simp [q])
  show wpAny _ _ (field (.ref e) 2 >>= _) _ _ _
  refine wpAny_bind (wpAny_field he rfl (x := .ref z) rfl ?_)
  refine wpAny_bind (nextOf_zip D S hl1 hl2 hx hy fun h₁ S₁ p₁ sz₁ k₁ => ?_)
  have he₁ : IsEnum h₁ e z c old := k₁ e _ e1 e2 e3 e4 he
  show wpAny _ _ (field (.ref e) 3 >>= _) _ _ ⟨h₁, g, d, tk, os⟩
  refine wpAny_bind (wpAny_field he₁ rfl (x := rawInt c) rfl ?_)
  show wpAny _ _ (field (.ref e) 4 >>= _) _ _ ⟨h₁, g, d, tk, os⟩
  refine wpAny_bind (wpAny_field he₁ rfl (x := .none) rfl ?_)
  show wpAny _ _ (mkInt c >>= _) _ _ ⟨h₁, g, d, tk, os⟩
  refine wpAny_bind (wpAny_mkInt ?_)
  show wpAny _ _ (setField (.ref e) 3 (rawInt (c + 1)) >>= _) _ _ ⟨h₁, g, d, tk + 1, os⟩
  refine wpAny_bind (wpAny_setField_rec he₁ (by simp) fun h₂ he₂ hs₂ => ?_)
  replace hs₂ : Heap.SameBut e h₁ h₂ := hs₂
  replace he₂ : IsEnum h₂ e z (c + 1) old := he₂
  show wpAny _ _ (setField (.ref e) 4 .none >>= _) _ _ ⟨h₂, g, d, tk + 1, os⟩
  refine wpAny_bind (wpAny_setField_rec he₂ (by simp) fun h₃ he₃ hs₃ => ?_)
  replace hs₃ : Heap.SameBut e h₂ h₃ := hs₃
  replace he₃ : IsEnum h₃ e z (c + 1) old := he₃
  show wpAny _ _ (newTuple [.int c tk, .ref hp.objs.size] >>= _) _ _ ⟨h₃, g, d, tk + 1, os⟩
  refine wpAny_bind (wpAny_newTuple ?_)
  have he₄ : IsEnum (h₃.push { cls := .type "tuple", data := .seq #[.int c tk, .ref hp.objs.size] }) e z (c + 1) old := Heap.get?_push_of_some _ he₃
  generalize hh₄ : h₃.push { cls := .type "tuple", data := .seq #[.int c tk, .ref hp.objs.size] } = h₄ at he₄
  have hsz : h₃.objs.size = hp.objs.size + 1 := by rw [hs₃.1, hs₂.1, sz₁]
  have ht₄ : h₄.get? (hp.objs.size + 1) = some { cls := .type "tuple", data := .seq #[.int c tk, .ref hp.objs.size] } := by rw [← hh₄, ← hsz]; exact Heap.get?_push_size _ rfl
  have hz₄ : h₄.objs.size = hp.objs.size + 2 := by rw [← hh₄, Heap.size_push, hsz]
  have u₄ : ∀ b o, b ≠ e → h₁.get? b = some o → h₄.get? b = some o := fun b o hbe hb => by
    rw [← hh₄]; exact Heap.get?_push_of_some _ (hs₃.extBut b o hbe (hs₂.extBut b o hbe hb))
  have hne : hp.objs.size ≠ e := Nat.ne_of_gt hel
  have hne1 : hp.objs.size + 1 ≠ e := Nat.ne_of_gt (Nat.lt_succ_of_lt hel)
  show wpAny _ _ (Builtin.SmallTypes.ownedTupleIsFree (.ref e) >>= _) _ _ ⟨h₄, g, d, tk + 1, os⟩
  rw [hsz]
  clear hh₄ he₃ hs₃ he₂ hs₂ he₁ hsz h₃ h₂
  refine wpAny_bind ?_
  · unfold Builtin.SmallTypes.ownedTupleIsFree
    refine wpAny_bind (wpAny_field he₄ rfl (x := .none) rfl (wpAny_pure ?_))
    simp only [if_true]
    refine wpAny_bind (wpAny_rule ?_)
    refine wpAny_bind (wpAny_field he₄ rfl (x := old) rfl ?_)
    refine wpAny_bind (wpAny_setField_rec he₄ (by simp) fun h₅ he₅ hs₅ => ?_)
    replace hs₅ : Heap.SameBut e h₄ h₅ := hs₅
    replace he₅ : IsEnum h₅ e z (c + 1) (.ref hp.objs.size) := he₅
    show wpAny _ _ (Builtin.SmallTypes.ownedTupleHandOut (.ref e) (.ref (hp.objs.size + 1)) >>= _) _ _ ⟨h₅, g, d, tk + 1, os⟩
    refine wpAny_bind ?_
    · unfold Builtin.SmallTypes.ownedTupleHandOut
      refine wpAny_bind (wpAny_setField_rec he₅ (by simp) fun h₆ he₆ hs₆ => ?_)
      replace hs₆ : Heap.SameBut e h₅ h₆ := hs₆
      replace he₆ : IsEnumOut h₆ e z (c + 1) (.ref hp.objs.size) (hp.objs.size + 1) := he₆
      refine wpAny_setField_rec he₆ (by simp) fun h₇ he₇ hs₇ => ?_
      replace hs₇ : Heap.SameBut e h₆ h₇ := hs₇
      replace he₇ : IsEnumOut h₇ e z (c + 1) (.ref hp.objs.size) (hp.objs.size + 1) := he₇
      have u₇ : ∀ b o, b ≠ e → h₄.get? b = some o → h₇.get? b = some o := fun b o hbe y => hs₇.extBut b o hbe (hs₆.extBut b o hbe (hs₅.extBut b o hbe y))
      refine wpAny_bind (wpAny_letGo (wpAny_pure ⟨_, rfl, hQ h₇ tk he₇ ?_ ?_ ?_ ?_ ?_⟩))
      · refine S₁.keep fun b hb o y => u₇ b o ?_ (u₄ b o ?_ y) <;> exact fun q => hef (q ▸ hb)
      · exact u₇ _ _ hne (u₄ _ _ hne p₁)
      · exact u₇ _ _ hne1 ht₄
      · rw [hs₇.1, hs₆.1, hs₅.1, hz₄]
      · intro b o hb y
        have b0 : b ≠ e := fun q => hb (by simp [q])
        exact u₇ _ _ b0 (u₄ _ _ b0 (k₁ b o (fun q => hb (by simp [q])) (fun q => hb (by simp [q])) (fun q => hb (by simp [q])) (fun q => hb (by simp [q])) y))
theorem pyNext_enumZ_item {e z TI TO i1 i2 l1 l2 : Addr} {i : Nat} {c : Int} {xs ys : Array Value} {x y old : Value} {Q : Option Value → Shared → Prop} (D : ZipApart z TI TO i1 i2 l1 l2) (he : IsEnum s.heap e z c old) (S : ZipSt z TI TO i1 i2 l1 l2 i s.heap)
    (hl1 : s.heap.IsTuple l1 xs) (hl2 : s.heap.IsTuple l2 ys) (hx : xs[i]? = some x) (hy : ys[i]? = some y) (hef : e ∉ [z, TI, TO, i1, i2])
    (hQ : ∀ h' tk, IsEnumOut h' e z (c + 1) (.ref s.heap.objs.size) (s.heap.objs.size + 1) → ZipSt z TI TO i1 i2 l1 l2 (i + 1) h' → IsPair h' s.heap.objs.size x y →
      h'.get? (s.heap.objs.size + 1) = some { cls := .type "tuple", data := .seq #[.int c tk, .ref s.heap.objs.size] } → h'.objs.size = s.heap.objs.size + 2 →
      (∀ b o, b ∉ [e, z, TI, TO, i1, i2] → s.heap.get? b = some o → h'.get? b = some o) → Q (some (.ref (s.heap.objs.size + 1))) { s with heap := h', toks := tk + 1 }) :
    wpAny (model prog w) A (pyNext (.ref e)) Q E s := by
  have hT : s.TypeIs (.ref e) "enumerate" := ⟨_, he, rfl⟩
  unfold pyNext
  exact wpAny_bind (wpAny_attempt (wpAny_callSpecial?_slot (name := Str.ofString "__next__") hT F.slot_enumerate_next
    (wpAny_call_entry F.slot_enumerate_next hT F.entry_enumerate_next
      (enumZ_next_item D he S hl1 hl2 hx hy hef fun h' tk a b c d k q => wpAny_pure (hQ h' tk a b c d k q)) (F.args_enumerate_next_1 _))))
theorem pyNext_enumZ_end {e z TI TO i1 i2 l1 l2 : Addr} {i : Nat} {c : Int} {xs ys : Array Value} {old : Value} {Q : Option Value → Shared → Prop} (hh : A.handled = none) (D : ZipApart z TI TO i1 i2 l1 l2) (he : IsEnum s.heap e z c old) (S : ZipSt z TI TO i1 i2 l1 l2 i s.heap)
    (hl1 : s.heap.IsTuple l1 xs) (hl2 : s.heap.IsTuple l2 ys) (hend : xs[i]? = none ∨ ys[i]? = none)
    (hQ : ∀ h', (∀ c o, c ≠ z → c ≠ TO → c ≠ i1 → c ≠ i2 → s.heap.get? c = some o → h'.get? c = some o) → Q none { s with heap := h' }) : wpAny (model prog w) A (pyNext (.ref e)) Q E s := by
  have hT : s.TypeIs (.ref e) "enumerate" := ⟨_, he, rfl⟩
  unfold pyNext
  refine wpAny_bind (wpAny_attempt (wpAny_callSpecial?_slot (name := Str.ofString "__next__") hT F.slot_enumerate_next
    (wpAny_call_entry F.slot_enumerate_next hT F.entry_enumerate_next ?_ (F.args_enumerate_next_1 _))))
  show wpAny _ _ (field (.ref e) 2 >>= _) _ _ _
  refine wpAny_bind (wpAny_field he rfl (x := .ref z) rfl ?_)
  refine wpAny_bind (nextOf_zip_end hh D S hl1 hl2 hend fun h' x he' hx' => ?_)
  obtain ⟨o, ho, hc⟩ := hx'
  refine wpAny_bind (wpAny_isInstance (T := "StopIteration") (b := true) ⟨o, ho, hc⟩ isSubtype_stop ?_)
  exact wpAny_pure (hQ _ he')
end
/-! making it: enumerate of something that is its own iterator -/
theorem meets_enumerate_newS {v : Value} {H : Heap → Prop} (B : ∀ (prog : Program) (w : World) (A : Around) (E : Value → Shared → Prop) (s : Shared) (Q : Value → Shared → Prop), H s.heap → Q v s → wpAny (model prog w) A (pyIter v) Q E s) :
    Meets (Builtin.«enumerate.__new__» ⟨[.type "enumerate", v], []⟩) (fun _ R s => H s.heap ∧
      R (.ok (.ret (.ref s.heap.objs.size))) { s with heap := s.heap.push { cls := .type "enumerate", data := .fields #[.none, .bool false, v, rawInt 0, .none, .none] } }) :=
  .of_wp fun prog w A R s h => by
    obtain ⟨hp, g, d, tk, os⟩ := s; obtain ⟨h1, h⟩ := h
    have hsub := sub_enumerate
    have q1 : ∀ {A' : Around} {E : Value → Shared → Prop} {Q : Value → Shared → Prop}, Q v ⟨hp, g, d, tk, os⟩ → wpAny (model prog w) A' (pyIter v) Q E ⟨hp, g, d, tk, os⟩ :=
      fun q => B prog w _ _ ⟨hp, g, d, tk, os⟩ _ h1 q
    wp_walk using q1
    refine wpAny_stack_any fun st => wpAny_pure ?_
    split
    · rename_i c _ _ _ _ _
      cases (c == Value.type "enumerate")
      · wp_walk using q1
        exact ⟨_, rfl, h⟩
      · wp_walk using q1
        exact ⟨_, rfl, h⟩
    · wp_walk using q1
      exact ⟨_, rfl, h⟩
section
variable {prog : Program} {w : World} {A : Around} {E : Value → Shared → Prop} {s : Shared}
theorem enum_self {v : Value} {H : Heap → Prop} {Q : Value → Shared → Prop} (B : ∀ (prog : Program) (w : World) (A : Around) (E : Value → Shared → Prop) (s : Shared) (Q : Value → Shared → Prop), H s.heap → Q v s → wpAny (model prog w) A (pyIter v) Q E s) (h1 : H s.heap)
    (h : ∀ h', h'.get? s.heap.objs.size = some { cls := .type "enumerate", dict := none, data := .fields #[.none, .bool false, v, rawInt 0, .none, .none], slots := #[] } → h'.objs.size = s.heap.objs.size + 1 →
      (∀ b o, s.heap.get? b = some o → h'.get? b = some o) → Q (.ref s.heap.objs.size) { s with heap := h' }) :
    wpAny (model prog w) A (call (.type "enumerate") [v]) Q E s := by
  refine callType_new F.called_enumerate (by decide) (F.typeCall_enumerate_1 _) (F.newCall_enumerate_1 _) (fun obj => F.args_object_init_2 obj _) F.entry_enumerate_new
    (meets_enumerate_newS B) ⟨h1, ?_⟩
  have he := Heap.get?_push_size s.heap (o := { cls := .type "enumerate", data := .fields #[.none, .bool false, v, rawInt 0, .none, .none] }) rfl
  exact ⟨⟨_, he, rfl⟩, h _ he (Heap.size_push ..) fun b o x => Heap.get?_push_of_some _ x⟩
end
end Z
set_option maxHeartbeats 4000000
namespace Z
open PySem PySem.Spec PyProof.Rows L2 RZ
def IteZ (K : PySem.W.Frag) (a b : Addr) : It :=
  ⟨fun i H => ∃ (xs ys : List V) (x y : V), SqT K H a xs ∧ SqT K H b ys ∧ xs[i]? = some x ∧ ys[i]? = some y,
    fun i H v H' => ∃ T T2 x y, v = .ref T2 ∧ H T = none ∧ upd H T (.tup [x, y]) T2 = none ∧ H' = upd (upd H T (.tup [x, y])) T2 (.tup [.int (i : Nat), .ref T]) ∧ (∀ xs, SqT K H a xs → xs[i]? = some x) ∧ ∀ ys, SqT K H b ys → ys[i]? = some y,
    fun i H => ∃ xs ys : List V, SqT K H a xs ∧ SqT K H b ys ∧ (xs.length ≤ i ∨ ys.length ≤ i)⟩
theorem turn_enumZ {P : Program} {w : World} {K : PySem.W.Frag} {elts : List Expr} {kk : Nat} {tpos : Pos} {a b e z TI TO i1 i2 : Addr} (D : ZipApart z TI TO i1 i2 a b) (hef : e ∉ [z, TI, TO, i1, i2]) :
    Turn P w K (.Tuple elts kk tpos) (IteZ K a b) [e, z, TI, TO, i1, i2] e (fun i h => (∃ old, IsEnum h e z ((i : Nat) : Int) old) ∧ ZipSt z TI TO i1 i2 a b i h) where
  mem := by simp
  obj := fun i h st c hc => by
    obtain ⟨⟨old, he⟩, ⟨⟨f0, f, hz, _⟩, hTI, ⟨x, y, hTO⟩, ⟨o1, e1, _, d1⟩, ⟨o2, e2, _, d2⟩⟩⟩ := st
    have e' : c = e ∨ c = z ∨ c = TI ∨ c = TO ∨ c = i1 ∨ c = i2 := by simpa using hc
    rcases e' with q | q | q | q | q | q
    · rw [q]; exact ⟨_, he, fun v q => nomatch q⟩
    · rw [q]; exact ⟨_, hz, fun v q => nomatch q⟩
    · rw [q]; exact ⟨_, hTI, fun v q => nomatch q⟩
    · rw [q]; exact ⟨_, hTO, fun v q => nomatch q⟩
    · rw [q]; exact ⟨o1, e1, fun v q => by rw [d1] at q; cases q⟩
    · rw [q]; exact ⟨o2, e2, fun v q => by rw [d2] at q; cases q⟩
  keep := fun i h h' st k => by
    obtain ⟨⟨old, he⟩, S⟩ := st
    exact ⟨⟨old, k e (by simp) _ he⟩, S.keep fun c hc o q => k c (List.mem_cons_of_mem _ hc) o q⟩
  item := by
    intro X hP hw hK hc i pins s σ H E I hf st hg
    subst hP hw hK
    obtain ⟨⟨old, he⟩, S⟩ := st
    obtain ⟨xs, ys, x, y, hqx, hqy, hx, hy⟩ := hg
    obtain ⟨its, rv, p, _⟩ := I.tuple hqx
    obtain ⟨its2, rv2, p2, _⟩ := I.tuple hqy
    obtain ⟨u, hu, ru⟩ := rv.get hx
    obtain ⟨u2, hu2, ru2⟩ := rv2.get hy
    have hel : e < s.heap.objs.size := Heap.lt_size he
    refine pyNext_enumZ_item D he S p p2 (x := u) (y := u2) (by simpa using hu) (by simpa using hu2) hef fun h' tk ho S' hT hT2 hsz hk => ?_
    refine ⟨_, rfl, wpAny_letOwnedTupleGo_enum (s := { s with heap := h', toks := tk + 1 }) ho fun h'' he'' sb => ?_⟩
    have n1 : s.heap.objs.size ≠ e := Nat.ne_of_gt hel
    have n2 : s.heap.objs.size + 1 ≠ e := Nat.ne_of_gt (Nat.lt_succ_of_lt hel)
    have gT : h''.get? s.heap.objs.size = some { cls := .type "tuple", data := .seq #[u, u2] } := (sb.2 _ n1).trans hT
    have gT2 : h''.get? (s.heap.objs.size + 1) = some { cls := .type "tuple", data := .seq #[.int i tk, .ref s.heap.objs.size] } := (sb.2 _ n2).trans hT2
    have hA : (s.heap.push { cls := .type "tuple", data := .seq #[u, u2] }).objs.size = s.heap.objs.size + 1 := Heap.size_push ..
    have new1 : ObjOk X.prog X.w (upd H s.heap.objs.size (.tup [x, y])) (s.heap.push { cls := .type "tuple", data := .seq #[u, u2] }) s.heap.objs.size (.tup [x, y]) :=
      ⟨by show 2 ≤ sizeLine; decide, [u, u2], .cons ru (.cons ru2 .nil), ⟨_, Heap.get?_push_size _ rfl, rfl, _, rfl⟩⟩
    have I1 : Inv X pins σ (upd H s.heap.objs.size (.tup [x, y])) { s with heap := s.heap.push { cls := .type "tuple", data := .seq #[u, u2] } } :=
      I.laid (t' := s.toks) (fun b o q => Heap.get?_push_of_some _ q) (Nat.le_refl _) new1
    have new2 : ObjOk X.prog X.w (upd (upd H s.heap.objs.size (.tup [x, y])) (s.heap.objs.size + 1) (.tup [.int (i : Nat), .ref s.heap.objs.size])) h'' (s.heap.objs.size + 1) (.tup [.int (i : Nat), .ref s.heap.objs.size]) :=
      ⟨by show 2 ≤ sizeLine; decide, [.int i tk, .ref s.heap.objs.size], .cons ⟨_, rfl⟩ (.cons rfl .nil), ⟨_, gT2, rfl, _, rfl⟩⟩
    have low : ∀ c ∈ [e, z, TI, TO, i1, i2], c < s.heap.objs.size := fun c hcm => by
      obtain ⟨⟨f0, f, hz, _⟩, hTI, ⟨x0, y0, hTO⟩, ⟨o1, e1, _⟩, ⟨o2, e2, _⟩⟩ := S
      have e' : c = e ∨ c = z ∨ c = TI ∨ c = TO ∨ c = i1 ∨ c = i2 := by simpa using hcm
      rcases e' with q | q | q | q | q | q
      · rw [q]; exact hel
      · rw [q]; exact Heap.lt_size hz
      · rw [q]; exact Heap.lt_size hTI
      · rw [q]; exact Heap.lt_size hTO
      · rw [q]; exact Heap.lt_size e1
      · rw [q]; exact Heap.lt_size e2
    have hf1 : ∀ c ∈ [e, z, TI, TO, i1, i2], FpOk X pins (upd H s.heap.objs.size (.tup [x, y])) c := fun c hcm => ⟨by rw [upd_ne (Nat.ne_of_lt (low c hcm))]; exact (hf c hcm).1, (hf c hcm).2⟩
    have I2 : Inv X pins σ (upd (upd H s.heap.objs.size (.tup [x, y])) (s.heap.objs.size + 1) (.tup [.int (i : Nat), .ref s.heap.objs.size])) { s with heap := h'', toks := tk + 1 } :=
      I1.turnedNew (t' := tk + 1) (ch := [e, z, TI, TO, i1, i2]) (fun c o hb q => by
        have hce : c ≠ e := fun q' => hb (by simp [q'])
        rcases Heap.get?_push_cases q with ⟨rfl, rfl⟩ | q
        · exact gT
        · exact (sb.2 c hce).trans (hk c o hb q)) hf1 (Nat.le_of_eq hA) new2
    refine ⟨.ref (s.heap.objs.size + 1), _, I2, rfl, ⟨_, _, x, y, rfl, I.hok.fresh (Nat.le_refl _), ?_, rfl, fun l hl => by rw [I.tuple_inj hl hqx]; exact hx, fun l hl => by rw [I.tuple_inj hl hqy]; exact hy⟩, ⟨⟨.ref s.heap.objs.size, ?_⟩, ?_⟩, fun c hcm => ?_⟩
    · rw [upd_ne (show s.heap.objs.size + 1 ≠ s.heap.objs.size from Nat.succ_ne_self _)]
      exact I.hok.fresh (Nat.le_succ _)
    · have e1 : ((i + 1 : Nat) : Int) = (i : Int) + 1 := by omega
      rw [e1]; exact he''
    · exact S'.keep fun c hcm o q => (sb.2 c fun q' => hef (q' ▸ hcm)).trans q
    · have lt := low c hcm
      rw [upd_ne (Nat.ne_of_lt (Nat.lt_succ_of_lt lt)), upd_ne (Nat.ne_of_lt lt)]
      exact (hf c hcm).1
  done := by
    intro X hP hw hK hc i pins s σ H E I hf st hg
    subst hP hw hK
    obtain ⟨⟨old, he⟩, S⟩ := st
    obtain ⟨xs, ys, hqx, hqy, hend⟩ := hg
    obtain ⟨its, rv, p, _⟩ := I.tuple hqx
    obtain ⟨its2, rv2, p2, _⟩ := I.tuple hqy
    have l1 := rv.length
    have l2 := rv2.length
    have hee : its.toArray[i]? = none ∨ its2.toArray[i]? = none := by
      rcases hend with q | q
      · exact .inl (by simp; omega)
      · exact .inr (by simp; omega)
    exact pyNext_enumZ_end (I.ok.hd hc) D he S p p2 hee fun h' hk => ⟨rfl, I.turnedL (t' := s.toks) (ch := [e, z, TI, TO, i1, i2]) (fun c o hb q =>
      hk c o (fun q' => hb (by simp [q'])) (fun q' => hb (by simp [q'])) (fun q' => hb (by simp [q'])) (fun q' => hb (by simp [q'])) q) hf⟩
  self := fun A i s Q E st h => let ⟨⟨_, he⟩, _⟩ := st; wpAny_pyIter_enum he h
def iEnumZipV (K : PySem.W.Frag) (ta : TA) : TI := fun σ H R => ta σ H fun vs H1 => ∃ a b xs ys, vs = [.ref a, .ref b] ∧ SqT K H1 a xs ∧ SqT K H1 b ys ∧ (xs.length ≤ sizeLine → R (IteZ K a b) H1)
theorem zip_self_iter {z TI TO : Addr} : ∀ (prog : Program) (w : World) (A : Around) (E : Value → Shared → Prop) (s : Shared) (Q : Value → Shared → Prop), IsZip s.heap z TI TO .none → Q (.ref z) s → wpAny (model prog w) A (pyIter (.ref z)) Q E s :=
  fun _ _ _ _ _ _ hz q => wpAny_pyIter_zip hz q
section
variable {X : Cx} {e : Expr} {fe : EF} {fs : AF} {p pos tpos p2 pos2 : Pos} {elts : List Expr} {kk : Nat} {a1 a2 : Expr}
theorem pi_enumZip {ta : TA} (hg : Gl X "enumerate") (hm : X.mg "enumerate" = none) (hg2 : Gl X "zip") (hm2 : X.mg "zip" = none) (ha : PA X [a1, a2] ta)
    (hs1 : starEach [.Call (.Name "zip" p2) [a1, a2] [] pos2] X.env = [(false, eval (.Call (.Name "zip" p2) [a1, a2] [] pos2) X.env)] := by rfl)
    (hs : starEach [a1, a2] X.env = (false, eval a1 X.env) :: starEach [a2] X.env := by rfl) (hpl : (backTo pos2 (starEach [a2] X.env)).any (·.1) = false := by rfl) :
    PI X (.Tuple elts kk tpos) (.Call (.Name "enumerate" p) [.Call (.Name "zip" p2) [a1, a2] [] pos2] [] pos) (iEnumZipV X.K ta) := by
  refine ⟨fun pins s σ H R I h => ?_⟩
  refine Call_ (ld_blt I hg hm boot_enumerate (PyProof.Rows.callWith_type1 (T := "enumerate") ?_ hs1 rfl))
  rw [hs1]
  show wpAny _ _ (spliced ((false, eval (.Call (.Name "zip" p2) [a1, a2] [] pos2) X.env) :: backTo pos (starEach [] X.env))) _ _ s
  refine Calls.spliced_cons (Call_ (ld_blt I hg2 hm2 PyProof.Rows.boot_zip (PyProof.Rows.callWith_type1 (thn (ha.run pos2 pins s σ H _ I h) fun us s1 ⟨vs, H1, I1, r1, q1⟩ => ?_) hs hpl)))
  obtain ⟨a, b, xs, ys, ex, hqx, hqy, q⟩ := q1
  subst ex
  cases r1 with
  | cons r rr =>
    cases rr with
    | cons r' rr =>
      cases rr
      cases r
      cases r'
      obtain ⟨its, rv, p1, hz1⟩ := I1.tuple hqx
      obtain ⟨its2, rv2, p2, _⟩ := I1.tuple hqy
      obtain ⟨o1, ho1, _⟩ := id p1
      obtain ⟨o2, ho2, _⟩ := id p2
      refine call_zipT (show s1.heap.IsTuple a its.toArray from p1) (show s1.heap.IsTuple b its2.toArray from p2) fun h' hz hTI hTO h1 h2 hsz hk => ?_
      have I2 : Inv X pins σ H1 { s1 with heap := h' } := I1.kept (t' := s1.toks) hk
      refine Calls.spliced_nil ?_
      refine enum_self (s := { s1 with heap := h' }) (H := fun h => IsZip h (s1.heap.objs.size + 4) (s1.heap.objs.size + 2) (s1.heap.objs.size + 3) .none) zip_self_iter hz fun h'' he hsz2 hk2 => wpAny_pyIter_enum he ?_
      have I3 : Inv X pins σ H1 { s1 with heap := h'' } := I2.kept (t' := s1.toks) hk2
      have e5 : h'.objs.size = s1.heap.objs.size + 5 := hsz
      have fresh : ∀ c, c ∈ [h'.objs.size, s1.heap.objs.size + 4, s1.heap.objs.size + 2, s1.heap.objs.size + 3, s1.heap.objs.size, s1.heap.objs.size + 1] → FpOk X pins H1 c := fun c hcm => by
        have e' : c = h'.objs.size ∨ c = s1.heap.objs.size + 4 ∨ c = s1.heap.objs.size + 2 ∨ c = s1.heap.objs.size + 3 ∨ c = s1.heap.objs.size ∨ c = s1.heap.objs.size + 1 := by simpa using hcm
        have hle : s1.heap.objs.size ≤ c := by
          rcases e' with z | z | z | z | z | z
          · rw [z, e5]; exact Nat.le_add_right _ _
          · rw [z]; exact Nat.le_add_right _ _
          · rw [z]; exact Nat.le_add_right _ _
          · rw [z]; exact Nat.le_add_right _ _
          · rw [z]; exact Nat.le_refl _
          · rw [z]; exact Nat.le_add_right _ _
        exact I1.fpOk hle (I1.hok.fresh hle)
      have hef : h'.objs.size ∉ [s1.heap.objs.size + 4, s1.heap.objs.size + 2, s1.heap.objs.size + 3, s1.heap.objs.size, s1.heap.objs.size + 1] := by
        rw [e5]
        generalize s1.heap.objs.size = n
        intro hm
        have e' : n + 5 = n + 4 ∨ n + 5 = n + 2 ∨ n + 5 = n + 3 ∨ n + 5 = n ∨ n + 5 = n + 1 := by simpa using hm
        have e2 : ∀ m : Nat, m + 5 = m + 4 ∨ m + 5 = m + 2 ∨ m + 5 = m + 3 ∨ m + 5 = m ∨ m + 5 = m + 1 → False := by intro m; omega
        exact e2 n e'
      have S : ZipSt (s1.heap.objs.size + 4) (s1.heap.objs.size + 2) (s1.heap.objs.size + 3) s1.heap.objs.size (s1.heap.objs.size + 1) a b 0 h'' :=
        (ZipSt.mk ⟨.none, false, hz, .inl rfl⟩ hTI ⟨_, _, hTO⟩ h1 h2).keep fun c _ o q => hk2 c o q
      exact ⟨h'.objs.size, [h'.objs.size, s1.heap.objs.size + 4, s1.heap.objs.size + 2, s1.heap.objs.size + 3, s1.heap.objs.size, s1.heap.objs.size + 1], _, _, H1, rfl, I3,
        turn_enumZ (PySem.W.ktu_apart s1.heap.objs.size a b (Heap.lt_size ho1) (Heap.lt_size ho2)) hef, ⟨⟨.none, he⟩, S⟩, fresh, q hz1⟩
def zipD : List D → List D → List D
  | x :: xs, y :: ys => .tup [x, y] :: zipD xs ys
  | _, _ => []
theorem zipD_length : ∀ (xs ys : List D), (zipD xs ys).length = min xs.length ys.length
  | [], _ => by simp [zipD]
  | _ :: _, [] => by simp [zipD]
  | x :: xs, y :: ys => by simp only [zipD, List.length_cons, zipD_length xs ys]; omega
theorem zipD_get : ∀ (xs ys : List D) (i : Nat) (x y : D), xs[i]? = some x → ys[i]? = some y → (zipD xs ys)[i]? = some (.tup [x, y])
  | [], _, _, _, _, h, _ => by simp at h
  | _ :: _, [], _, _, _, _, h => by simp at h
  | a :: xs, b :: ys, 0, x, y, h, h' => by simp at h h'; subst h h'; rfl
  | a :: xs, b :: ys, i + 1, x, y, h, h' => by simpa [zipD] using zipD_get xs ys i x y (by simpa using h) (by simpa using h')
theorem itok_enumZ {K : PySem.W.Frag} {M : Sto} {H : Hp} {a b : Addr} {xs ys : List V} {ds es : List D} (t : SqT K H a xs) (u : SqT K H b ys) (r : RDs K H ds xs) (r' : RDs K H es ys) (hz : xs.length ≤ sizeLine) : ItOk K (IteZ K a b) (enumD 0 (zipD ds es)) none M H where
  len := by rw [enumD_length, zipD_length, r.length]; exact Nat.le_trans (Nat.min_le_left _ _) hz
  stop := fun H' M' x _ _ => ⟨xs, ys, x.tup _ _ t, x.tup _ _ u, by rw [enumD_length, zipD_length, r.length, r'.length]; omega⟩
  go := fun H' M' i hi x _ _ => by
    rw [enumD_length, zipD_length] at hi
    obtain ⟨v, hv, _⟩ := r.get (List.getElem?_eq_getElem (show i < ds.length by omega))
    obtain ⟨v', hv', _⟩ := r'.get (List.getElem?_eq_getElem (show i < es.length by omega))
    exact ⟨xs, ys, v, v', x.tup _ _ t, x.tup _ _ u, hv, hv'⟩
  yld := fun H' M' i y H2 hi x _ _ ⟨T, T2, v, v', e1, hT, hT2, e2, h, h'⟩ => by
    subst e1 e2
    rw [enumD_length, zipD_length] at hi
    have i1 : i < ds.length := by omega
    have i2 : i < es.length := by omega
    obtain ⟨w, hw, rw'⟩ := r.get (List.getElem?_eq_getElem i1)
    obtain ⟨w2, hw2, rw2⟩ := r'.get (List.getElem?_eq_getElem i2)
    have q1 := h xs (x.tup _ _ t)
    rw [hw] at q1
    cases q1
    have q2 := h' ys (x.tup _ _ u)
    rw [hw2] at q2
    cases q2
    have g := zipD_get ds es i _ _ (List.getElem?_eq_getElem i1) (List.getElem?_eq_getElem i2)
    refine ⟨.tup [.int ((0 + i : Nat) : Int), .tup [ds[i], es[i]]], by rw [enumD_get, g]; rfl, ?_, .inr (.inr ⟨_, _, _, _, hT, hT2, rfl⟩)⟩
    have x1 : Ext K (fun _ => none) (fun _ => none) H' (upd H' T (.tup [v, v'])) := Ext.laid0 hT
    have x2 : Ext K (fun _ => none) (fun _ => none) (upd H' T (.tup [v, v'])) _ := Ext.laid0 (o := .tup [.int (i : Nat), .ref T]) hT2
    rw [Nat.zero_add]
    refine .tup (.inl (.inl upd_same)) (.cons (.int _) (.cons (.tup (x2.tup _ _ (.inl (.inl upd_same))) (.cons ?_ (.cons ?_ .nil))) .nil))
    · exact x2.rd (x1.rd (x.rd rw'))
    · exact x2.rd (x1.rd (x.rd rw2))
def iEnumZip (fs : AF) : IF := fun δ M Q => fs δ M fun ds M1 => ∃ xs ys, ds = [.tup xs, .tup ys] ∧ Q (enumD 0 (zipD xs ys)) none M1
theorem zi_enumZip (hg : Gl X "enumerate") (hm : X.mg "enumerate" = none) (hg2 : Gl X "zip") (hm2 : X.mg "zip" = none) (h : ZA X [a1, a2] fs)
    (hs1 : starEach [.Call (.Name "zip" p2) [a1, a2] [] pos2] X.env = [(false, eval (.Call (.Name "zip" p2) [a1, a2] [] pos2) X.env)] := by rfl)
    (hs : starEach [a1, a2] X.env = (false, eval a1 X.env) :: starEach [a2] X.env := by rfl) (hpl : (backTo pos2 (starEach [a2] X.env)).any (·.1) = false := by rfl) :
    ZI X (.Tuple elts kk tpos) (.Call (.Name "enumerate" p) [.Call (.Name "zip" p2) [a1, a2] [] pos2] [] pos) (iEnumZip fs) := by
  refine ⟨fun δ M Q Q' q g => h.mono _ _ _ _ (fun ds M1 ⟨xs, ys, z1, z2⟩ => ⟨xs, ys, z1, q _ _ _ z2⟩) g, PI.weak (pi_enumZip hg hm hg2 hm2 h.pa hs1 hs hpl) fun σ H R ⟨δ, M, re, rs, g⟩ => ?_⟩
  · refine tza_bind h.mono re rs g fun ds M1 vs H1 z x1 re1 rs1 r1 => ?_
    obtain ⟨xs, ys, rfl, z⟩ := z
    cases r1 with
    | cons q1 t1 =>
      cases t1 with
      | cons q2 t2 =>
        cases t2
        cases q1 with
        | tup s1 r1 =>
          cases q2 with
          | tup s2 r2 => exact ⟨_, _, _, _, rfl, s1, s2, fun hz => z _ H1 x1 rs1 (itok_enumZ s1 s2 r1 r2 hz)⟩
end
end Z
set_option maxHeartbeats 4000000
namespace Z
open PySem PySem.Spec PyProof.Rows L2
/-! ### plain words of the law: numbers, rows -/
abbrev nI (n : Nat) : D := .int (n : Int)
abbrev tN (xs : List Nat) : D := .tup (xs.map nI)
def xorL (xs : List Nat) : Nat := xs.foldl (fun a b => a ^^^ b) 0
/-- the least number that is not in the row -/
def mexF (xs : List Nat) : Nat → Nat → Nat
  | 0, k => k
  | f + 1, k => if xs.elem k then mexF xs f (k + 1) else k
def mexN (xs : List Nat) : Nat := mexF xs (xs.foldl max 0 + 2) 0
/-- what a digit at place i (k = i + 1) lets of n: what is left of it -/
def oneU (n i digit : Nat) : List (Nat × List Nat) :=
  (if digit &&& 1 ≠ 0 ∧ n = i + 1 then [(i + 1, [])] else []) ++ (if digit &&& 2 ≠ 0 ∧ n > i + 1 then [(i + 1, [n - (i + 1)])] else []) ++
    (if digit &&& 4 ≠ 0 then (List.range ((n - (i + 1)) / 2)).map fun a => (i + 1, [a + 1, n - (i + 1) - (a + 1)]) else [])
def leftsU (n : Nat) : Nat → List Nat → List (Nat × List Nat)
  | _, [] => []
  | i, d :: r => oneU n i d ++ leftsU n (i + 1) r
def worthU (code : List Nat) (w : List Nat) (n : Nat) : Nat := mexN ((leftsU n 0 code).map fun l => xorL (l.2.map fun a => w.getD a 0))
def wl (code : List Nat) : Nat → List Nat
  | 0 => []
  | n + 1 => wl code n ++ [worthU code (wl code n) n]
def encL (l : Nat × List Nat) : D := .tup [nI l.1, tN l.2]
def optN : Option Nat → D
  | none => .non
  | some n => nI n
def fuF (t : List Nat) (p : Nat) : Nat → Nat → Option Nat
  | 0, _ => none
  | f + 1, n => if t.getD (n + p) 0 ≠ t.getD n 0 then some n else fuF t p f (n + 1)
/-- the first unlike place from s on -/
def fuN (t : List Nat) (s p most : Nat) : Option Nat := fuF t p (most - p + 1 - s) s
def lsF (t : List Nat) (p : Nat) : Nat → Nat
  | 0 => 0
  | s + 1 => if 1 < s + 1 ∧ t.getD (s + p) 0 = t.getD s 0 then lsF t p s else s + 1
def lsN (t : List Nat) (p most : Nat) : Nat := lsF t p (most - p + 1)
def perF (t : List Nat) (len most : Nat) : Nat → Nat → Option (Nat × Nat)
  | 0, _ => none
  | f + 1, p => if 2 * lsN t p most + 2 * p + len - 1 ≤ most then some (lsN t p most, p) else perF t len most f (p + 1)
def perN (code : List Nat) (most : Nat) : Option (Nat × Nat) := perF (wl code (most + 1)) code.length most (most / 2) 1
def apF : Nat → List Nat → List Nat → Option Nat
  | n, x :: xs, y :: ys => if x ≠ y then some n else apF (n + 1) xs ys
  | _, _, _ => none
def optP : Option (Nat × Nat) → D
  | none => .non
  | some p => .tup [nI p.1, nI p.2]
/-! ### the promises -/
def Small (code : List Nat) : Prop := code.length ≤ 10 ∧ ∀ d ∈ code, d ≤ 1000
def g_lefts : FF := fun ds M Q => ∃ code n, ds = [tN code, nI n] ∧ Small code ∧ n ≤ 1000 ∧ ∀ ys : List (Nat × List Nat), ys.Perm (leftsU n 0 code) → Q (.tup (ys.map encL)) M
def g_added : FF := fun ds M Q => ∃ a xs, ds = [.ref a] ∧ M a = some (.lst (xs.map nI)) ∧ Q (nI (xorL xs)) M
def g_least_missing : FF := fun ds M Q => ∃ a xs, ds = [.ref a] ∧ M a = some (.lst (xs.map nI)) ∧ Q (nI (mexN xs)) M
def g_worths : FF := fun ds M Q => ∃ code most, ds = [tN code, nI most] ∧ Small code ∧ most ≤ 900 ∧ Q (tN (wl code (most + 1))) M
def g_need : FF := fun ds M Q => ∃ code s p, ds = [tN code, nI s, nI p] ∧ Q (.int (2 * (s : Int) + 2 * p + code.length - 1)) M
def g_first_unlike : FF := fun ds M Q => ∃ t s p most, ds = [tN t, nI s, nI p, nI most] ∧ t.length = most + 1 ∧ 1 ≤ p ∧ p ≤ most ∧ most ≤ 900 ∧ s ≤ 900 ∧ Q (optN (fuN t s p most)) M
def g_least_start : FF := fun ds M Q => ∃ t p most, ds = [tN t, nI p, nI most] ∧ t.length = most + 1 ∧ p ≤ most ∧ 1 ≤ p ∧ Q (nI (lsN t p most)) M
def g_period : FF := fun ds M Q => ∃ code most, ds = [tN code, nI most] ∧ Small code ∧ 1 ≤ code.length ∧ most ≤ 900 ∧ Q (optP (perN code most)) M
def g_is_number : FF := fun ds M Q => ∃ n, ds = [nI n] ∧ 1 ≤ n ∧ Q (.bl true) M
def g_judge_period : FF := fun ds M Q => ∃ code s p m, ds = [tN code, .tup [nI s, nI p]] ∧ Small code ∧ 1 ≤ s ∧ 1 ≤ p ∧ 1 ≤ code.length ∧ m = 2 * s + 2 * p + code.length - 1 ∧ m ≤ 400 ∧
  Q (match fuN (wl code (m + 1)) s p m with | none => .non | some n => .tup [.str "worth", nI n]) M
def g_apart : FF := fun ds M Q => ∃ one other most, ds = [tN one, tN other, nI most] ∧ Small one ∧ Small other ∧ most ≤ 900 ∧ Q (optN (apF 0 (wl one (most + 1)) (wl other (most + 1)))) M
def g__law_first : FF := fun ds M Q => ∃ many, ds = [nI many] ∧ Q (nI (min many (many % 6 + 1) + 1)) M
/-- the source of drawn numbers stands at p, its row at a -/
def Src (M : Sto) (p a : Addr) : Prop := ∃ (cells : List Int) (left mixed turn : Int), a ≠ p ∧ M p = some (.dk [(.inr "cells", .ref a), (.inr "left", .int left), (.inr "mixed", .int mixed), (.inr "turn", .int turn)]) ∧ M a = some (.lst (cells.map D.int))
def g__law_open_cells : FF := fun ds M Q => ∃ ns : List Int, ds = [.scr (ns.map D.int)] ∧ ns.length ≤ 63 ∧ ∀ p a M', M p = none → M a = none → Sub M M' → Src M' p a → Q (.ref p) M'
def g__law_pick : FF := fun ds M Q => ∃ p a most, ds = [.ref p, nI most] ∧ Src M p a ∧ 1 ≤ most ∧ most ≤ 100000 ∧ ∀ r M', r < most → Src M' p a → (∀ b, b ≠ p → b ≠ a → M' b = M b) → Q (nI r) M'
def g_law : FF := fun ds M Q => ∃ ns : List Int, ds = [.scr (ns.map D.int)] ∧ ns.length ≤ 63 ∧ ∀ M', Q (.bl true) M'
def topS (i : Nat) : Stmt := PySem.Challenge.pw_eachgame_k29_whole_known_codes.main.body.getD i (.Pass ⟨0, 0, 0, 0⟩)
abbrev st_lefts : Stmt := topS 1
abbrev n_lefts : List Str := ["code", "n", "found", "i", "digit", "k", "a"]
theorem sc_lefts : FnScope n_lefts ["code", "n"] (defScope st_lefts) := ⟨rfl, rfl, rfl, by decide +kernel, rfl, by decide +kernel, by decide +kernel⟩
abbrev st_added : Stmt := topS 2
abbrev n_added : List Str := ["numbers", "found", "number"]
theorem sc_added : FnScope n_added ["numbers"] (defScope st_added) := ⟨rfl, rfl, rfl, by decide +kernel, rfl, by decide +kernel, by decide +kernel⟩
abbrev st_least_missing : Stmt := topS 3
abbrev n_least_missing : List Str := ["numbers", "row", "found", "number"]
theorem sc_least_missing : FnScope n_least_missing ["numbers"] (defScope st_least_missing) := ⟨rfl, rfl, rfl, by decide +kernel, rfl, by decide +kernel, by decide +kernel⟩
abbrev st_worths : Stmt := topS 4
abbrev n_worths : List Str := ["code", "most", "found", "n", "k", "left", "a"]
theorem sc_worths : FnScope n_worths ["code", "most"] (defScope st_worths) := ⟨rfl, rfl, rfl, by decide +kernel, rfl, by decide +kernel, by decide +kernel⟩
abbrev st_need : Stmt := topS 7
abbrev n_need : List Str := ["code", "s", "p"]
theorem sc_need : FnScope n_need ["code", "s", "p"] (defScope st_need) := ⟨rfl, rfl, rfl, by decide +kernel, rfl, by decide +kernel, by decide +kernel⟩
abbrev st_first_unlike : Stmt := topS 8
abbrev n_first_unlike : List Str := ["table", "s", "p", "most", "n"]
theorem sc_first_unlike : FnScope n_first_unlike ["table", "s", "p", "most"] (defScope st_first_unlike) := ⟨rfl, rfl, rfl, by decide +kernel, rfl, by decide +kernel, by decide +kernel⟩
abbrev st_least_start : Stmt := topS 9
abbrev n_least_start : List Str := ["table", "p", "most", "s"]
theorem sc_least_start : FnScope n_least_start ["table", "p", "most"] (defScope st_least_start) := ⟨rfl, rfl, rfl, by decide +kernel, rfl, by decide +kernel, by decide +kernel⟩
abbrev st_period : Stmt := topS 10
abbrev n_period : List Str := ["code", "most", "table", "p", "s"]
theorem sc_period : FnScope n_period ["code", "most"] (defScope st_period) := ⟨rfl, rfl, rfl, by decide +kernel, rfl, by decide +kernel, by decide +kernel⟩
abbrev st_is_number : Stmt := topS 11
abbrev n_is_number : List Str := ["value"]
theorem sc_is_number : FnScope n_is_number ["value"] (defScope st_is_number) := ⟨rfl, rfl, rfl, by decide +kernel, rfl, by decide +kernel, by decide +kernel⟩
abbrev st_judge_period : Stmt := topS 12
abbrev n_judge_period : List Str := ["code", "value", "s", "p", "n"]
theorem sc_judge_period : FnScope n_judge_period ["code", "value"] (defScope st_judge_period) := ⟨rfl, rfl, rfl, by decide +kernel, rfl, by decide +kernel, by decide +kernel⟩
abbrev st_apart : Stmt := topS 13
abbrev n_apart : List Str := ["one", "other", "most", "n", "x", "y"]
theorem sc_apart : FnScope n_apart ["one", "other", "most"] (defScope st_apart) := ⟨rfl, rfl, rfl, by decide +kernel, rfl, by decide +kernel, by decide +kernel⟩
abbrev st__law_open_cells : Stmt := topS 15
abbrev n__law_open_cells : List Str := ["script", "stirred", "cell", "cells"]
theorem sc__law_open_cells : FnScope n__law_open_cells ["script"] (defScope st__law_open_cells) := ⟨rfl, rfl, rfl, by decide +kernel, rfl, by decide +kernel, by decide +kernel⟩
abbrev st__law_pick : Stmt := topS 16
abbrev n__law_pick : List Str := ["source", "most", "cells", "others", "lap", "stirred"]
theorem sc__law_pick : FnScope n__law_pick ["source", "most"] (defScope st__law_pick) := ⟨rfl, rfl, rfl, by decide +kernel, rfl, by decide +kernel, by decide +kernel⟩
abbrev st__law_first : Stmt := topS 17
abbrev n__law_first : List Str := ["many", "other"]
theorem sc__law_first : FnScope n__law_first ["many"] (defScope st__law_first) := ⟨rfl, rfl, rfl, by decide +kernel, rfl, by decide +kernel, by decide +kernel⟩
abbrev st_law : Stmt := topS 18
abbrev n_law : List Str := ["script", "source", "many", "most", "plain", "kayles", "dawson", "n"]
theorem sc_law : FnScope n_law ["script"] (defScope st_law) := ⟨rfl, rfl, rfl, by decide +kernel, rfl, by decide +kernel, by decide +kernel⟩
section
variable {P : Program} {w : World} {K : PySem.W.Frag} {mg : Str → Option Value} {base : Heap}
/-! lefts (level 1) -/
def i1_lefts : SF := sIf (tAndZ (tTru (eOp oAnd (eVar 4) (eC (.int 1)))) (tOpB oEq (eVar 1) (eVar 5))) (sDrop (eLM mAppend (eVar 2) (aCons (eTup (aCons (eVar 5) (aCons (eTup (aNil)) (aNil)))) (aNil)))) (sNext)
def i2_lefts : SF := sIf (tAndZ (tTru (eOp oAnd (eVar 4) (eC (.int 2)))) (tOpB oGt (eVar 1) (eVar 5))) (sDrop (eLM mAppend (eVar 2) (aCons (eTup (aCons (eVar 5) (aCons (eTup (aCons (eOp oSub (eVar 1) (eVar 5)) (aNil))) (aNil)))) (aNil)))) (sNext)
def i3_lefts : SF := sIf (tTru (eOp oAnd (eVar 4) (eC (.int 4)))) (sDrop (eExtend (eVar 2) (eLC (iRange (aCons (eC (.int 1)) (aCons (eOp oAdd (eOp oFdiv (eOp oSub (eVar 1) (eVar 5)) (eC (.int 2))) (eC (.int 1))) (aNil)))) (gN 6) (tYesZ) (eTup (aCons (eVar 5) (aCons (eTup (aCons (eVar 6) (aCons (eOp oSub (eOp oSub (eVar 1) (eVar 5)) (eVar 6)) (aNil)))) (aNil)))) [6]))) (sNext)
def b4_lefts : SF := sSeq (sAsg (eOp oAdd (eVar 3) (eC (.int 1))) (gN 5)) (sSeq (i1_lefts) (sSeq (i2_lefts) (i3_lefts)))
def s_lefts : SF := sSeq (sAsg (eNew (aNil)) (gN 2)) (sSeq (sFor (iEnum (eVar 0)) (gT (gsCons (gN 3) (gsCons (gN 4) (gsNil)))) b4_lefts) (sRet (eSeqCall bTuple (aSort (kOf (eVar 2))))))
theorem w_lefts (b_enumerate : mg "enumerate" = none) (b_range : mg "range" = none) (b_sorted : mg "sorted" = none) (b_tuple : mg "tuple" = none) : ∀ (f : Addr) (cdv : Value) (A : Around) (outer : List PySem.Env) (s₀ : Shared) (H : Hp) (E : XK), A.guards = some [] → Room 0 (A.deeper (envOfC "lefts" (defScope st_lefts) s₀.heap.objs.size f cdv)) →
    ZSs (cxOf CX0 P w K mg base n_lefts "lefts" (defScope st_lefts) f cdv A outer s₀ H E).nox (defBody st_lefts) s_lefts := fun f cdv A outer s₀ H E hG hr =>
  zss_cons (zs_set (i := 2) sc_lefts.nd rfl (.inl rfl) (ze_new (zl_lst (za_nil))))
  (zss_cons (zs_for PassesOwn.never rfl (zi_enum (by rfl) b_enumerate (zv 0)) (zg_tup rfl (zgs_cons (zg_name (i := 3) sc_lefts.nd rfl (.inl rfl)) (zgs_cons (zg_name (i := 4) sc_lefts.nd rfl (.inl rfl)) (zgs_nil))) (glen_cons gN_mono (glen_cons gN_mono glen_nil gN_ex) gN_ex))
  (zss_cons (zs_set (i := 5) sc_lefts.nd rfl (.inr rfl) (ze_op zo_add (zv 3) (zi)))
  (zss_cons (zs_if (ZW.zt (zw_and (zt_tru (ze_op zo_and (zv 4) (zi))) (zw_one_and (zt_cmp (zo_eq (u64 hr)) (zv 1) (zv 5))))) (zss_one (zs_expr (ze_lm rfl PySem.F.plainAttrs_list PySem.F.slot_list_append PySem.F.type_list_append zm_append (zv 2) (za_cons (ze_tup (za_cons (zv 5) (za_cons (ze_tup (za_nil)) (za_nil)))) (za_nil))))) (zss_nil))
  (zss_cons (zs_if (ZW.zt (zw_and (zt_tru (ze_op zo_and (zv 4) (zi))) (zw_one_and (zt_cmp (zo_gt (u64 hr)) (zv 1) (zv 5))))) (zss_one (zs_expr (ze_lm rfl PySem.F.plainAttrs_list PySem.F.slot_list_append PySem.F.type_list_append zm_append (zv 2) (za_cons (ze_tup (za_cons (zv 5) (za_cons (ze_tup (za_cons (ze_op zo_sub (zv 1) (zv 5)) (za_nil))) (za_nil)))) (za_nil))))) (zss_nil))
  (zss_one (zs_if (zt_tru (ze_op zo_and (zv 4) (zi))) (zss_one (zs_expr (ze_extend (zv 2) (zl_lc (own := [("a", 6)]) rfl sc_lefts.nd (zi_range2 (by rfl) b_range (za_cons (zi) (za_cons (ze_op zo_add (ze_op zo_fdiv (ze_op zo_sub (zv 1) (zv 5)) (zi)) (zi)) (za_nil)))) (blkOk_by (N := n_lefts) (sc := defScope st_lefts) (own := [("a", 6)]) (by first | decide +kernel | kernel_rfl)) (fun _ _ _ _ _ => zg_name (i := 6) sc_lefts.nd rfl (.inl rfl)) (fun _ _ _ _ _ => zts_nil) (fun _ _ _ _ _ => ze_tup (za_cons (zv 5) (za_cons (ze_tup (za_cons (zv 6) (za_cons (ze_op zo_sub (ze_op zo_sub (zv 1) (zv 5)) (zv 6)) (za_nil)))) (za_nil)))))))) (zss_nil)))))))
  (zss_one (zs_ret (ze_seqTy zq_tuple (by rfl) b_tuple boot_b_tuple (zq_new (zl_sorted (u60 hr) (by rfl) b_sorted (zk_of (zv 2))))))))
/-! added (level 1) -/
def b1_added : SF := sAsg (eOp oXor (eVar 1) (eVar 2)) (gN 1)
def s_added : SF := sSeq (sAsg (eC (.int 0)) (gN 1)) (sSeq (sFor (iSeq (eVar 0)) (gN 2) b1_added) (sRet (eVar 1)))
theorem w_added : ∀ (f : Addr) (cdv : Value) (A : Around) (outer : List PySem.Env) (s₀ : Shared) (H : Hp) (E : XK), A.guards = some [] → Room 0 (A.deeper (envOfC "added" (defScope st_added) s₀.heap.objs.size f cdv)) →
    ZSs (cxOf CX0 P w K mg base n_added "added" (defScope st_added) f cdv A outer s₀ H E).nox (defBody st_added) s_added := fun f cdv A outer s₀ H E hG hr =>
  zss_cons (zs_set (i := 1) sc_added.nd rfl (.inl rfl) (zi))
  (zss_cons (zs_for PassesOwn.never rfl (zi_seq (zv 0)) (zg_name (i := 2) sc_added.nd rfl (.inl rfl))
  (zss_one (zs_set (i := 1) sc_added.nd rfl (.inl rfl) (ze_op zo_xor (zv 1) (zv 2)))))
  (zss_one (zs_ret (zv 1))))
/-! least_missing (level 1) -/
def i1_least_missing : SF := sIf (tOpB oEq (eVar 3) (eVar 2)) (sAsg (eOp oAdd (eVar 2) (eC (.int 1))) (gN 2)) (sNext)
def b2_least_missing : SF := i1_least_missing
def s_least_missing : SF := sSeq (sAsg (eNew (aSort (kOf (eVar 0)))) (gN 1)) (sSeq (sAsg (eC (.int 0)) (gN 2)) (sSeq (sFor (iSeq (eVar 1)) (gN 3) b2_least_missing) (sRet (eVar 2))))
theorem w_least_missing (b_sorted : mg "sorted" = none) : ∀ (f : Addr) (cdv : Value) (A : Around) (outer : List PySem.Env) (s₀ : Shared) (H : Hp) (E : XK), A.guards = some [] → Room 0 (A.deeper (envOfC "least_missing" (defScope st_least_missing) s₀.heap.objs.size f cdv)) →
    ZSs (cxOf CX0 P w K mg base n_least_missing "least_missing" (defScope st_least_missing) f cdv A outer s₀ H E).nox (defBody st_least_missing) s_least_missing := fun f cdv A outer s₀ H E hG hr =>
  zss_cons (zs_set (i := 1) sc_least_missing.nd rfl (.inl rfl) (ze_new (zl_sorted (u60 hr) (by rfl) b_sorted (zk_of (zv 0)))))
  (zss_cons (zs_set (i := 2) sc_least_missing.nd rfl (.inl rfl) (zi))
  (zss_cons (zs_for PassesOwn.never rfl (zi_seq (zv 1)) (zg_name (i := 3) sc_least_missing.nd rfl (.inl rfl))
  (zss_one (zs_if (zt_cmp (zo_eq (u64 hr)) (zv 3) (zv 2)) (zss_one (zs_set (i := 2) sc_least_missing.nd rfl (.inl rfl) (ze_op zo_add (zv 2) (zi)))) (zss_nil))))
  (zss_one (zs_ret (zv 2)))))
/-! need (level 1) -/
def s_need : SF := sRet (eOp oSub (eOp oAdd (eOp oAdd (eOp oMul (eC (.int 2)) (eVar 1)) (eOp oMul (eC (.int 2)) (eVar 2))) (eSeqCall bLenS (qOf (eVar 0)))) (eC (.int 1)))
theorem w_need (b_len : mg "len" = none) : ∀ (f : Addr) (cdv : Value) (A : Around) (outer : List PySem.Env) (s₀ : Shared) (H : Hp) (E : XK), A.guards = some [] → Room 0 (A.deeper (envOfC "need" (defScope st_need) s₀.heap.objs.size f cdv)) →
    ZSs (cxOf CX0 P w K mg base n_need "need" (defScope st_need) f cdv A outer s₀ H E).nox (defBody st_need) s_need := fun f cdv A outer s₀ H E hG hr =>
  zss_one (zs_ret (ze_op zo_sub (ze_op zo_add (ze_op zo_add (ze_op zo_mul (zi) (zv 1)) (ze_op zo_mul (zi) (zv 2))) (ze_seqB zq_len (by rfl) b_len boot_b_len (zq_of (zv 0)))) (zi)))
/-! first_unlike (level 1) -/
def i1_first_unlike : SF := sIf (tOpB oNe (eOp oIx (eVar 0) (eOp oAdd (eVar 4) (eVar 2))) (eOp oIx (eVar 0) (eVar 4))) (sRet (eVar 4)) (sNext)
def b2_first_unlike : SF := i1_first_unlike
def s_first_unlike : SF := sSeq (sFor (iRange (aCons (eVar 1) (aCons (eOp oAdd (eOp oSub (eVar 3) (eVar 2)) (eC (.int 1))) (aNil)))) (gN 4) b2_first_unlike) (sRet (eC .non))
theorem w_first_unlike (b_range : mg "range" = none) : ∀ (f : Addr) (cdv : Value) (A : Around) (outer : List PySem.Env) (s₀ : Shared) (H : Hp) (E : XK), A.guards = some [] → Room 0 (A.deeper (envOfC "first_unlike" (defScope st_first_unlike) s₀.heap.objs.size f cdv)) →
    ZSs (cxOf CX0 P w K mg base n_first_unlike "first_unlike" (defScope st_first_unlike) f cdv A outer s₀ H E).nox (defBody st_first_unlike) s_first_unlike := fun f cdv A outer s₀ H E hG hr =>
  zss_cons (zs_for PassesOwn.never rfl (zi_range2 (by rfl) b_range (za_cons (zv 1) (za_cons (ze_op zo_add (ze_op zo_sub (zv 3) (zv 2)) (zi)) (za_nil)))) (zg_name (i := 4) sc_first_unlike.nd rfl (.inl rfl))
  (zss_one (zs_if (zt_cmp (zo_ne (u64 hr)) (ze_ix (u1 hr) (zv 0) (ze_op zo_add (zv 4) (zv 2))) (ze_ix (u1 hr) (zv 0) (zv 4))) (zss_one (zs_ret (zv 4))) (zss_nil))))
  (zss_one (zs_ret (zn)))
/-! least_start (level 1) -/
def c1_least_start : TF := tAndZ (tOpB oGt (eVar 3) (eC (.int 1))) (tOpB oEq (eOp oIx (eVar 0) (eOp oAdd (eOp oSub (eVar 3) (eC (.int 1))) (eVar 1))) (eOp oIx (eVar 0) (eOp oSub (eVar 3) (eC (.int 1)))))
def b2_least_start : SF := sAsg (eOp oSub (eVar 3) (eC (.int 1))) (gN 3)
def s_least_start : SF := sSeq (sAsg (eOp oAdd (eOp oSub (eVar 2) (eVar 1)) (eC (.int 1))) (gN 3)) (sSeq (sWhile c1_least_start b2_least_start) (sRet (eVar 3)))
theorem w_least_start : ∀ (f : Addr) (cdv : Value) (A : Around) (outer : List PySem.Env) (s₀ : Shared) (H : Hp) (E : XK), A.guards = some [] → Room 0 (A.deeper (envOfC "least_start" (defScope st_least_start) s₀.heap.objs.size f cdv)) →
    ZSs (cxOf CX0 P w K mg base n_least_start "least_start" (defScope st_least_start) f cdv A outer s₀ H E).nox (defBody st_least_start) s_least_start := fun f cdv A outer s₀ H E hG hr =>
  zss_cons (zs_set (i := 3) sc_least_start.nd rfl (.inl rfl) (ze_op zo_add (ze_op zo_sub (zv 2) (zv 1)) (zi)))
  (zss_cons (zs_while PassesOwn.never (ZW.zt (zw_and (zt_cmp (zo_gt (u64 hr)) (zv 3) (zi)) (zw_one_and (zt_cmp (zo_eq (u64 hr)) (ze_ix (u1 hr) (zv 0) (ze_op zo_add (ze_op zo_sub (zv 3) (zi)) (zv 1))) (ze_ix (u1 hr) (zv 0) (ze_op zo_sub (zv 3) (zi))))))) (zss_one (zs_set (i := 3) sc_least_start.nd rfl (.inl rfl) (ze_op zo_sub (zv 3) (zi)))))
  (zss_one (zs_ret (zv 3))))
/-! is_number (level 1) -/
def s_is_number : SF := sRet (eAndZ (eIsa isa_int (eVar 0)) (eAndZ (eNotT (eIsa isa_bool (eVar 0))) (eOp oGe (eVar 0) (eC (.int 1)))))
theorem w_is_number (b_isinstance : mg "isinstance" = none) (b_int : mg "int" = none) (b_bool : mg "bool" = none) : ∀ (f : Addr) (cdv : Value) (A : Around) (outer : List PySem.Env) (s₀ : Shared) (H : Hp) (E : XK), A.guards = some [] → Room 0 (A.deeper (envOfC "is_number" (defScope st_is_number) s₀.heap.objs.size f cdv)) →
    ZSs (cxOf CX0 P w K mg base n_is_number "is_number" (defScope st_is_number) f cdv A outer s₀ H E).nox (defBody st_is_number) s_is_number := fun f cdv A outer s₀ H E hG hr =>
  zss_one (zs_ret (ze_and (ze_isa hisa_int (by rfl) b_isinstance (by rfl) b_int boot_b_int (zv 0)) (ze_and (ze_notT (ze_isa hisa_bool (by rfl) b_isinstance (by rfl) b_bool boot_b_bool (zv 0))) (ze_one (ze_cmp (zo_ge (u64 hr)) (zv 0) (zi))))))
/-! _law_open_cells (level 1) -/
def b1__law_open_cells : SF := sAsg (eOp oMod (eCall bInt (aCons (eOp oAdd (eOp oAdd (eOp oMul (eVar 1) (eC (.int 69069))) (eOp oMul (eVar 2) (eC (.int 31)))) (eC (.int 5))) (aNil))) (eC (.int 2147483629))) (gN 1)
def s__law_open_cells : SF := sSeq (sAsg (eC (.int 11)) (gN 1)) (sSeq (sFor (iSeq (eVar 0)) (gN 2) b1__law_open_cells) (sSeq (sAsg (eNew (eLC (iSeq (eVar 0)) (gN 2) (tYesZ) (eCall bAbs (aCons (eVar 2) (aNil))) [2])) (gN 3)) (sRet (eDisp (pCons (eC (.str "cells")) (eNew (aRev (kOf (eVar 3)))) (pCons (eC (.str "left")) (eC (.int 1)) (pCons (eC (.str "mixed")) (eVar 1) (pCons (eC (.str "turn")) (eC (.int 0)) (pNil)))))))))
theorem w__law_open_cells (b_int : mg "int" = none) (b_abs : mg "abs" = none) : ∀ (f : Addr) (cdv : Value) (A : Around) (outer : List PySem.Env) (s₀ : Shared) (H : Hp) (E : XK), A.guards = some [] → Room 0 (A.deeper (envOfC "_law_open_cells" (defScope st__law_open_cells) s₀.heap.objs.size f cdv)) →
    ZSs (cxOf CX0 P w K mg base n__law_open_cells "_law_open_cells" (defScope st__law_open_cells) f cdv A outer s₀ H E).nox (defBody st__law_open_cells) s__law_open_cells := fun f cdv A outer s₀ H E hG hr =>
  zss_cons (zs_set (i := 1) sc__law_open_cells.nd rfl (.inl rfl) (zi))
  (zss_cons (zs_for PassesOwn.never rfl (zi_seq (zv 0)) (zg_name (i := 2) sc__law_open_cells.nd rfl (.inl rfl))
  (zss_one (zs_set (i := 1) sc__law_open_cells.nd rfl (.inl rfl) (ze_op zo_mod (ze_callTy zb_int (by rfl) b_int boot_b_int (za_cons (ze_op zo_add (ze_op zo_add (ze_op zo_mul (zv 1) (zi)) (ze_op zo_mul (zv 2) (zi))) (zi)) (za_nil))) (zi)))))
  (zss_cons (zs_setLc (i := 3) (own := [("cell", 2)]) rfl sc__law_open_cells.nd rfl rfl (by rfl) (zi_seq (zv 0)) (blkOk_by (N := n__law_open_cells) (sc := defScope st__law_open_cells) (own := [("cell", 2)]) (by first | decide +kernel | kernel_rfl)) (fun _ _ _ _ _ => zg_name (i := 2) sc__law_open_cells.nd rfl (.inl rfl)) (fun _ _ _ _ _ => zts_nil) (fun _ _ _ _ _ => ze_callB zb_abs (by rfl) b_abs boot_b_abs (za_cons (zv 2) (za_nil))))
  (zss_one (zs_ret (ze_disp (zps_cons (zs) (ze_new (zl_rev (zk_of (zv 3)))) (zps_cons (zs) (zi) (zps_cons (zs) (zv 1) (zps_cons (zs) (zi) (zps_nil))))))))))
/-! _law_pick (level 1) -/
def i1__law_pick : SF := sIf (tOpB oLt (eVar 1) (eC (.int 2))) (sRet (eC (.int 0))) (sNext)
def c2__law_pick : TF := tAndZ (tOpB oLt (eOp oIx (eVar 0) (eC (.str "left"))) (eC (.int 2))) (tOpB oGt (eSeqCall bLenS (qOf (eVar 2))) (eC (.int 0)))
def b3__law_pick : SF := sSub (eLM mPop (eVar 2) aNil) (eVar 0) (eC (.str "left"))
def i4__law_pick : SF := sIf (tOpB oGt (eVar 3) (eC (.int 1))) (sSeq (sSub (eOp oFdiv (eVar 3) (eVar 1)) (eVar 0) (eC (.str "left"))) (sRet (eOp oMod (eCall bInt (aCons (eVar 3) (aNil))) (eVar 1)))) (sNext)
def s__law_pick : SF := sSeq (i1__law_pick) (sSeq (sAsg (eOp oIx (eVar 0) (eC (.str "cells"))) (gN 2)) (sSeq (sWhile c2__law_pick b3__law_pick) (sSeq (sAsg (eOp oIx (eVar 0) (eC (.str "left"))) (gN 3)) (sSeq (i4__law_pick) (sSeq (sSub (eOp oAdd (eOp oIx (eVar 0) (eC (.str "turn"))) (eC (.int 1))) (eVar 0) (eC (.str "turn"))) (sSeq (sAsg (eOp oIx (eVar 0) (eC (.str "turn"))) (gN 4)) (sSeq (sAsg (eOp oMod (eCall bInt (aCons (eOp oAdd (eOp oIx (eVar 0) (eC (.str "mixed"))) (eOp oMul (eVar 4) (eC (.int 104729)))) (aNil))) (eC (.int 998244353))) (gN 5)) (sSeq (sAsg (eOp oMod (eCall bInt (aCons (eOp oAdd (eOp oMul (eVar 5) (eVar 5)) (eOp oMul (eVar 4) (eC (.int 17)))) (aNil))) (eC (.int 2147483647))) (gN 5)) (sRet (eOp oMod (eCall bInt (aCons (eOp oFdiv (eVar 5) (eC (.int 16))) (aNil))) (eVar 1)))))))))))
theorem w__law_pick (b_len : mg "len" = none) (b_int : mg "int" = none) : ∀ (f : Addr) (cdv : Value) (A : Around) (outer : List PySem.Env) (s₀ : Shared) (H : Hp) (E : XK), A.guards = some [] → Room 0 (A.deeper (envOfC "_law_pick" (defScope st__law_pick) s₀.heap.objs.size f cdv)) →
    ZSs (cxOf CX0 P w K mg base n__law_pick "_law_pick" (defScope st__law_pick) f cdv A outer s₀ H E).nox (defBody st__law_pick) s__law_pick := fun f cdv A outer s₀ H E hG hr =>
  zss_cons (zs_if (zt_cmp (zo_lt (u64 hr)) (zv 1) (zi)) (zss_one (zs_ret (zi))) (zss_nil))
  (zss_cons (zs_set (i := 2) sc__law_pick.nd rfl (.inl rfl) (ze_ix (u1 hr) (zv 0) (zs)))
  (zss_cons (zs_while PassesOwn.never (ZW.zt (zw_and (zt_cmp (zo_lt (u64 hr)) (ze_ix (u1 hr) (zv 0) (zs)) (zi)) (zw_one_and (zt_cmp (zo_gt (u64 hr)) (ze_seqB zq_len (by rfl) b_len boot_b_len (zq_of (zv 2))) (zi))))) (zss_one (zs_sub (u1 hr) (ze_lm0 rfl PySem.F.plainAttrs_list PySem.F.slot_list_pop PySem.F.type_list_pop zm_pop (zv 2)) (zv 0) (zs))))
  (zss_cons (zs_set (i := 3) sc__law_pick.nd rfl (.inl rfl) (ze_ix (u1 hr) (zv 0) (zs)))
  (zss_cons (zs_if (zt_cmp (zo_gt (u64 hr)) (zv 3) (zi)) (zss_cons (zs_sub (u1 hr) (ze_op zo_fdiv (zv 3) (zv 1)) (zv 0) (zs))
  (zss_one (zs_ret (ze_op zo_mod (ze_callTy zb_int (by rfl) b_int boot_b_int (za_cons (zv 3) (za_nil))) (zv 1))))) (zss_nil))
  (zss_cons (zs_sub (u1 hr) (ze_op zo_add (ze_ix (u1 hr) (zv 0) (zs)) (zi)) (zv 0) (zs))
  (zss_cons (zs_set (i := 4) sc__law_pick.nd rfl (.inl rfl) (ze_ix (u1 hr) (zv 0) (zs)))
  (zss_cons (zs_set (i := 5) sc__law_pick.nd rfl (.inl rfl) (ze_op zo_mod (ze_callTy zb_int (by rfl) b_int boot_b_int (za_cons (ze_op zo_add (ze_ix (u1 hr) (zv 0) (zs)) (ze_op zo_mul (zv 4) (zi))) (za_nil))) (zi)))
  (zss_cons (zs_set (i := 5) sc__law_pick.nd rfl (.inl rfl) (ze_op zo_mod (ze_callTy zb_int (by rfl) b_int boot_b_int (za_cons (ze_op zo_add (ze_op zo_mul (zv 5) (zv 5)) (ze_op zo_mul (zv 4) (zi))) (za_nil))) (zi)))
  (zss_one (zs_ret (ze_op zo_mod (ze_callTy zb_int (by rfl) b_int boot_b_int (za_cons (ze_op zo_fdiv (zv 5) (zi)) (za_nil))) (zv 1))))))))))))
/-! _law_first (level 1) -/
def s__law_first : SF := sSeq (sAsg (eOp oAdd (eOp oMod (eVar 0) (eC (.int 6))) (eC (.int 1))) (gN 1)) (sRet (eOp oAdd (eCall (b2 fun i j => if j < i then j else i) (aCons (eVar 0) (aCons (eVar 1) (aNil)))) (eC (.int 1))))
theorem w__law_first (b_min : mg "min" = none) : ∀ (f : Addr) (cdv : Value) (A : Around) (outer : List PySem.Env) (s₀ : Shared) (H : Hp) (E : XK), A.guards = some [] → Room 0 (A.deeper (envOfC "_law_first" (defScope st__law_first) s₀.heap.objs.size f cdv)) →
    ZSs (cxOf CX0 P w K mg base n__law_first "_law_first" (defScope st__law_first) f cdv A outer s₀ H E).nox (defBody st__law_first) s__law_first := fun f cdv A outer s₀ H E hG hr =>
  zss_cons (zs_set (i := 1) sc__law_first.nd rfl (.inl rfl) (ze_op zo_add (ze_op zo_mod (zv 0) (zi)) (zi)))
  (zss_one (zs_ret (ze_op zo_add (ze_callB (zb_min2 rfl) (by rfl) b_min boot_b_min (za_cons (zv 0) (za_cons (zv 1) (za_nil)))) (zi))))
/-! worths (level 2) -/
def b1_worths : SF := sDrop (eLM mAppend (eVar 2) (aCons (eCall g_least_missing (aCons (eNew (eLC (iSeq (eCall g_lefts (aCons (eVar 0) (aCons (eVar 3) (aNil))))) (gT (gsCons (gN 4) (gsCons (gN 5) (gsNil)))) (tYesZ) (eCall g_added (aCons (eNew (eLC (iSeq (eVar 5)) (gN 6) (tYesZ) (eOp oIx (eVar 2) (eVar 6)) [6])) (aNil))) [4, 5])) (aNil))) (aNil)))
def s_worths : SF := sSeq (sAsg (eNew (aNil)) (gN 2)) (sSeq (sFor (iRange (aCons (eOp oAdd (eVar 1) (eC (.int 1))) (aNil))) (gN 3) b1_worths) (sRet (eSeqCall bTuple (qOf (eVar 2)))))
theorem w_worths (c_least_missing : Cal P w K mg base 1 "least_missing" ["numbers"] g_least_missing) (c_lefts : Cal P w K mg base 1 "lefts" ["code", "n"] g_lefts) (c_added : Cal P w K mg base 1 "added" ["numbers"] g_added) (b_range : mg "range" = none) (b_tuple : mg "tuple" = none) : ∀ (f : Addr) (cdv : Value) (A : Around) (outer : List PySem.Env) (s₀ : Shared) (H : Hp) (E : XK), A.guards = some [] → Room 1 (A.deeper (envOfC "worths" (defScope st_worths) s₀.heap.objs.size f cdv)) →
    ZSs (cxOf CX0 P w K mg base n_worths "worths" (defScope st_worths) f cdv A outer s₀ H E).nox (defBody st_worths) s_worths := fun f cdv A outer s₀ H E hG hr =>
  zss_cons (zs_set (i := 2) sc_worths.nd rfl (.inr rfl) (ze_new (zl_lst (za_nil))))
  (zss_cons (zs_for PassesOwn.never rfl (zi_range1 (by rfl) b_range (za_cons (ze_op zo_add (zv 1) (zi)) (za_nil))) (zg_name (i := 3) sc_worths.nd rfl (.inl rfl))
  (zss_one (zs_expr (ze_lm rfl PySem.F.plainAttrs_list PySem.F.slot_list_append PySem.F.type_list_append zm_append (zv 2) (za_cons (ze_callC c_least_missing hG hr (by decide) (by rfl) (za_cons (ze_new (zl_lc (own := [("k", 4), ("left", 5)]) rfl sc_worths.nd (zi_seq (ze_callC c_lefts hG hr (by decide) (by rfl) (za_cons (zv 0) (za_cons (zv 3) (za_nil))))) (blkOk_by (N := n_worths) (sc := defScope st_worths) (own := [("k", 4), ("left", 5)]) (by first | decide +kernel | kernel_rfl)) (fun _ _ _ _ _ => zg_tup rfl (zgs_cons (zg_name (i := 4) sc_worths.nd rfl (.inl rfl)) (zgs_cons (zg_name (i := 5) sc_worths.nd rfl (.inl rfl)) (zgs_nil))) (glen_cons gN_mono (glen_cons gN_mono glen_nil gN_ex) gN_ex)) (fun _ _ _ _ _ => zts_nil) (fun _ _ _ _ _ => ze_callC c_added hG hr (by decide) (by rfl) (za_cons (ze_new (zl_lc (own := [("a", 6)]) rfl sc_worths.nd (zi_seq (zv 5)) (blkOk_by (N := n_worths) (own := [("a", 6)]) (by first | decide +kernel | kernel_rfl)) (fun _ _ _ _ _ => zg_name (i := 6) sc_worths.nd rfl (.inl rfl)) (fun _ _ _ _ _ => zts_nil) (fun _ _ _ _ _ => ze_ix (u1 hr) (zv 2) (zv 6)))) (za_nil))))) (za_nil))) (za_nil))))))
  (zss_one (zs_ret (ze_seqTy zq_tuple (by rfl) b_tuple boot_b_tuple (zq_of (zv 2))))))
/-! period (level 3) -/
def i1_period : SF := sIf (tOpB oLe (eCall g_need (aCons (eVar 0) (aCons (eVar 4) (aCons (eVar 3) (aNil))))) (eVar 1)) (sRet (eTup (aCons (eVar 4) (aCons (eVar 3) (aNil))))) (sNext)
def b2_period : SF := sSeq (sAsg (eCall g_least_start (aCons (eVar 2) (aCons (eVar 3) (aCons (eVar 1) (aNil))))) (gN 4)) (i1_period)
def s_period : SF := sSeq (sAsg (eCall g_worths (aCons (eVar 0) (aCons (eVar 1) (aNil)))) (gN 2)) (sSeq (sFor (iRange (aCons (eC (.int 1)) (aCons (eOp oAdd (eOp oFdiv (eVar 1) (eC (.int 2))) (eC (.int 1))) (aNil)))) (gN 3) b2_period) (sRet (eC .non)))
theorem w_period (c_worths : Cal P w K mg base 2 "worths" ["code", "most"] g_worths) (c_least_start : Cal P w K mg base 1 "least_start" ["table", "p", "most"] g_least_start) (c_need : Cal P w K mg base 1 "need" ["code", "s", "p"] g_need) (b_range : mg "range" = none) : ∀ (f : Addr) (cdv : Value) (A : Around) (outer : List PySem.Env) (s₀ : Shared) (H : Hp) (E : XK), A.guards = some [] → Room 2 (A.deeper (envOfC "period" (defScope st_period) s₀.heap.objs.size f cdv)) →
    ZSs (cxOf CX0 P w K mg base n_period "period" (defScope st_period) f cdv A outer s₀ H E).nox (defBody st_period) s_period := fun f cdv A outer s₀ H E hG hr =>
  zss_cons (zs_set (i := 2) sc_period.nd rfl (.inl rfl) (ze_callC c_worths hG hr (by decide) (by rfl) (za_cons (zv 0) (za_cons (zv 1) (za_nil)))))
  (zss_cons (zs_for PassesOwn.never rfl (zi_range2 (by rfl) b_range (za_cons (zi) (za_cons (ze_op zo_add (ze_op zo_fdiv (zv 1) (zi)) (zi)) (za_nil)))) (zg_name (i := 3) sc_period.nd rfl (.inl rfl))
  (zss_cons (zs_set (i := 4) sc_period.nd rfl (.inl rfl) (ze_callC c_least_start hG hr (by decide) (by rfl) (za_cons (zv 2) (za_cons (zv 3) (za_cons (zv 1) (za_nil))))))
  (zss_one (zs_if (zt_cmp (zo_le (u64 hr)) (ze_callC c_need hG hr (by decide) (by rfl) (za_cons (zv 0) (za_cons (zv 4) (za_cons (zv 3) (za_nil))))) (zv 1)) (zss_one (zs_ret (ze_tup (za_cons (zv 4) (za_cons (zv 3) (za_nil)))))) (zss_nil)))))
  (zss_one (zs_ret (zn))))
/-! judge_period (level 3) -/
def i1_judge_period : SF := sIf (tOrZ (tNotZ (tTru (eIsa isa_tuple (eVar 1)))) (tOrZ (tOpB oNe (eSeqCall bLenS (qOf (eVar 1))) (eC (.int 2))) (tOrZ (tNotZ (tTru (eCall g_is_number (aCons (eOp oIx (eVar 1) (eC (.int 0))) (aNil))))) (tNotZ (tTru (eCall g_is_number (aCons (eOp oIx (eVar 1) (eC (.int 1))) (aNil)))))))) (sRet (eTup (aCons (eC (.str "form")) (aNil)))) (sNext)
def i2_judge_period : SF := sIf (tOpB oGt (eCall g_need (aCons (eVar 0) (aCons (eVar 2) (aCons (eVar 3) (aNil))))) (eC (.int 400))) (sRet (eTup (aCons (eC (.str "form")) (aNil)))) (sNext)
def s_judge_period : SF := sSeq (i1_judge_period) (sSeq (sAsg (eVar 1) (gT (gsCons (gN 2) (gsCons (gN 3) (gsNil))))) (sSeq (i2_judge_period) (sSeq (sAsg (eCall g_first_unlike (aCons (eCall g_worths (aCons (eVar 0) (aCons (eCall g_need (aCons (eVar 0) (aCons (eVar 2) (aCons (eVar 3) (aNil))))) (aNil)))) (aCons (eVar 2) (aCons (eVar 3) (aCons (eCall g_need (aCons (eVar 0) (aCons (eVar 2) (aCons (eVar 3) (aNil))))) (aNil)))))) (gN 4)) (sRet (eIfZ (tOpB oNotN (eVar 4) (eC .non)) (eTup (aCons (eC (.str "worth")) (aCons (eVar 4) (aNil)))) (eC .non))))))
theorem w_judge_period {t_MOST : Tok} (c_is_number : Cal P w K mg base 1 "is_number" ["value"] g_is_number) (c_need : Cal P w K mg base 1 "need" ["code", "s", "p"] g_need) (c_first_unlike : Cal P w K mg base 1 "first_unlike" ["table", "s", "p", "most"] g_first_unlike) (c_worths : Cal P w K mg base 2 "worths" ["code", "most"] g_worths) (b_isinstance : mg "isinstance" = none) (b_tuple : mg "tuple" = none) (b_len : mg "len" = none) (i_MOST : mg "MOST" = some (.int 400 t_MOST)) : ∀ (f : Addr) (cdv : Value) (A : Around) (outer : List PySem.Env) (s₀ : Shared) (H : Hp) (E : XK), A.guards = some [] → Room 2 (A.deeper (envOfC "judge_period" (defScope st_judge_period) s₀.heap.objs.size f cdv)) →
    ZSs (cxOf CX0 P w K mg base n_judge_period "judge_period" (defScope st_judge_period) f cdv A outer s₀ H E).nox (defBody st_judge_period) s_judge_period := fun f cdv A outer s₀ H E hG hr =>
  zss_cons (zs_if (ZW.zt (zw_or (zt_not (zt_tru (ze_isa hisa_tuple (by rfl) b_isinstance (by rfl) b_tuple boot_b_tuple (zv 1)))) (zw_or (zt_cmp (zo_ne (u64 hr)) (ze_seqB zq_len (by rfl) b_len boot_b_len (zq_of (zv 1))) (zi)) (zw_or (zt_not (zt_tru (ze_callC c_is_number hG hr (by decide) (by rfl) (za_cons (ze_ix (u1 hr) (zv 1) (zi)) (za_nil))))) (zw_one_or (zt_not (zt_tru (ze_callC c_is_number hG hr (by decide) (by rfl) (za_cons (ze_ix (u1 hr) (zv 1) (zi)) (za_nil)))))))))) (zss_one (zs_ret (ze_tup (za_cons (zs) (za_nil))))) (zss_nil))
  (zss_cons (zs_asg (zv 1) (zg_tup rfl (zgs_cons (zg_name (i := 2) sc_judge_period.nd rfl (.inl rfl)) (zgs_cons (zg_name (i := 3) sc_judge_period.nd rfl (.inl rfl)) (zgs_nil))) (glen_cons gN_mono (glen_cons gN_mono glen_nil gN_ex) gN_ex)))
  (zss_cons (zs_if (zt_cmp (zo_gt (u64 hr)) (ze_callC c_need hG hr (by decide) (by rfl) (za_cons (zv 0) (za_cons (zv 2) (za_cons (zv 3) (za_nil))))) (zg_int (by rfl) i_MOST)) (zss_one (zs_ret (ze_tup (za_cons (zs) (za_nil))))) (zss_nil))
  (zss_cons (zs_set (i := 4) sc_judge_period.nd rfl (.inl rfl) (ze_callC c_first_unlike hG hr (by decide) (by rfl) (za_cons (ze_callC c_worths hG hr (by decide) (by rfl) (za_cons (zv 0) (za_cons (ze_callC c_need hG hr (by decide) (by rfl) (za_cons (zv 0) (za_cons (zv 2) (za_cons (zv 3) (za_nil))))) (za_nil)))) (za_cons (zv 2) (za_cons (zv 3) (za_cons (ze_callC c_need hG hr (by decide) (by rfl) (za_cons (zv 0) (za_cons (zv 2) (za_cons (zv 3) (za_nil))))) (za_nil)))))))
  (zss_one (zs_ret (ze_if (zt_cmp zo_notN (zv 4) (zn)) (ze_tup (za_cons (zs) (za_cons (zv 4) (za_nil)))) (zn)))))))
/-! apart (level 3) -/
def i1_apart : SF := sIf (tOpB oNe (eVar 4) (eVar 5)) (sRet (eVar 3)) (sNext)
def b2_apart : SF := i1_apart
def s_apart : SF := sSeq (sFor (iEnumZip (aCons (eCall g_worths (aCons (eVar 0) (aCons (eVar 2) (aNil)))) (aCons (eCall g_worths (aCons (eVar 1) (aCons (eVar 2) (aNil)))) (aNil)))) (gT (gsCons (gN 3) (gsCons (gT (gsCons (gN 4) (gsCons (gN 5) (gsNil)))) (gsNil)))) b2_apart) (sRet (eC .non))
theorem w_apart (c_worths : Cal P w K mg base 2 "worths" ["code", "most"] g_worths) (b_enumerate : mg "enumerate" = none) (b_zip : mg "zip" = none) : ∀ (f : Addr) (cdv : Value) (A : Around) (outer : List PySem.Env) (s₀ : Shared) (H : Hp) (E : XK), A.guards = some [] → Room 2 (A.deeper (envOfC "apart" (defScope st_apart) s₀.heap.objs.size f cdv)) →
    ZSs (cxOf CX0 P w K mg base n_apart "apart" (defScope st_apart) f cdv A outer s₀ H E).nox (defBody st_apart) s_apart := fun f cdv A outer s₀ H E hG hr =>
  zss_cons (zs_for PassesOwn.never rfl (zi_enumZip (by rfl) b_enumerate (by rfl) b_zip (za_cons (ze_callC c_worths hG hr (by decide) (by rfl) (za_cons (zv 0) (za_cons (zv 2) (za_nil)))) (za_cons (ze_callC c_worths hG hr (by decide) (by rfl) (za_cons (zv 1) (za_cons (zv 2) (za_nil)))) (za_nil)))) (zg_tup rfl (zgs_cons (zg_name (i := 3) sc_apart.nd rfl (.inl rfl)) (zgs_cons (zg_tup rfl (zgs_cons (zg_name (i := 4) sc_apart.nd rfl (.inl rfl)) (zgs_cons (zg_name (i := 5) sc_apart.nd rfl (.inl rfl)) (zgs_nil))) (glen_cons gN_mono (glen_cons gN_mono glen_nil gN_ex) gN_ex)) (zgs_nil))) (glen_cons gN_mono (glen_cons (gT_mono (gsCons_mono gN_mono (gsCons_mono gN_mono gsNil_mono))) glen_nil (gT_ex (gsCons_ex gN_ex (gsCons_ex gN_ex gsNil_ex)))) gN_ex))
  (zss_one (zs_if (zt_cmp (zo_ne (u64 hr)) (zv 4) (zv 5)) (zss_one (zs_ret (zv 3))) (zss_nil))))
  (zss_one (zs_ret (zn)))
/-! law (level 4) -/
def i1_law : SF := sIf (tOpB oNe (eCall bRepr (aCons (eCall g_worths (aCons (eVar 4) (aCons (eVar 3) (aNil)))) (aNil))) (eCall bRepr (aCons (eSeqCall bTuple (eLC (iRange (aCons (eOp oAdd (eVar 3) (eC (.int 1))) (aNil))) (gN 7) (tYesZ) (eOp oMod (eVar 7) (eOp oAdd (eVar 2) (eC (.int 1)))) [7])) (aNil)))) (sRet (eC (.bl false))) (sNext)
def i2_law : SF := sIf (tOpB oNe (eCall bRepr (aCons (eCall g_period (aCons (eVar 4) (aCons (eVar 3) (aNil)))) (aNil))) (eCall bRepr (aCons (eTup (aCons (eC (.int 1)) (aCons (eOp oAdd (eVar 2) (eC (.int 1))) (aNil)))) (aNil)))) (sRet (eC (.bl false))) (sNext)
def i3_law : SF := sIf (tOrZ (tOpB oNe (eCall bRepr (aCons (eCall g_period (aCons (eVar 5) (aCons (eC (.int 200)) (aNil)))) (aNil))) (eCall bRepr (aCons (eTup (aCons (eC (.int 71)) (aCons (eC (.int 12)) (aNil)))) (aNil)))) (tOpB oNe (eCall g_judge_period (aCons (eVar 5) (aCons (eTup (aCons (eC (.int 70)) (aCons (eC (.int 12)) (aNil)))) (aNil)))) (eTup (aCons (eC (.str "worth")) (aCons (eC (.int 70)) (aNil)))))) (sRet (eC (.bl false))) (sNext)
def i4_law : SF := sIf (tOpB oEq (eCall g__law_pick (aCons (eVar 1) (aCons (eC (.int 3)) (aNil)))) (eC (.int 0))) (i3_law) (sNext)
def i5_law : SF := sIf (tOpB oNe (eCall bRepr (aCons (eCall g_worths (aCons (eVar 5) (aCons (eC (.int 20)) (aNil)))) (aNil))) (eCall bRepr (aCons (eTup (aCons (eC (.int 0)) (aCons (eC (.int 1)) (aCons (eC (.int 2)) (aCons (eC (.int 3)) (aCons (eC (.int 1)) (aCons (eC (.int 4)) (aCons (eC (.int 3)) (aCons (eC (.int 2)) (aCons (eC (.int 1)) (aCons (eC (.int 4)) (aCons (eC (.int 2)) (aCons (eC (.int 6)) (aCons (eC (.int 4)) (aCons (eC (.int 1)) (aCons (eC (.int 2)) (aCons (eC (.int 7)) (aCons (eC (.int 1)) (aCons (eC (.int 4)) (aCons (eC (.int 3)) (aCons (eC (.int 2)) (aCons (eC (.int 1)) (aNil))))))))))))))))))))))) (aNil)))) (sRet (eC (.bl false))) (sNext)
def i6_law : SF := sIf (tOpB oNe (eCall bRepr (aCons (eCall g_worths (aCons (eVar 6) (aCons (eC (.int 20)) (aNil)))) (aNil))) (eCall bRepr (aCons (eTup (aCons (eC (.int 0)) (aCons (eC (.int 0)) (aCons (eC (.int 1)) (aCons (eC (.int 1)) (aCons (eC (.int 2)) (aCons (eC (.int 0)) (aCons (eC (.int 3)) (aCons (eC (.int 1)) (aCons (eC (.int 1)) (aCons (eC (.int 0)) (aCons (eC (.int 3)) (aCons (eC (.int 3)) (aCons (eC (.int 2)) (aCons (eC (.int 2)) (aCons (eC (.int 4)) (aCons (eC (.int 0)) (aCons (eC (.int 5)) (aCons (eC (.int 2)) (aCons (eC (.int 2)) (aCons (eC (.int 3)) (aCons (eC (.int 3)) (aNil))))))))))))))))))))))) (aNil)))) (sRet (eC (.bl false))) (sNext)
def i7_law : SF := sIf (tAndZ (tOpB oEq (eCall g__law_pick (aCons (eVar 1) (aCons (eC (.int 3)) (aNil)))) (eC (.int 0))) (tOpB oNe (eCall bRepr (aCons (eCall g_period (aCons (eVar 6) (aCons (eC (.int 200)) (aNil)))) (aNil))) (eCall bRepr (aCons (eTup (aCons (eC (.int 53)) (aCons (eC (.int 34)) (aNil)))) (aNil))))) (sRet (eC (.bl false))) (sNext)
def i8_law : SF := sIf (tOrZ (tOpB oNe (eCall bRepr (aCons (eCall g_apart (aCons (eVar 4) (aCons (eVar 4) (aCons (eVar 3) (aNil))))) (aNil))) (eCall bRepr (aCons (eC .non) (aNil)))) (tOpB oNe (eCall bRepr (aCons (eCall g_apart (aCons (eVar 4) (aCons (eOp oMul (eTup (aCons (eC (.int 3)) (aNil))) (eOp oAdd (eOp oMod (eVar 2) (eC (.int 6))) (eC (.int 1)))) (aCons (eVar 3) (aNil))))) (aNil))) (eCall bRepr (aCons (eCall g__law_first (aCons (eVar 2) (aNil))) (aNil))))) (sRet (eC (.bl false))) (sNext)
def s_law : SF := sSeq (sAsg (eCall g__law_open_cells (aCons (eVar 0) (aNil))) (gN 1)) (sSeq (sAsg (eTup (aCons (eOp oAdd (eC (.int 1)) (eCall g__law_pick (aCons (eVar 1) (aCons (eC (.int 6)) (aNil))))) (aCons (eOp oAdd (eC (.int 40)) (eCall g__law_pick (aCons (eVar 1) (aCons (eC (.int 30)) (aNil))))) (aNil)))) (gT (gsCons (gN 2) (gsCons (gN 3) (gsNil))))) (sSeq (sAsg (eOp oMul (eTup (aCons (eC (.int 3)) (aNil))) (eVar 2)) (gN 4)) (sSeq (i1_law) (sSeq (i2_law) (sSeq (sAsg (eTup (aCons (eC (.int 7)) (aCons (eC (.int 7)) (aNil)))) (gN 5)) (sSeq (i4_law) (sSeq (i5_law) (sSeq (sAsg (eTup (aCons (eC (.int 0)) (aCons (eC (.int 7)) (aNil)))) (gN 6)) (sSeq (i6_law) (sSeq (i7_law) (sSeq (i8_law) (sRet (eOp oEq (eCall bRepr (aCons (eCall g_apart (aCons (eVar 5) (aCons (eVar 6) (aCons (eC (.int 30)) (aNil))))) (aNil))) (eCall bRepr (aCons (eC (.int 1)) (aNil))))))))))))))))
theorem w_law (c__law_open_cells : Cal P w K mg base 1 "_law_open_cells" ["script"] g__law_open_cells) (c__law_pick : Cal P w K mg base 1 "_law_pick" ["source", "most"] g__law_pick) (c_worths : Cal P w K mg base 2 "worths" ["code", "most"] g_worths) (c_period : Cal P w K mg base 3 "period" ["code", "most"] g_period) (c_judge_period : Cal P w K mg base 3 "judge_period" ["code", "value"] g_judge_period) (c_apart : Cal P w K mg base 3 "apart" ["one", "other", "most"] g_apart) (c__law_first : Cal P w K mg base 1 "_law_first" ["many"] g__law_first) (b_repr : mg "repr" = none) (b_range : mg "range" = none) (b_tuple : mg "tuple" = none) : ∀ (f : Addr) (cdv : Value) (A : Around) (outer : List PySem.Env) (s₀ : Shared) (H : Hp) (E : XK), A.guards = some [] → Room 3 (A.deeper (envOfC "law" (defScope st_law) s₀.heap.objs.size f cdv)) →
    ZSs (cxOf CX0 P w K mg base n_law "law" (defScope st_law) f cdv A outer s₀ H E).nox (defBody st_law) s_law := fun f cdv A outer s₀ H E hG hr =>
  zss_cons (zs_set (i := 1) sc_law.nd rfl (.inl rfl) (ze_callC c__law_open_cells hG hr (by decide) (by rfl) (za_cons (zv 0) (za_nil))))
  (zss_cons (zs_asg (ze_tup (za_cons (ze_op zo_add (zi) (ze_callC c__law_pick hG hr (by decide) (by rfl) (za_cons (zv 1) (za_cons (zi) (za_nil))))) (za_cons (ze_op zo_add (zi) (ze_callC c__law_pick hG hr (by decide) (by rfl) (za_cons (zv 1) (za_cons (zi) (za_nil))))) (za_nil)))) (zg_tup rfl (zgs_cons (zg_name (i := 2) sc_law.nd rfl (.inr rfl)) (zgs_cons (zg_name (i := 3) sc_law.nd rfl (.inl rfl)) (zgs_nil))) (glen_cons gN_mono (glen_cons gN_mono glen_nil gN_ex) gN_ex)))
  (zss_cons (zs_set (i := 4) sc_law.nd rfl (.inl rfl) (ze_op zo_mul (ze_tup (za_cons (zi) (za_nil))) (zv 2)))
  (zss_cons (zs_if (zt_cmp (zo_ne (u64 hr)) (ze_callB (zb_repr hG (u64 hr)) (by rfl) b_repr boot_b_repr (za_cons (ze_callC c_worths hG hr (by decide) (by rfl) (za_cons (zv 4) (za_cons (zv 3) (za_nil)))) (za_nil))) (ze_callB (zb_repr hG (u64 hr)) (by rfl) b_repr boot_b_repr (za_cons (ze_seqTy zq_tuple (by rfl) b_tuple boot_b_tuple (zq_new (zl_lc (own := [("n", 7)]) rfl sc_law.nd (zi_range1 (by rfl) b_range (za_cons (ze_op zo_add (zv 3) (zi)) (za_nil))) (blkOk_by (N := n_law) (sc := defScope st_law) (own := [("n", 7)]) (by first | decide +kernel | kernel_rfl)) (fun _ _ _ _ _ => zg_name (i := 7) sc_law.nd rfl (.inl rfl)) (fun _ _ _ _ _ => zts_nil) (fun _ _ _ _ _ => ze_op zo_mod (zv 7) (ze_op zo_add (zv 2) (zi)))))) (za_nil)))) (zss_one (zs_ret (zb))) (zss_nil))
  (zss_cons (zs_if (zt_cmp (zo_ne (u64 hr)) (ze_callB (zb_repr hG (u64 hr)) (by rfl) b_repr boot_b_repr (za_cons (ze_callC c_period hG hr (by decide) (by rfl) (za_cons (zv 4) (za_cons (zv 3) (za_nil)))) (za_nil))) (ze_callB (zb_repr hG (u64 hr)) (by rfl) b_repr boot_b_repr (za_cons (ze_tup (za_cons (zi) (za_cons (ze_op zo_add (zv 2) (zi)) (za_nil)))) (za_nil)))) (zss_one (zs_ret (zb))) (zss_nil))
  (zss_cons (zs_set (i := 5) sc_law.nd rfl (.inl rfl) (ze_tup (za_cons (zi) (za_cons (zi) (za_nil)))))
  (zss_cons (zs_if (zt_cmp (zo_eq (u64 hr)) (ze_callC c__law_pick hG hr (by decide) (by rfl) (za_cons (zv 1) (za_cons (zi) (za_nil)))) (zi)) (zss_one (zs_if (ZW.zt (zw_or (zt_cmp (zo_ne (u64 hr)) (ze_callB (zb_repr hG (u64 hr)) (by rfl) b_repr boot_b_repr (za_cons (ze_callC c_period hG hr (by decide) (by rfl) (za_cons (zv 5) (za_cons (zi) (za_nil)))) (za_nil))) (ze_callB (zb_repr hG (u64 hr)) (by rfl) b_repr boot_b_repr (za_cons (ze_tup (za_cons (zi) (za_cons (zi) (za_nil)))) (za_nil)))) (zw_one_or (zt_cmp (zo_ne (u64 hr)) (ze_callC c_judge_period hG hr (by decide) (by rfl) (za_cons (zv 5) (za_cons (ze_tup (za_cons (zi) (za_cons (zi) (za_nil)))) (za_nil)))) (ze_tup (za_cons (zs) (za_cons (zi) (za_nil)))))))) (zss_one (zs_ret (zb))) (zss_nil))) (zss_nil))
  (zss_cons (zs_if (zt_cmp (zo_ne (u64 hr)) (ze_callB (zb_repr hG (u64 hr)) (by rfl) b_repr boot_b_repr (za_cons (ze_callC c_worths hG hr (by decide) (by rfl) (za_cons (zv 5) (za_cons (zi) (za_nil)))) (za_nil))) (ze_callB (zb_repr hG (u64 hr)) (by rfl) b_repr boot_b_repr (za_cons (ze_tup (za_cons (zi) (za_cons (zi) (za_cons (zi) (za_cons (zi) (za_cons (zi) (za_cons (zi) (za_cons (zi) (za_cons (zi) (za_cons (zi) (za_cons (zi) (za_cons (zi) (za_cons (zi) (za_cons (zi) (za_cons (zi) (za_cons (zi) (za_cons (zi) (za_cons (zi) (za_cons (zi) (za_cons (zi) (za_cons (zi) (za_cons (zi) (za_nil))))))))))))))))))))))) (za_nil)))) (zss_one (zs_ret (zb))) (zss_nil))
  (zss_cons (zs_set (i := 6) sc_law.nd rfl (.inl rfl) (ze_tup (za_cons (zi) (za_cons (zi) (za_nil)))))
  (zss_cons (zs_if (zt_cmp (zo_ne (u64 hr)) (ze_callB (zb_repr hG (u64 hr)) (by rfl) b_repr boot_b_repr (za_cons (ze_callC c_worths hG hr (by decide) (by rfl) (za_cons (zv 6) (za_cons (zi) (za_nil)))) (za_nil))) (ze_callB (zb_repr hG (u64 hr)) (by rfl) b_repr boot_b_repr (za_cons (ze_tup (za_cons (zi) (za_cons (zi) (za_cons (zi) (za_cons (zi) (za_cons (zi) (za_cons (zi) (za_cons (zi) (za_cons (zi) (za_cons (zi) (za_cons (zi) (za_cons (zi) (za_cons (zi) (za_cons (zi) (za_cons (zi) (za_cons (zi) (za_cons (zi) (za_cons (zi) (za_cons (zi) (za_cons (zi) (za_cons (zi) (za_cons (zi) (za_nil))))))))))))))))))))))) (za_nil)))) (zss_one (zs_ret (zb))) (zss_nil))
  (zss_cons (zs_if (ZW.zt (zw_and (zt_cmp (zo_eq (u64 hr)) (ze_callC c__law_pick hG hr (by decide) (by rfl) (za_cons (zv 1) (za_cons (zi) (za_nil)))) (zi)) (zw_one_and (zt_cmp (zo_ne (u64 hr)) (ze_callB (zb_repr hG (u64 hr)) (by rfl) b_repr boot_b_repr (za_cons (ze_callC c_period hG hr (by decide) (by rfl) (za_cons (zv 6) (za_cons (zi) (za_nil)))) (za_nil))) (ze_callB (zb_repr hG (u64 hr)) (by rfl) b_repr boot_b_repr (za_cons (ze_tup (za_cons (zi) (za_cons (zi) (za_nil)))) (za_nil))))))) (zss_one (zs_ret (zb))) (zss_nil))
  (zss_cons (zs_if (ZW.zt (zw_or (zt_cmp (zo_ne (u64 hr)) (ze_callB (zb_repr hG (u64 hr)) (by rfl) b_repr boot_b_repr (za_cons (ze_callC c_apart hG hr (by decide) (by rfl) (za_cons (zv 4) (za_cons (zv 4) (za_cons (zv 3) (za_nil))))) (za_nil))) (ze_callB (zb_repr hG (u64 hr)) (by rfl) b_repr boot_b_repr (za_cons (zn) (za_nil)))) (zw_one_or (zt_cmp (zo_ne (u64 hr)) (ze_callB (zb_repr hG (u64 hr)) (by rfl) b_repr boot_b_repr (za_cons (ze_callC c_apart hG hr (by decide) (by rfl) (za_cons (zv 4) (za_cons (ze_op zo_mul (ze_tup (za_cons (zi) (za_nil))) (ze_op zo_add (ze_op zo_mod (zv 2) (zi)) (zi))) (za_cons (zv 3) (za_nil))))) (za_nil))) (ze_callB (zb_repr hG (u64 hr)) (by rfl) b_repr boot_b_repr (za_cons (ze_callC c__law_first hG hr (by decide) (by rfl) (za_cons (zv 2) (za_nil))) (za_nil))))))) (zss_one (zs_ret (zb))) (zss_nil))
  (zss_one (zs_ret (ze_cmp (zo_eq (u64 hr)) (ze_callB (zb_repr hG (u64 hr)) (by rfl) b_repr boot_b_repr (za_cons (ze_callC c_apart hG hr (by decide) (by rfl) (za_cons (zv 5) (za_cons (zv 6) (za_cons (zi) (za_nil))))) (za_nil))) (ze_callB (zb_repr hG (u64 hr)) (by rfl) b_repr boot_b_repr (za_cons (zi) (za_nil)))))))))))))))))
end
end Z
set_option maxHeartbeats 4000000
namespace Z
open PySem PySem.Spec PyProof.Rows L2
theorem bx_nat (a b : Nat) : Builtin.bitXor (a : Int) (b : Int) = ((a ^^^ b : Nat) : Int) := by
  rw [Bits.bitXor_pp (Int.natCast_nonneg _) (Int.natCast_nonneg _), Int.toNat_natCast, Int.toNat_natCast]
theorem ba_nat (a b : Nat) : Builtin.bitAnd (a : Int) (b : Int) = ((a &&& b : Nat) : Int) := by
  unfold Builtin.bitAnd
  rw [decide_eq_true (Int.natCast_nonneg a), decide_eq_true (Int.natCast_nonneg b)]
  simp
theorem l_added : ∀ ds M Q, ds.length = 1 → g_added ds M Q → bodyF 1 n_added s_added ds M Q := by
  rintro ds M Q hl ⟨a, xs, rfl, hM, hq⟩
  refine ⟨rfl, ?_⟩
  have loop : ∀ (ys : List Nat) (acc : Nat) (o2 : Option D), Q (nI (ys.foldl (fun a b => a ^^^ b) acc)) M →
      forZ (gN 2) b1_added (some (a, xs.map nI)) (ys.map nI) ⟨sRet (eVar 1) (endsF Q), (endsF Q).rt, (endsF Q).bk, (endsF Q).ct⟩ [some (.ref a), some (nI acc), o2] M := by
    intro ys
    induction ys with
    | nil => exact fun acc o2 h => ⟨hM, dropK.self h⟩
    | cons y r ih =>
      intro acc o2 h
      refine ⟨hM, ?_⟩
      have := ih (acc ^^^ y) (some (nI y)) h
      simp only [b1_added, bodyF, startD, sSeq, sAsg, sIf, sRet, sRetN, sDrop, sNext, sBreak, sCont, sSub, sPar, sPar3, sFor, eOp, eVar, eC, eTup, eNew, eCall, eSeqCall, eDisp, eDNew, eLM, eExtend, eAndZ, eOrZ, eNotZ, eNotT, eNeg, eIfZ, eIsa, eAny, eAll, eCutT, oNone, oSome, aNil, aCons, qOf, kOf, aRev, aSort, eLC, iSeq, iNew, iRange, iEnum, iEnumN, iEnumZip, gN, gT, gsNil, gsCons, tTru, tOpB, tAndZ, tOrZ, tNotZ, tYesZ, oAdd, oSub, oMul, oFdiv, oMod, oXor, oAnd, oShr, oShl, oPow, oEq, oNe, oEqC, scalEq, oLt, oGt, oLe, oGe, oOrd, oIsN, oNotN, D.isN, oIx, bInt, bRepr, bAbs, b2, bTuple, bLenS, truZ, mAppend, mPop, mPopAt, pNil, pCons, uSet, wipeD, endsF, List.set_cons_zero, List.set_cons_succ, List.getElem?_cons_zero, List.getElem?_cons_succ, List.map_cons, List.map_nil, List.length_cons, List.length_nil, List.replicate, List.cons_append, List.nil_append, id_eq]
      rw [bx_nat]
      exact this
  simp only [s_added, n_added, bodyF, startD, sSeq, sAsg, sIf, sRet, sRetN, sDrop, sNext, sBreak, sCont, sSub, sPar, sPar3, sFor, eOp, eVar, eC, eTup, eNew, eCall, eSeqCall, eDisp, eDNew, eLM, eExtend, eAndZ, eOrZ, eNotZ, eNotT, eNeg, eIfZ, eIsa, eAny, eAll, eCutT, oNone, oSome, aNil, aCons, qOf, kOf, aRev, aSort, eLC, iSeq, iNew, iRange, iEnum, iEnumN, iEnumZip, gN, gT, gsNil, gsCons, tTru, tOpB, tAndZ, tOrZ, tNotZ, tYesZ, oAdd, oSub, oMul, oFdiv, oMod, oXor, oAnd, oShr, oShl, oPow, oEq, oNe, oEqC, scalEq, oLt, oGt, oLe, oGe, oOrd, oIsN, oNotN, D.isN, oIx, bInt, bRepr, bAbs, b2, bTuple, bLenS, truZ, mAppend, mPop, mPopAt, pNil, pCons, uSet, wipeD, endsF, List.set_cons_zero, List.set_cons_succ, List.getElem?_cons_zero, List.getElem?_cons_succ, List.map_cons, List.map_nil, List.length_cons, List.length_nil, List.replicate, List.cons_append, List.nil_append, id_eq]
  exact ⟨_, hM, loop xs 0 none hq⟩
/-! ### the least number missing -/
theorem dataLt_nat (a b : Nat) : PySem.W.dataLt (.int (a : Int)) (.int (b : Int)) = decide (a < b) := by
  have := congrFun (congrFun (PySem.W.dataLe_int (β := Nat) fun n => (n : Int)) b) a
  rw [PySem.W.dataLe_eq] at this
  simp only [cond_false] at this
  rw [Bool.eq_iff_iff]
  have h2 : (!PySem.W.dataLt (.int (a : Int)) (.int (b : Int))) = decide ((b : Int) ≤ (a : Int)) := this
  cases h : PySem.W.dataLt (.int (a : Int)) (.int (b : Int)) <;> rw [h] at h2 <;> simp at h2 ⊢ <;> omega
theorem srt_nat (xs : List Nat) : ∃ ys : List Nat, srtD (xs.map nI) = ys.map nI ∧ ys.Perm xs ∧ ys.Pairwise (· ≤ ·) := by
  refine ⟨xs.mergeSort (fun a b => decide (a ≤ b)), ?_, List.mergeSort_perm _ _, ?_⟩
  · unfold srtD
    refine (List.map_mergeSort fun a _ b _ => ?_).symm
    show decide (a ≤ b) = !PySem.W.dataLt (.int (b : Int)) (.int (a : Int))
    rw [dataLt_nat, Bool.eq_iff_iff]
    simp
  · have := List.pairwise_mergeSort (le := fun a b : Nat => decide (a ≤ b)) (fun a b c => by simp; omega) (fun a b => by simp; omega) xs
    exact this.imp fun h => by simpa using h
def stepM (f y : Nat) : Nat := if y = f then f + 1 else f
theorem stepM_fold : ∀ (ys : List Nat) (f : Nat), ys.Pairwise (· ≤ ·) → f ≤ ys.foldl stepM f ∧ (∀ k, f ≤ k → k < ys.foldl stepM f → k ∈ ys) ∧ ys.foldl stepM f ∉ ys
  | [], f, _ => ⟨Nat.le_refl _, fun k h1 h2 => absurd h1 (Nat.not_le_of_lt h2), by simp⟩
  | y :: r, f, h => by
    rw [List.pairwise_cons] at h
    obtain ⟨h1, h2⟩ := h
    rw [List.foldl_cons]
    by_cases hy : y = f
    · obtain ⟨a, b, c⟩ := stepM_fold r (stepM f y) h2
      have e : stepM f y = f + 1 := if_pos hy
      rw [e] at a b c ⊢
      refine ⟨by omega, fun k k1 k2 => ?_, ?_⟩
      · by_cases hk : k = f
        · rw [hk, ← hy]; exact List.mem_cons_self
        · exact List.mem_cons_of_mem _ (b k (by omega) k2)
      · intro hm
        rcases List.mem_cons.mp hm with e | hm
        · omega
        · exact c hm
    · obtain ⟨a, b, c⟩ := stepM_fold r (stepM f y) h2
      have e : stepM f y = f := if_neg hy
      rw [e] at a b c ⊢
      refine ⟨a, fun k k1 k2 => List.mem_cons_of_mem _ (b k k1 k2), fun hm => ?_⟩
      rcases List.mem_cons.mp hm with e | hm
      · by_cases hlt : f < r.foldl stepM f
        · have := h1 _ (b f (Nat.le_refl _) hlt)
          omega
        · omega
      · exact c hm
theorem mexF_spec (xs : List Nat) : ∀ (f k : Nat), (∀ j, j < k → j ∈ xs) → (∀ j, j < mexF xs f k → j ∈ xs) ∧ (mexF xs f k ∉ xs ∨ mexF xs f k = f + k)
  | 0, k, h => ⟨h, .inr (by simp [mexF])⟩
  | f + 1, k, h => by
    unfold mexF
    by_cases hk : xs.elem k = true
    · rw [if_pos hk]
      have hm : k ∈ xs := by simpa using hk
      obtain ⟨a, b⟩ := mexF_spec xs f (k + 1) fun j hj => by
        by_cases e : j = k
        · rw [e]; exact hm
        · exact h j (by omega)
      exact ⟨a, b.imp id fun e => by omega⟩
    · rw [if_neg hk]
      exact ⟨h, .inl fun hm => hk (by simpa using hm)⟩
theorem le_foldl_max : ∀ (xs : List Nat) (a : Nat), a ≤ xs.foldl max a ∧ ∀ x ∈ xs, x ≤ xs.foldl max a
  | [], a => ⟨Nat.le_refl _, fun _ h => by cases h⟩
  | y :: r, a => by
    rw [List.foldl_cons]
    obtain ⟨h1, h2⟩ := le_foldl_max r (max a y)
    refine ⟨Nat.le_trans (Nat.le_max_left _ _) h1, fun x hx => ?_⟩
    rcases List.mem_cons.mp hx with rfl | hx
    · exact Nat.le_trans (Nat.le_max_right _ _) h1
    · exact h2 x hx
theorem mexN_spec (xs : List Nat) : (∀ j, j < mexN xs → j ∈ xs) ∧ mexN xs ∉ xs := by
  obtain ⟨a, b⟩ := mexF_spec xs (xs.foldl max 0 + 2) 0 fun j hj => absurd hj (Nat.not_lt_zero _)
  refine ⟨a, b.elim id fun e hm => ?_⟩
  have h1 := (le_foldl_max xs 0).2 _ hm
  have e2 : mexN xs = xs.foldl max 0 + 2 + 0 := e
  omega
theorem mex_uniq {xs ys : List Nat} (hp : ys.Perm xs) {m : Nat} (h1 : ∀ j, j < m → j ∈ ys) (h2 : m ∉ ys) : m = mexN xs := by
  obtain ⟨a, b⟩ := mexN_spec xs
  rcases Nat.lt_trichotomy m (mexN xs) with h | h | h
  · exact absurd (hp.mem_iff.mpr (a m h)) h2
  · exact h
  · exact absurd (hp.mem_iff.mp (h1 _ h)) b
theorem mexN_perm {xs ys : List Nat} (hp : ys.Perm xs) : mexN ys = mexN xs := mex_uniq hp (mexN_spec ys).1 (mexN_spec ys).2
theorem pures_nat : ∀ xs : List Nat, D.pures (xs.map nI) = true
  | [] => rfl
  | x :: r => by rw [List.map_cons, D.pures, pures_nat r]; rfl
theorem l_least_missing : ∀ ds M Q, ds.length = 1 → g_least_missing ds M Q → bodyF 1 n_least_missing s_least_missing ds M Q := by
  rintro ds M Q hl ⟨a, xs, rfl, hM, hq⟩
  refine ⟨rfl, ?_⟩
  obtain ⟨ys, e1, hp, hs⟩ := srt_nat xs
  simp only [s_least_missing, n_least_missing, bodyF, startD, sSeq, sAsg, sIf, sRet, sRetN, sDrop, sNext, sBreak, sCont, sSub, sPar, sPar3, sFor, eOp, eVar, eC, eTup, eNew, eCall, eSeqCall, eDisp, eDNew, eLM, eExtend, eAndZ, eOrZ, eNotZ, eNotT, eNeg, eIfZ, eIsa, eAny, eAll, eCutT, oNone, oSome, aNil, aCons, qOf, kOf, aRev, aSort, eLC, iSeq, iNew, iRange, iEnum, iEnumN, iEnumZip, gN, gT, gsNil, gsCons, tTru, tOpB, tAndZ, tOrZ, tNotZ, tYesZ, oAdd, oSub, oMul, oFdiv, oMod, oXor, oAnd, oShr, oShl, oPow, oEq, oNe, oEqC, scalEq, oLt, oGt, oLe, oGe, oOrd, oIsN, oNotN, D.isN, oIx, bInt, bRepr, bAbs, b2, bTuple, bLenS, truZ, mAppend, mPop, mPopAt, pNil, pCons, uSet, wipeD, endsF, List.set_cons_zero, List.set_cons_succ, List.getElem?_cons_zero, List.getElem?_cons_succ, List.map_cons, List.map_nil, List.length_cons, List.length_nil, List.replicate, List.cons_append, List.nil_append, id_eq]
  refine ⟨_, hM, pures_nat xs, ?_, .inr ?_, ?_, fun p hn => ?_⟩
  · intro d hd d' hd'
    simp only [List.map_map, List.mem_map, Function.comp] at hd hd'
    obtain ⟨x, _, rfl⟩ := hd
    obtain ⟨y, _, rfl⟩ := hd'
    rfl
  · intro d hd
    simp only [List.map_map, List.mem_map, Function.comp] at hd
    obtain ⟨x, _, rfl⟩ := hd
    exact ⟨PyData.noConfusion, fun _ => PyData.noConfusion⟩
  · intro d hd
    obtain ⟨x, _, rfl⟩ := List.mem_map.mp hd
    simp [D.py, PyData.depth]
  · rw [e1]
    have hM2 : put M p (.lst (ys.map nI)) p = some (.lst (ys.map nI)) := put_same
    have loop : ∀ (zs : List Nat) (f : Nat) (o : Option D), Q (nI (zs.foldl stepM f)) M →
        forZ (gN 3) b2_least_missing (some (p, ys.map nI)) (zs.map nI) ⟨sRet (eVar 2) (endsF Q), (endsF Q).rt, (endsF Q).bk, (endsF Q).ct⟩ [some (.ref a), some (.ref p), some (nI f), o] (put M p (.lst (ys.map nI))) := by
      intro zs
      induction zs with
      | nil => exact fun f o h => ⟨hM2, M, Sub.put hn, h⟩
      | cons z r ih =>
        intro f o h
        refine ⟨hM2, ?_⟩
        rw [List.foldl_cons] at h
        have := ih (stepM f z) (some (nI z)) h
        simp only [b2_least_missing, i1_least_missing, bodyF, startD, sSeq, sAsg, sIf, sRet, sRetN, sDrop, sNext, sBreak, sCont, sSub, sPar, sPar3, sFor, eOp, eVar, eC, eTup, eNew, eCall, eSeqCall, eDisp, eDNew, eLM, eExtend, eAndZ, eOrZ, eNotZ, eNotT, eNeg, eIfZ, eIsa, eAny, eAll, eCutT, oNone, oSome, aNil, aCons, qOf, kOf, aRev, aSort, eLC, iSeq, iNew, iRange, iEnum, iEnumN, iEnumZip, gN, gT, gsNil, gsCons, tTru, tOpB, tAndZ, tOrZ, tNotZ, tYesZ, oAdd, oSub, oMul, oFdiv, oMod, oXor, oAnd, oShr, oShl, oPow, oEq, oNe, oEqC, scalEq, oLt, oGt, oLe, oGe, oOrd, oIsN, oNotN, D.isN, oIx, bInt, bRepr, bAbs, b2, bTuple, bLenS, truZ, mAppend, mPop, mPopAt, pNil, pCons, uSet, wipeD, endsF, List.set_cons_zero, List.set_cons_succ, List.getElem?_cons_zero, List.getElem?_cons_succ, List.map_cons, List.map_nil, List.length_cons, List.length_nil, List.replicate, List.cons_append, List.nil_append, id_eq]
        refine ⟨fun e => ?_, fun e => ?_⟩
        · have e' : z = f := by simp only [decide_eq_true_eq] at e; omega
          rw [stepM, if_pos e'] at this
          exact this
        · have e' : ¬ z = f := by simp only [decide_eq_false_iff_not] at e; omega
          rw [stepM, if_neg e'] at this
          exact this
    obtain ⟨_, b, c⟩ := stepM_fold ys 0 hs
    have em := mex_uniq hp (fun j hj => b j (Nat.zero_le _) hj) c
    exact ⟨_, hM2, loop ys 0 none (by rw [em]; exact hq)⟩
end Z
set_option maxHeartbeats 4000000
namespace Z
open PySem PySem.Spec PyProof.Rows L2
theorem comp_pure {i : Nat} {fe : EF} {δ : DE} {M : Sto} {f : D → D} : ∀ (ds : List D) (Q : KA), (∀ d ∈ ds, ∀ Q' : KD, Q' (f d) M → fe (δ.set i (some d)) M Q') → Q (ds.map f) M → compZ (gN i) tYesZ fe none ds δ M Q
  | [], Q, _, h => h
  | d :: r, Q, hf, h => by
    refine ⟨fun _ => hf d List.mem_cons_self _ (comp_pure r (fun ys M' => Q (f d :: ys) M') (fun e he => hf e (List.mem_cons_of_mem _ he)) h), fun e => by cases e⟩
theorem perm_srt (acc : List (Nat × List Nat)) : ∃ ys : List (Nat × List Nat), srtD (acc.map encL) = ys.map encL ∧ ys.Perm acc := by
  refine ⟨acc.mergeSort (fun a b => PySem.W.dataLe false D.py (encL a) (encL b)), by unfold srtD; exact (List.map_mergeSort (f := encL) (s := PySem.W.dataLe false D.py) fun a _ b _ => rfl).symm, List.mergeSort_perm _ _⟩
theorem alike_nats : ∀ xs ys : List Nat, PySem.W.alikeAll (D.pys (xs.map nI)) (D.pys (ys.map nI)) = true
  | [], _ => by simp [D.pys, PySem.W.alikeAll]
  | x :: xs, [] => by simp [D.pys, PySem.W.alikeAll]
  | x :: xs, y :: ys => by simp only [List.map_cons, D.pys, PySem.W.alikeAll, alike_nats xs ys, D.py, PySem.W.alike, Bool.and_self]
theorem depth_nats : ∀ xs : List Nat, PyData.depthAll (D.pys (xs.map nI)) = 0
  | [] => by simp [D.pys, PyData.depthAll]
  | x :: xs => by simp only [List.map_cons, D.pys, PyData.depthAll, depth_nats xs, D.py, PyData.depth]; rfl
theorem pure_encL : ∀ acc : List (Nat × List Nat), D.pures (acc.map encL) = true
  | [] => rfl
  | l :: r => by
    rw [List.map_cons, D.pures, pure_encL r, Bool.and_true]
    show D.pures [nI l.1, tN l.2] = true
    simp only [D.pures, D.pure, pures_nat, Bool.and_self]
theorem sz10 : 16000000 < sizeLine := by rw [sizeLine_eq]; omega
theorem leftsU_tail (n i d : Nat) (r : List Nat) : leftsU n i (d :: r) = oneU n i d ++ leftsU n (i + 1) r := rfl
theorem oneU_len (n i d : Nat) (h : n ≤ 1000) : (oneU n i d).length ≤ 600 := by
  unfold oneU
  rw [List.length_append, List.length_append]
  have h1 : (if d &&& 1 ≠ 0 ∧ n = i + 1 then [(i + 1, ([] : List Nat))] else []).length ≤ 1 := by split <;> simp
  have h2 : (if d &&& 2 ≠ 0 ∧ n > i + 1 then [(i + 1, [n - (i + 1)])] else []).length ≤ 1 := by split <;> simp
  have h3 : (if d &&& 4 ≠ 0 then (List.range ((n - (i + 1)) / 2)).map fun a => (i + 1, [a + 1, n - (i + 1) - (a + 1)]) else []).length ≤ 500 := by
    split
    · rw [List.length_map, List.length_range]; omega
    · simp
  omega
theorem zif_t {b : Bool} {p q : Prop} (e : b = true) (h : p) : zif b p q := ⟨fun _ => h, fun f => by rw [e] at f; cases f⟩
theorem zif_f {b : Bool} {p q : Prop} (e : b = false) (h : q) : zif b p q := ⟨fun f => (by rw [e] at f; cases f), fun _ => h⟩
theorem and_bit (d k : Nat) : (Builtin.bitAnd (d : Int) (k : Int) != 0) = decide (d &&& k ≠ 0) := by
  rw [ba_nat, Bool.eq_iff_iff]; simp only [bne_iff_ne, ne_eq, decide_eq_true_eq]; omega
section
variable {E : ZEnds} {M : Sto} {p : Addr} {n d i : Nat} {cd : D} {o3 : Option D} {acc : List (Nat × List Nat)}
theorem lefts1 (hz : acc.length ≤ 8000) (h : E.nx [some cd, some (nI n), some (.ref p), o3, some (nI d), some (nI (i + 1)), none] (put M p (.lst ((acc ++ (if d &&& 1 ≠ 0 ∧ n = i + 1 then [(i + 1, [])] else [])).map encL)))) :
    i1_lefts E [some cd, some (nI n), some (.ref p), o3, some (nI d), some (nI (i + 1)), none] (put M p (.lst (acc.map encL))) := by
  have sz := sz10
  have e1 := and_bit d 1
  simp only [i1_lefts, bodyF, startD, sSeq, sAsg, sIf, sRet, sRetN, sDrop, sNext, sBreak, sCont, sSub, sPar, sPar3, sFor, eOp, eVar, eC, eTup, eNew, eCall, eSeqCall, eDisp, eDNew, eLM, eExtend, eAndZ, eOrZ, eNotZ, eNotT, eNeg, eIfZ, eIsa, eAny, eAll, eCutT, oNone, oSome, aNil, aCons, qOf, kOf, aRev, aSort, eLC, iSeq, iNew, iRange, iEnum, iEnumN, iEnumZip, gN, gT, gsNil, gsCons, tTru, tOpB, tAndZ, tOrZ, tNotZ, tYesZ, oAdd, oSub, oMul, oFdiv, oMod, oXor, oAnd, oShr, oShl, oPow, oEq, oNe, oEqC, scalEq, oLt, oGt, oLe, oGe, oOrd, oIsN, oNotN, D.isN, oIx, bInt, bRepr, bAbs, b2, bTuple, bLenS, truZ, mAppend, mPop, mPopAt, pNil, pCons, uSet, wipeD, endsF, List.set_cons_zero, List.set_cons_succ, List.getElem?_cons_zero, List.getElem?_cons_succ, List.map_cons, List.map_nil, List.length_cons, List.length_nil, List.replicate, List.cons_append, List.nil_append, id_eq]
  by_cases h1 : d &&& 1 ≠ 0
  · refine zif_t (e1.trans (decide_eq_true h1)) ?_
    by_cases h2 : n = i + 1
    · rw [if_pos ⟨h1, h2⟩] at h
      refine zif_t (by simp only [decide_eq_true_eq]; omega) ?_
      refine ⟨⟨_, put_same⟩, p, _, _, rfl, rfl, put_same, by rw [List.length_map]; omega, ?_⟩
      rw [put_put]
      rw [List.map_append] at h
      exact h
    · rw [if_neg fun z => h2 z.2, List.append_nil] at h
      exact zif_f (by simp only [decide_eq_false_iff_not]; omega) h
  · rw [if_neg fun z => h1 z.1, List.append_nil] at h
    exact zif_f (e1.trans (decide_eq_false h1)) (zif_f rfl h)
theorem lefts2 (hz : acc.length ≤ 8000) (h : E.nx [some cd, some (nI n), some (.ref p), o3, some (nI d), some (nI (i + 1)), none] (put M p (.lst ((acc ++ (if d &&& 2 ≠ 0 ∧ n > i + 1 then [(i + 1, [n - (i + 1)])] else [])).map encL)))) :
    i2_lefts E [some cd, some (nI n), some (.ref p), o3, some (nI d), some (nI (i + 1)), none] (put M p (.lst (acc.map encL))) := by
  have sz := sz10
  have e1 := and_bit d 2
  simp only [i2_lefts, bodyF, startD, sSeq, sAsg, sIf, sRet, sRetN, sDrop, sNext, sBreak, sCont, sSub, sPar, sPar3, sFor, eOp, eVar, eC, eTup, eNew, eCall, eSeqCall, eDisp, eDNew, eLM, eExtend, eAndZ, eOrZ, eNotZ, eNotT, eNeg, eIfZ, eIsa, eAny, eAll, eCutT, oNone, oSome, aNil, aCons, qOf, kOf, aRev, aSort, eLC, iSeq, iNew, iRange, iEnum, iEnumN, iEnumZip, gN, gT, gsNil, gsCons, tTru, tOpB, tAndZ, tOrZ, tNotZ, tYesZ, oAdd, oSub, oMul, oFdiv, oMod, oXor, oAnd, oShr, oShl, oPow, oEq, oNe, oEqC, scalEq, oLt, oGt, oLe, oGe, oOrd, oIsN, oNotN, D.isN, oIx, bInt, bRepr, bAbs, b2, bTuple, bLenS, truZ, mAppend, mPop, mPopAt, pNil, pCons, uSet, wipeD, endsF, List.set_cons_zero, List.set_cons_succ, List.getElem?_cons_zero, List.getElem?_cons_succ, List.map_cons, List.map_nil, List.length_cons, List.length_nil, List.replicate, List.cons_append, List.nil_append, id_eq]
  by_cases h1 : d &&& 2 ≠ 0
  · refine zif_t (e1.trans (decide_eq_true h1)) ?_
    by_cases h2 : n > i + 1
    · rw [if_pos ⟨h1, h2⟩] at h
      refine zif_t (by simp only [decide_eq_true_eq]; omega) ?_
      refine ⟨⟨_, put_same⟩, p, _, _, rfl, rfl, put_same, by rw [List.length_map]; omega, ?_⟩
      rw [put_put]
      rw [List.map_append] at h
      rw [show ((n : Int) - ((i + 1 : Nat) : Int)) = ((n - (i + 1) : Nat) : Int) by omega]
      exact h
    · rw [if_neg fun z => h2 z.2, List.append_nil] at h
      exact zif_f (by simp only [decide_eq_false_iff_not]; omega) h
  · rw [if_neg fun z => h1 z.1, List.append_nil] at h
    exact zif_f (e1.trans (decide_eq_false h1)) (zif_f rfl h)
theorem lefts3 (hn : n ≤ 1000) (hi : i ≤ 20) (hz : acc.length ≤ 8000) (h : E.nx [some cd, some (nI n), some (.ref p), o3, some (nI d), some (nI (i + 1)), none] (put M p (.lst ((acc ++ (if d &&& 4 ≠ 0 then (List.range ((n - (i + 1)) / 2)).map fun a => (i + 1, [a + 1, n - (i + 1) - (a + 1)]) else [])).map encL)))) :
    i3_lefts E [some cd, some (nI n), some (.ref p), o3, some (nI d), some (nI (i + 1)), none] (put M p (.lst (acc.map encL))) := by
  have sz := sz10
  have e1 := and_bit d 4
  simp only [i3_lefts, bodyF, startD, sSeq, sAsg, sIf, sRet, sRetN, sDrop, sNext, sBreak, sCont, sSub, sPar, sPar3, sFor, eOp, eVar, eC, eTup, eNew, eCall, eSeqCall, eDisp, eDNew, eLM, eExtend, eAndZ, eOrZ, eNotZ, eNotT, eNeg, eIfZ, eIsa, eAny, eAll, eCutT, oNone, oSome, aNil, aCons, qOf, kOf, aRev, aSort, eLC, iSeq, iNew, iRange, iEnum, iEnumN, iEnumZip, gN, gT, gsNil, gsCons, tTru, tOpB, tAndZ, tOrZ, tNotZ, tYesZ, oAdd, oSub, oMul, oFdiv, oMod, oXor, oAnd, oShr, oShl, oPow, oEq, oNe, oEqC, scalEq, oLt, oGt, oLe, oGe, oOrd, oIsN, oNotN, D.isN, oIx, bInt, bRepr, bAbs, b2, bTuple, bLenS, truZ, mAppend, mPop, mPopAt, pNil, pCons, uSet, wipeD, endsF, List.set_cons_zero, List.set_cons_succ, List.getElem?_cons_zero, List.getElem?_cons_succ, List.map_cons, List.map_nil, List.length_cons, List.length_nil, List.replicate, List.cons_append, List.nil_append, id_eq]
  by_cases h1 : d &&& 4 ≠ 0
  · refine zif_t (e1.trans (decide_eq_true h1)) ?_
    rw [if_pos h1] at h
    have hf : ((n : Int) - ((i + 1 : Nat) : Int)).fdiv 2 = ((n : Int) - ((i + 1 : Nat) : Int)) / 2 := Int.fdiv_eq_ediv_of_nonneg _ (by omega)
    refine ⟨⟨_, put_same⟩, ⟨by omega, by decide⟩, ⟨by omega, by omega, by rw [hf]; omega, by rw [hf]; omega⟩, ?_⟩
    rw [hf]
    have em : (((n : Int) - ((i + 1 : Nat) : Int)) / 2 + 1 - 1).toNat = (n - (i + 1)) / 2 := by omega
    rw [em]
    refine comp_pure (f := fun x => match x with | .int a => .tup [nI (i + 1), .tup [.int a, .int ((n : Int) - ((i + 1 : Nat) : Int) - a)]] | _ => .non) _ _ (fun x hx Q' hq => ?_) ?_
    · obtain ⟨a, _, rfl⟩ := List.mem_map.mp hx
      exact hq
    · refine ⟨p, _, rfl, put_same, by rw [List.length_map, List.length_map, rangeD, List.length_map, List.length_range]; omega, ?_⟩
      rw [put_put]
      rw [List.map_append] at h
      have el : (rangeD 1 ((n - (i + 1)) / 2)).map (fun x => match x with | .int a => .tup [nI (i + 1), .tup [.int a, .int ((n : Int) - ((i + 1 : Nat) : Int) - a)]] | _ => .non) = ((List.range ((n - (i + 1)) / 2)).map fun a => (i + 1, [a + 1, n - (i + 1) - (a + 1)])).map encL := by
        unfold rangeD
        rw [List.map_map, List.map_map]
        refine List.map_congr_left fun a ha => ?_
        rw [List.mem_range] at ha
        show D.tup [nI (i + 1), .tup [.int (1 + (a : Int)), .int ((n : Int) - ((i + 1 : Nat) : Int) - (1 + (a : Int)))]] = D.tup [nI (i + 1), .tup [nI (a + 1), nI (n - (i + 1) - (a + 1))]]
        rw [show (1 + (a : Int)) = ((a + 1 : Nat) : Int) by omega, show ((n : Int) - ((i + 1 : Nat) : Int) - ((a + 1 : Nat) : Int)) = ((n - (i + 1) - (a + 1) : Nat) : Int) by omega]
      rw [el]
      exact h
  · rw [if_neg h1, List.append_nil] at h
    exact zif_f (e1.trans (decide_eq_false h1)) h
end
theorem lefts_loop {E : ZEnds} {M : Sto} {p : Addr} {n : Nat} {code : List Nat} {cd : D} (hn : n ≤ 1000)
    (hE : ∀ acc o3 o4 o5, acc = leftsU n 0 code → E.nx [some cd, some (nI n), some (.ref p), o3, o4, o5, none] (put M p (.lst (acc.map encL)))) :
    ∀ (r : List Nat) (i : Nat) (acc : List (Nat × List Nat)) (o3 o4 o5 : Option D), i + r.length ≤ 10 → acc.length ≤ i * 600 → acc ++ leftsU n i r = leftsU n 0 code →
    forZ (gT (gsCons (gN 3) (gsCons (gN 4) gsNil))) b4_lefts none (enumD i (r.map nI)) E [some cd, some (nI n), some (.ref p), o3, o4, o5, none] (put M p (.lst (acc.map encL))) := by
  intro r
  induction r with
  | nil =>
    intro i acc o3 o4 o5 h1 h2 h3
    rw [leftsU, List.append_nil] at h3
    exact hE acc o3 o4 o5 h3
  | cons d r ih =>
    intro i acc o3 o4 o5 h1 h2 h3
    rw [List.length_cons] at h1
    have key := ih (i + 1) (acc ++ oneU n i d) (some (nI i)) (some (nI d)) (some (nI (i + 1))) (by omega) (by rw [List.length_append]; have := oneU_len n i d hn; omega) (by rw [List.append_assoc]; exact h3)
    simp only [b4_lefts, enumD, forZ, kpc, bodyF, startD, sSeq, sAsg, sIf, sRet, sRetN, sDrop, sNext, sBreak, sCont, sSub, sPar, sPar3, sFor, eOp, eVar, eC, eTup, eNew, eCall, eSeqCall, eDisp, eDNew, eLM, eExtend, eAndZ, eOrZ, eNotZ, eNotT, eNeg, eIfZ, eIsa, eAny, eAll, eCutT, oNone, oSome, aNil, aCons, qOf, kOf, aRev, aSort, eLC, iSeq, iNew, iRange, iEnum, iEnumN, iEnumZip, gN, gT, gsNil, gsCons, tTru, tOpB, tAndZ, tOrZ, tNotZ, tYesZ, oAdd, oSub, oMul, oFdiv, oMod, oXor, oAnd, oShr, oShl, oPow, oEq, oNe, oEqC, scalEq, oLt, oGt, oLe, oGe, oOrd, oIsN, oNotN, D.isN, oIx, bInt, bRepr, bAbs, b2, bTuple, bLenS, truZ, mAppend, mPop, mPopAt, pNil, pCons, uSet, wipeD, endsF, List.set_cons_zero, List.set_cons_succ, List.getElem?_cons_zero, List.getElem?_cons_succ, List.map_cons, List.map_nil, List.length_cons, List.length_nil, List.replicate, List.cons_append, List.nil_append, id_eq]
    rw [show ((i : Int) + 1) = ((i + 1 : Nat) : Int) from rfl]
    have l1 := oneU_len n i d hn
    unfold oneU at key l1
    rw [List.length_append, List.length_append] at l1
    refine lefts1 (by omega) (lefts2 (by rw [List.length_append]; omega) (lefts3 hn (by omega) (by rw [List.length_append, List.length_append]; omega) ?_))
    rw [← List.append_assoc, ← List.append_assoc] at key
    exact key
theorem l_lefts : ∀ ds M Q, ds.length = 2 → g_lefts ds M Q → bodyF 2 n_lefts s_lefts ds M Q := by
  rintro ds M Q hl ⟨code, n, rfl, hc, hn, hq⟩
  refine ⟨rfl, ?_⟩
  simp only [s_lefts, n_lefts, bodyF, startD, sSeq, sAsg, sIf, sRet, sRetN, sDrop, sNext, sBreak, sCont, sSub, sPar, sPar3, sFor, eOp, eVar, eC, eTup, eNew, eCall, eSeqCall, eDisp, eDNew, eLM, eExtend, eAndZ, eOrZ, eNotZ, eNotT, eNeg, eIfZ, eIsa, eAny, eAll, eCutT, oNone, oSome, aNil, aCons, qOf, kOf, aRev, aSort, eLC, iSeq, iNew, iRange, iEnum, iEnumN, iEnumZip, gN, gT, gsNil, gsCons, tTru, tOpB, tAndZ, tOrZ, tNotZ, tYesZ, oAdd, oSub, oMul, oFdiv, oMod, oXor, oAnd, oShr, oShl, oPow, oEq, oNe, oEqC, scalEq, oLt, oGt, oLe, oGe, oOrd, oIsN, oNotN, D.isN, oIx, bInt, bRepr, bAbs, b2, bTuple, bLenS, truZ, mAppend, mPop, mPopAt, pNil, pCons, uSet, wipeD, endsF, List.set_cons_zero, List.set_cons_succ, List.getElem?_cons_zero, List.getElem?_cons_succ, List.map_cons, List.map_nil, List.length_cons, List.length_nil, List.replicate, List.cons_append, List.nil_append, id_eq]
  intro p hp
  refine lefts_loop (code := code) hn (fun acc o3 o4 o5 e => ?_) code 0 [] none none none (by have := hc.1; omega) (by simp) rfl
  subst e
  simp only [bodyF, startD, sSeq, sAsg, sIf, sRet, sRetN, sDrop, sNext, sBreak, sCont, sSub, sPar, sPar3, sFor, eOp, eVar, eC, eTup, eNew, eCall, eSeqCall, eDisp, eDNew, eLM, eExtend, eAndZ, eOrZ, eNotZ, eNotT, eNeg, eIfZ, eIsa, eAny, eAll, eCutT, oNone, oSome, aNil, aCons, qOf, kOf, aRev, aSort, eLC, iSeq, iNew, iRange, iEnum, iEnumN, iEnumZip, gN, gT, gsNil, gsCons, tTru, tOpB, tAndZ, tOrZ, tNotZ, tYesZ, oAdd, oSub, oMul, oFdiv, oMod, oXor, oAnd, oShr, oShl, oPow, oEq, oNe, oEqC, scalEq, oLt, oGt, oLe, oGe, oOrd, oIsN, oNotN, D.isN, oIx, bInt, bRepr, bAbs, b2, bTuple, bLenS, truZ, mAppend, mPop, mPopAt, pNil, pCons, uSet, wipeD, endsF, List.set_cons_zero, List.set_cons_succ, List.getElem?_cons_zero, List.getElem?_cons_succ, List.map_cons, List.map_nil, List.length_cons, List.length_nil, List.replicate, List.cons_append, List.nil_append, id_eq]
  obtain ⟨ys, e1, hperm⟩ := perm_srt (leftsU n 0 code)
  refine ⟨_, put_same, pure_encL _, ?_, .inl ?_, ?_, ?_⟩
  · intro d hd d' hd'
    simp only [List.map_map, List.mem_map, Function.comp] at hd hd'
    obtain ⟨x, _, rfl⟩ := hd
    obtain ⟨y, _, rfl⟩ := hd'
    simp only [encL, D.py, D.pys, PySem.W.alike, PySem.W.alikeAll, alike_nats, Bool.and_self]
  · intro d hd
    simp only [List.map_map, List.mem_map, Function.comp] at hd
    obtain ⟨x, _, rfl⟩ := hd
    exact ⟨_, _, rfl⟩
  · intro d hd
    obtain ⟨x, _, rfl⟩ := List.mem_map.mp hd
    simp only [encL, D.py, D.pys, PyData.depth, PyData.depthAll, depth_nats]
    decide
  · rw [e1]
    exact ⟨M, Sub.put hp, hq ys hperm⟩
end Z
set_option maxHeartbeats 4000000
namespace Z
open PySem PySem.Spec PyProof.Rows L2
theorem oneU_lt {n i d : Nat} {l : Nat × List Nat} (h : l ∈ oneU n i d) : ∀ a ∈ l.2, a < n := by
  unfold oneU at h
  rcases List.mem_append.mp h with h | h
  · rcases List.mem_append.mp h with h | h
    · split at h
      · rw [List.mem_singleton] at h; subst h; intro a ha; cases ha
      · cases h
    · split at h
      · rename_i hc
        rw [List.mem_singleton] at h; subst h; intro a ha
        rw [List.mem_singleton] at ha; subst ha
        have := hc.2; omega
      · cases h
  · split at h
    · obtain ⟨b, hb, rfl⟩ := List.mem_map.mp h
      rw [List.mem_range] at hb
      intro a ha
      simp only [List.mem_cons, List.not_mem_nil, or_false] at ha
      omega
    · cases h
theorem leftsU_lt {n : Nat} : ∀ {code : List Nat} {i : Nat} {l : Nat × List Nat}, l ∈ leftsU n i code → ∀ a ∈ l.2, a < n
  | [], _, _, h => by cases h
  | d :: r, i, l, h => by
    rw [leftsU_tail] at h
    rcases List.mem_append.mp h with h | h
    · exact oneU_lt h
    · exact leftsU_lt h
theorem wl_length (code : List Nat) : ∀ n, (wl code n).length = n
  | 0 => rfl
  | n + 1 => by rw [wl, List.length_append, wl_length code n]; rfl
def wx (w : List Nat) (l : Nat × List Nat) : Nat := xorL (l.2.map fun a => w.getD a 0)
theorem worths_comp {M0 : Sto} {p : Addr} {w : List Nat} {o0 o1 o3 : Option D} (h0 : M0 p = none) : ∀ (ys : List (Nat × List Nat)) (M : Sto) (Q : KA), (∀ l ∈ ys, ∀ a ∈ l.2, a < w.length) → Sub M0 M → M p = some (.lst (w.map nI)) →
    (∀ M', Sub M0 M' → M' p = some (.lst (w.map nI)) → Q (ys.map fun l => nI (wx w l)) M') →
    ∀ o4 o5, compZ (gT (gsCons (gN 4) (gsCons (gN 5) gsNil))) tYesZ (eCall g_added (aCons (eNew (eLC (iSeq (eVar 5)) (gN 6) tYesZ (eOp oIx (eVar 2) (eVar 6)) [6])) aNil)) none (ys.map encL) [o0, o1, some (.ref p), o3, o4, o5, none] M Q := by
  intro ys
  induction ys with
  | nil => exact fun M Q _ hs hM h _ _ => h M hs hM
  | cons l r ih =>
    intro M Q hlt hs hM h o4 o5
    simp only [compZ, kpc, encL, bodyF, startD, sSeq, sAsg, sIf, sRet, sRetN, sDrop, sNext, sBreak, sCont, sSub, sPar, sPar3, sFor, eOp, eVar, eC, eTup, eNew, eCall, eSeqCall, eDisp, eDNew, eLM, eExtend, eAndZ, eOrZ, eNotZ, eNotT, eNeg, eIfZ, eIsa, eAny, eAll, eCutT, oNone, oSome, aNil, aCons, qOf, kOf, aRev, aSort, eLC, iSeq, iNew, iRange, iEnum, iEnumN, iEnumZip, gN, gT, gsNil, gsCons, tTru, tOpB, tAndZ, tOrZ, tNotZ, tYesZ, oAdd, oSub, oMul, oFdiv, oMod, oXor, oAnd, oShr, oShl, oPow, oEq, oNe, oEqC, scalEq, oLt, oGt, oLe, oGe, oOrd, oIsN, oNotN, D.isN, oIx, bInt, bRepr, bAbs, b2, bTuple, bLenS, truZ, mAppend, mPop, mPopAt, pNil, pCons, uSet, wipeD, endsF, List.set_cons_zero, List.set_cons_succ, List.getElem?_cons_zero, List.getElem?_cons_succ, List.map_cons, List.map_nil, List.length_cons, List.length_nil, List.replicate, List.cons_append, List.nil_append, id_eq]
    refine zif_t rfl ?_
    refine comp_pure (f := fun x => match x with | .int a => nI (w.getD a.toNat 0) | _ => .non) _ _ (fun x hx Q' hq => ?_) fun q hn => ?_
    · obtain ⟨a, ha, rfl⟩ := List.mem_map.mp hx
      have hl := hlt l List.mem_cons_self a ha
      simp only [bodyF, startD, sSeq, sAsg, sIf, sRet, sRetN, sDrop, sNext, sBreak, sCont, sSub, sPar, sPar3, sFor, eOp, eVar, eC, eTup, eNew, eCall, eSeqCall, eDisp, eDNew, eLM, eExtend, eAndZ, eOrZ, eNotZ, eNotT, eNeg, eIfZ, eIsa, eAny, eAll, eCutT, oNone, oSome, aNil, aCons, qOf, kOf, aRev, aSort, eLC, iSeq, iNew, iRange, iEnum, iEnumN, iEnumZip, gN, gT, gsNil, gsCons, tTru, tOpB, tAndZ, tOrZ, tNotZ, tYesZ, oAdd, oSub, oMul, oFdiv, oMod, oXor, oAnd, oShr, oShl, oPow, oEq, oNe, oEqC, scalEq, oLt, oGt, oLe, oGe, oOrd, oIsN, oNotN, D.isN, oIx, bInt, bRepr, bAbs, b2, bTuple, bLenS, truZ, mAppend, mPop, mPopAt, pNil, pCons, uSet, wipeD, endsF, List.set_cons_zero, List.set_cons_succ, List.getElem?_cons_zero, List.getElem?_cons_succ, List.map_cons, List.map_nil, List.length_cons, List.length_nil, List.replicate, List.cons_append, List.nil_append, id_eq]
      refine .inl ⟨_, _, nI (w.getD a 0), rfl, hM, atI_nat ?_, ?_⟩
      · rw [List.getElem?_map, List.getElem?_eq_getElem hl, List.getD_eq_getElem?_getD, List.getElem?_eq_getElem hl]
        rfl
      · simpa using hq
    · have e : (l.2.map nI).map (fun x => match x with | .int a => nI (w.getD a.toNat 0) | _ => .non) = (l.2.map fun a => w.getD a 0).map nI := by
        rw [List.map_map, List.map_map]; rfl
      rw [e]
      have hpq : p ≠ q := ne_of_free hM hn
      have hM2 : put M q (.lst ((l.2.map fun a => w.getD a 0).map nI)) p = some (.lst (w.map nI)) := by rw [put_ne hpq]; exact hM
      refine ⟨q, _, rfl, put_same, ?_⟩
      exact ih _ (fun ys M' => Q (nI (wx w l) :: ys) M') (fun l' hl' => hlt l' (List.mem_cons_of_mem _ hl')) (hs.putr (hs.free hn)) hM2 h _ _
theorem worths_loop {E : ZEnds} {M0 : Sto} {p : Addr} {code : List Nat} {most : Nat} {o1 : Option D} (hc : Small code) (hm : most ≤ 900) (h0 : M0 p = none)
    (hE : ∀ M o3, Sub M0 M → M p = some (.lst ((wl code (most + 1)).map nI)) → E.nx [some (tN code), o1, some (.ref p), o3, none, none, none] M) :
    ∀ (r n : Nat) (M : Sto) (o3 : Option D), n + r = most + 1 → Sub M0 M → M p = some (.lst ((wl code n).map nI)) →
    forZ (gN 3) b1_worths none ((List.range' n r).map nI) E [some (tN code), o1, some (.ref p), o3, none, none, none] M := by
  intro r
  induction r with
  | zero =>
    intro n M o3 e hs hM
    rw [show n = most + 1 by omega] at hM
    exact hE M o3 hs hM
  | succ r ih =>
    intro n M o3 e hs hM
    have sz := sz10
    simp only [List.range'_succ, b1_worths, forZ, kpc, bodyF, startD, sSeq, sAsg, sIf, sRet, sRetN, sDrop, sNext, sBreak, sCont, sSub, sPar, sPar3, sFor, eOp, eVar, eC, eTup, eNew, eCall, eSeqCall, eDisp, eDNew, eLM, eExtend, eAndZ, eOrZ, eNotZ, eNotT, eNeg, eIfZ, eIsa, eAny, eAll, eCutT, oNone, oSome, aNil, aCons, qOf, kOf, aRev, aSort, eLC, iSeq, iNew, iRange, iEnum, iEnumN, iEnumZip, gN, gT, gsNil, gsCons, tTru, tOpB, tAndZ, tOrZ, tNotZ, tYesZ, oAdd, oSub, oMul, oFdiv, oMod, oXor, oAnd, oShr, oShl, oPow, oEq, oNe, oEqC, scalEq, oLt, oGt, oLe, oGe, oOrd, oIsN, oNotN, D.isN, oIx, bInt, bRepr, bAbs, b2, bTuple, bLenS, truZ, mAppend, mPop, mPopAt, pNil, pCons, uSet, wipeD, endsF, List.set_cons_zero, List.set_cons_succ, List.getElem?_cons_zero, List.getElem?_cons_succ, List.map_cons, List.map_nil, List.length_cons, List.length_nil, List.replicate, List.cons_append, List.nil_append, id_eq]
    refine ⟨⟨_, hM⟩, ?_⟩
    refine ⟨code, n, rfl, hc, by omega, fun ys hp => ?_⟩
    refine worths_comp h0 ys M _ (fun l hl => by rw [wl_length]; exact leftsU_lt (hp.mem_iff.mp hl)) hs hM (fun M' hs' hM' q hn => ?_) _ _
    have e2 : (ys.map fun l => nI (wx (wl code n) l)) = (ys.map (wx (wl code n))).map nI := by rw [List.map_map]; rfl
    rw [e2]
    have hpq : p ≠ q := ne_of_free hM' hn
    refine ⟨q, _, rfl, put_same, ?_⟩
    refine ⟨p, _, _, rfl, rfl, by rw [put_ne hpq]; exact hM', by rw [List.length_map, wl_length]; omega, ?_⟩
    have ew : mexN (ys.map (wx (wl code n))) = worthU code (wl code n) n := mexN_perm (hp.map _)
    refine ih (n + 1) _ _ (by omega) (((hs'.putr (hs'.free hn))).putr h0) ?_
    rw [put_same, wl, List.map_append, ew]
    rfl
theorem range_nI (m : Nat) : rangeD 0 m = (List.range' 0 m).map nI := by
  unfold rangeD
  rw [List.range_eq_range']
  exact List.map_congr_left fun a _ => by rw [Int.zero_add]
theorem l_worths : ∀ ds M Q, ds.length = 2 → g_worths ds M Q → bodyF 2 n_worths s_worths ds M Q := by
  rintro ds M Q hl ⟨code, most, rfl, hc, hm, hq⟩
  refine ⟨rfl, ?_⟩
  simp only [s_worths, n_worths, bodyF, startD, sSeq, sAsg, sIf, sRet, sRetN, sDrop, sNext, sBreak, sCont, sSub, sPar, sPar3, sFor, eOp, eVar, eC, eTup, eNew, eCall, eSeqCall, eDisp, eDNew, eLM, eExtend, eAndZ, eOrZ, eNotZ, eNotT, eNeg, eIfZ, eIsa, eAny, eAll, eCutT, oNone, oSome, aNil, aCons, qOf, kOf, aRev, aSort, eLC, iSeq, iNew, iRange, iEnum, iEnumN, iEnumZip, gN, gT, gsNil, gsCons, tTru, tOpB, tAndZ, tOrZ, tNotZ, tYesZ, oAdd, oSub, oMul, oFdiv, oMod, oXor, oAnd, oShr, oShl, oPow, oEq, oNe, oEqC, scalEq, oLt, oGt, oLe, oGe, oOrd, oIsN, oNotN, D.isN, oIx, bInt, bRepr, bAbs, b2, bTuple, bLenS, truZ, mAppend, mPop, mPopAt, pNil, pCons, uSet, wipeD, endsF, List.set_cons_zero, List.set_cons_succ, List.getElem?_cons_zero, List.getElem?_cons_succ, List.map_cons, List.map_nil, List.length_cons, List.length_nil, List.replicate, List.cons_append, List.nil_append, id_eq]
  intro p hp
  refine ⟨by omega, ?_⟩
  rw [show ((most : Int) + 1).toNat = most + 1 by omega, range_nI]
  refine worths_loop hc hm hp (fun M' o3 hs hM => ?_) (most + 1) 0 _ none (by omega) (Sub.put hp) put_same
  simp only [bodyF, startD, sSeq, sAsg, sIf, sRet, sRetN, sDrop, sNext, sBreak, sCont, sSub, sPar, sPar3, sFor, eOp, eVar, eC, eTup, eNew, eCall, eSeqCall, eDisp, eDNew, eLM, eExtend, eAndZ, eOrZ, eNotZ, eNotT, eNeg, eIfZ, eIsa, eAny, eAll, eCutT, oNone, oSome, aNil, aCons, qOf, kOf, aRev, aSort, eLC, iSeq, iNew, iRange, iEnum, iEnumN, iEnumZip, gN, gT, gsNil, gsCons, tTru, tOpB, tAndZ, tOrZ, tNotZ, tYesZ, oAdd, oSub, oMul, oFdiv, oMod, oXor, oAnd, oShr, oShl, oPow, oEq, oNe, oEqC, scalEq, oLt, oGt, oLe, oGe, oOrd, oIsN, oNotN, D.isN, oIx, bInt, bRepr, bAbs, b2, bTuple, bLenS, truZ, mAppend, mPop, mPopAt, pNil, pCons, uSet, wipeD, endsF, List.set_cons_zero, List.set_cons_succ, List.getElem?_cons_zero, List.getElem?_cons_succ, List.map_cons, List.map_nil, List.length_cons, List.length_nil, List.replicate, List.cons_append, List.nil_append, id_eq]
  exact ⟨_, hM, M, hs, hq⟩
end Z
set_option maxHeartbeats 4000000
namespace Z
open PySem PySem.Spec PyProof.Rows L2
/-! ### the source of drawn numbers -/
def srcD (a : Addr) (l m t : Int) : List (Key × D) := [(.inr "cells", .ref a), (.inr "left", .int l), (.inr "mixed", .int m), (.inr "turn", .int t)]
section
variable {a : Addr} {l m t l' t' : Int}
theorem lk_cells : lk (srcD a l m t) (.inr "cells") = some (.ref a) := by rfl
theorem lk_left : lk (srcD a l m t) (.inr "left") = some (.int l) := by rfl
theorem lk_mixed : lk (srcD a l m t) (.inr "mixed") = some (.int m) := by rfl
theorem lk_turn : lk (srcD a l m t) (.inr "turn") = some (.int t) := by rfl
theorem pk_left : Z.pk (srcD a l m t) (.inr "left") (.int l') = srcD a l' m t := by rfl
theorem pk_turn : Z.pk (srcD a l m t) (.inr "turn") (.int t') = srcD a l m t' := by rfl
theorem src_len : (srcD a l m t).length < sizeLine := by rw [sizeLine_eq]; show 4 < _; omega
end
theorem fmod_lt (x : Int) {n : Nat} (h : 1 ≤ n) : ∃ r : Nat, x.fmod (n : Int) = (r : Int) ∧ r < n := by
  have h0 : (0 : Int) < n := by omega
  have h1 := Int.fmod_nonneg_of_pos x h0
  have h2 := Int.fmod_lt_of_pos x h0
  exact ⟨(x.fmod n).toNat, by omega, by omega⟩
theorem oIx_dict {a : Addr} {kvs : List (Key × D)} {k : Key} {y d : D} {M : Sto} {Q : KD} (h : M a = some (.dk kvs)) (hk : y.key? = some k) (hl : lk kvs k = some d) (q : Q d M) : oIx (.ref a) y M Q := .inr ⟨kvs, k, d, hk, h, hl, q⟩
theorem oIx_list {a : Addr} {ds : List D} {i : Int} {d : D} {M : Sto} {Q : KD} (h : M a = some (.lst ds)) (hl : atI ds i = some d) (q : Q d M) : oIx (.ref a) (.int i) M Q := .inl ⟨ds, i, d, rfl, h, hl, q⟩
theorem oIx_tup {ds : List D} {i : Int} {d : D} {M : Sto} {Q : KD} (hl : atI ds i = some d) (q : Q d M) : oIx (.tup ds) (.int i) M Q := ⟨d, hl, q⟩
theorem uSet_dict {a : Addr} {kvs : List (Key × D)} {k : Key} {y d : D} {M : Sto} {Q : Sto → Prop} (h : M a = some (.dk kvs)) (hk : y.key? = some k) (hz : kvs.length < sizeLine) (q : Q (put M a (.dk (Z.pk kvs k d)))) : uSet (.ref a) y d M Q := .inr ⟨kvs, k, hk, h, hz, q⟩
theorem uSet_list {a : Addr} {ds : List D} {i : Int} {j : Nat} {d : D} {M : Sto} {Q : Sto → Prop} (h : M a = some (.lst ds)) (hk : ixN ds.length i = some j) (q : Q (put M a (.lst (ds.set j d)))) : uSet (.ref a) (.int i) d M Q := .inl ⟨ds, i, j, rfl, h, hk, q⟩
theorem bits64 {n : Nat} (h : n < 2 ^ 64) : Builtin.Int.intBits (n : Int) ≤ 64 := by
  unfold Builtin.Int.intBits
  split
  · omega
  · rename_i hz
    have h0 : n ≠ 0 := fun e => hz (by subst e; rfl)
    rw [Int.natAbs_natCast]
    have := (Nat.log2_lt (k := 64) h0).mpr h
    omega
theorem pick_while {E : ZEnds} {M0 : Sto} {p a : Addr} {m t : Int} {o1 o3 o4 o5 : Option D} (hap : a ≠ p)
    (hE : ∀ M (cells : List Int) l, M p = some (.dk (srcD a l m t)) → M a = some (.lst (cells.map D.int)) → (∀ b, b ≠ p → b ≠ a → M b = M0 b) → E.nx [some (.ref p), o1, some (.ref a), o3, o4, o5] M) :
    ∀ (n : Nat) (cells : List Int) (l : Int) (M : Sto), cells.length < n → M p = some (.dk (srcD a l m t)) → M a = some (.lst (cells.map D.int)) → (∀ b, b ≠ p → b ≠ a → M b = M0 b) →
      whileN c2__law_pick b3__law_pick n E [some (.ref p), o1, some (.ref a), o3, o4, o5] M := by
  intro n
  induction n with
  | zero => intro cells l M h; omega
  | succ n ih =>
    intro cells l M h hp ha hb
    have sl := @src_len a l m t
    simp only [whileN, c2__law_pick, b3__law_pick, bodyF, startD, sSeq, sAsg, sIf, sRet, sRetN, sDrop, sNext, sBreak, sCont, sSub, sPar, sPar3, sFor, eOp, eVar, eC, eTup, eNew, eCall, eSeqCall, eDisp, eDNew, eLM, eExtend, eAndZ, eOrZ, eNotZ, eNotT, eNeg, eIfZ, eIsa, eAny, eAll, eCutT, oNone, oSome, aNil, aCons, qOf, kOf, aRev, aSort, eLC, iSeq, iNew, iRange, iEnum, iEnumN, iEnumZip, gN, gT, gsNil, gsCons, tTru, tOpB, tAndZ, tOrZ, tNotZ, tYesZ, oAdd, oSub, oMul, oFdiv, oMod, oXor, oAnd, oShr, oShl, oPow, oEq, oNe, oEqC, scalEq, oLt, oGt, oLe, oGe, oOrd, oIsN, oNotN, D.isN, bInt, bRepr, bAbs, b2, bTuple, bLenS, truZ, mAppend, mPop, mPopAt, pNil, pCons, wipeD, endsF, List.set_cons_zero, List.set_cons_succ, List.getElem?_cons_zero, List.getElem?_cons_succ, List.map_cons, List.map_nil, List.length_cons, List.length_nil, List.replicate, List.cons_append, List.nil_append, id_eq]
    refine oIx_dict hp rfl lk_left ?_
    simp only [bodyF, startD, sSeq, sAsg, sIf, sRet, sRetN, sDrop, sNext, sBreak, sCont, sSub, sPar, sPar3, sFor, eOp, eVar, eC, eTup, eNew, eCall, eSeqCall, eDisp, eDNew, eLM, eExtend, eAndZ, eOrZ, eNotZ, eNotT, eNeg, eIfZ, eIsa, eAny, eAll, eCutT, oNone, oSome, aNil, aCons, qOf, kOf, aRev, aSort, eLC, iSeq, iNew, iRange, iEnum, iEnumN, iEnumZip, gN, gT, gsNil, gsCons, tTru, tOpB, tAndZ, tOrZ, tNotZ, tYesZ, oAdd, oSub, oMul, oFdiv, oMod, oXor, oAnd, oShr, oShl, oPow, oEq, oNe, oEqC, scalEq, oLt, oGt, oLe, oGe, oOrd, oIsN, oNotN, D.isN, bInt, bRepr, bAbs, b2, bTuple, bLenS, truZ, mAppend, mPop, mPopAt, pNil, pCons, wipeD, endsF, List.set_cons_zero, List.set_cons_succ, List.getElem?_cons_zero, List.getElem?_cons_succ, List.map_cons, List.map_nil, List.length_cons, List.length_nil, List.replicate, List.cons_append, List.nil_append, id_eq]
    refine ⟨fun e1 => ⟨_, ha, ⟨fun e2 => ?_, fun e2 => hE M cells l hp ha hb⟩⟩, fun e1 => zif_f rfl (hE M cells l hp ha hb)⟩
    obtain ⟨c, hc⟩ : ∃ c, cells[cells.length - 1]? = some c := by
      simp only [decide_eq_true_eq, List.length_map] at e2
      exact ⟨_, List.getElem?_eq_getElem (by omega)⟩
    refine ⟨⟨_, ha⟩, a, _, .int c, rfl, trivial, ha, by rw [List.length_map, List.getElem?_map, hc]; rfl, ?_⟩
    refine uSet_dict (by rw [put_ne hap.symm]; exact hp) rfl sl ?_
    rw [pk_left]
    refine ih cells.dropLast c _ ?_ put_same (by rw [put_ne hap, put_same, List.map_dropLast]) fun b b1 b2 => by rw [put_ne b1, put_ne b2]; exact hb b b1 b2
    simp only [decide_eq_true_eq, List.length_map] at e2
    rw [List.length_dropLast]
    omega
theorem l__law_pick : ∀ ds M Q, ds.length = 2 → g__law_pick ds M Q → bodyF 2 n__law_pick s__law_pick ds M Q := by
  rintro ds M Q hl ⟨p, a, most, rfl, ⟨cells, l, m, t, hap, hp, ha⟩, hm, hm2, hq⟩
  refine ⟨rfl, ?_⟩
  simp only [s__law_pick, n__law_pick, i1__law_pick, bodyF, startD, sSeq, sAsg, sIf, sRet, sRetN, sDrop, sNext, sBreak, sCont, sSub, sPar, sPar3, sFor, eOp, eVar, eC, eTup, eNew, eCall, eSeqCall, eDisp, eDNew, eLM, eExtend, eAndZ, eOrZ, eNotZ, eNotT, eNeg, eIfZ, eIsa, eAny, eAll, eCutT, oNone, oSome, aNil, aCons, qOf, kOf, aRev, aSort, eLC, iSeq, iNew, iRange, iEnum, iEnumN, iEnumZip, gN, gT, gsNil, gsCons, tTru, tOpB, tAndZ, tOrZ, tNotZ, tYesZ, oAdd, oSub, oMul, oFdiv, oMod, oXor, oAnd, oShr, oShl, oPow, oEq, oNe, oEqC, scalEq, oLt, oGt, oLe, oGe, oOrd, oIsN, oNotN, D.isN, bInt, bRepr, bAbs, b2, bTuple, bLenS, truZ, mAppend, mPop, mPopAt, pNil, pCons, wipeD, endsF, List.set_cons_zero, List.set_cons_succ, List.getElem?_cons_zero, List.getElem?_cons_succ, List.map_cons, List.map_nil, List.length_cons, List.length_nil, List.replicate, List.cons_append, List.nil_append, id_eq]
  refine ⟨fun e => ?_, fun e => ?_⟩
  · simp only [decide_eq_true_eq] at e
    exact dropK.self (hq 0 M (by omega) ⟨cells, l, m, t, hap, hp, ha⟩ fun _ _ _ => rfl)
  · refine oIx_dict hp rfl lk_cells ⟨cells.length + 1, ?_⟩
    refine pick_while (M0 := M) hap (fun M1 cells1 l1 hp1 ha1 hb1 => ?_) _ cells l M (Nat.lt_succ_self _) hp ha fun _ _ _ => rfl
    have sl := @src_len a l1 m t
    have hm0 : ((most : Int)) ≠ 0 := by omega
    have hml : ((most : Int)).natAbs.log2 < 9000 := by
      rw [Int.natAbs_natCast]
      exact Nat.lt_of_lt_of_le ((Nat.log2_lt (k := 17) (by omega)).mpr (by omega)) (by decide)
    simp only [i4__law_pick, bodyF, startD, sSeq, sAsg, sIf, sRet, sRetN, sDrop, sNext, sBreak, sCont, sSub, sPar, sPar3, sFor, eOp, eVar, eC, eTup, eNew, eCall, eSeqCall, eDisp, eDNew, eLM, eExtend, eAndZ, eOrZ, eNotZ, eNotT, eNeg, eIfZ, eIsa, eAny, eAll, eCutT, oNone, oSome, aNil, aCons, qOf, kOf, aRev, aSort, eLC, iSeq, iNew, iRange, iEnum, iEnumN, iEnumZip, gN, gT, gsNil, gsCons, tTru, tOpB, tAndZ, tOrZ, tNotZ, tYesZ, oAdd, oSub, oMul, oFdiv, oMod, oXor, oAnd, oShr, oShl, oPow, oEq, oNe, oEqC, scalEq, oLt, oGt, oLe, oGe, oOrd, oIsN, oNotN, D.isN, bInt, bRepr, bAbs, b2, bTuple, bLenS, truZ, mAppend, mPop, mPopAt, pNil, pCons, wipeD, endsF, List.set_cons_zero, List.set_cons_succ, List.getElem?_cons_zero, List.getElem?_cons_succ, List.map_cons, List.map_nil, List.length_cons, List.length_nil, List.replicate, List.cons_append, List.nil_append, id_eq]
    refine oIx_dict hp1 rfl lk_left ⟨fun e1 => ?_, fun e1 => ?_⟩
    · refine ⟨⟨hm0, hml⟩, uSet_dict hp1 rfl sl ⟨hm0, ?_⟩⟩
      rw [pk_left]
      obtain ⟨r, e2, hr⟩ := fmod_lt l1 hm
      rw [e2]
      exact dropK.self (hq r _ hr ⟨cells1, _, m, t, hap, put_same, by rw [put_ne hap]; exact ha1⟩ fun b b1 b2 => by rw [put_ne b1]; exact hb1 b b1 b2)
    · refine oIx_dict hp1 rfl lk_turn (uSet_dict hp1 rfl sl ?_)
      rw [pk_turn]
      refine oIx_dict put_same rfl lk_turn (oIx_dict put_same rfl lk_mixed ?_)
      simp only [bodyF, startD, sSeq, sAsg, sIf, sRet, sRetN, sDrop, sNext, sBreak, sCont, sSub, sPar, sPar3, sFor, eOp, eVar, eC, eTup, eNew, eCall, eSeqCall, eDisp, eDNew, eLM, eExtend, eAndZ, eOrZ, eNotZ, eNotT, eNeg, eIfZ, eIsa, eAny, eAll, eCutT, oNone, oSome, aNil, aCons, qOf, kOf, aRev, aSort, eLC, iSeq, iNew, iRange, iEnum, iEnumN, iEnumZip, gN, gT, gsNil, gsCons, tTru, tOpB, tAndZ, tOrZ, tNotZ, tYesZ, oAdd, oSub, oMul, oFdiv, oMod, oXor, oAnd, oShr, oShl, oPow, oEq, oNe, oEqC, scalEq, oLt, oGt, oLe, oGe, oOrd, oIsN, oNotN, D.isN, bInt, bRepr, bAbs, b2, bTuple, bLenS, truZ, mAppend, mPop, mPopAt, pNil, pCons, wipeD, endsF, List.set_cons_zero, List.set_cons_succ, List.getElem?_cons_zero, List.getElem?_cons_succ, List.map_cons, List.map_nil, List.length_cons, List.length_nil, List.replicate, List.cons_append, List.nil_append, id_eq]
      refine ⟨.of_right (by decide +kernel), by decide, ?_⟩
      have hs : ∀ x : Int, ∃ r : Nat, x.fmod 998244353 = (r : Int) ∧ r < 998244353 := fun x => fmod_lt x (by decide)
      obtain ⟨s1, e3, h3⟩ := hs (m + (t + 1) * 104729)
      rw [e3]
      refine ⟨.of_left ?_, .of_right (by decide +kernel), by decide, ?_⟩
      · exact bits64 (by omega)
      · refine ⟨⟨by decide, by decide +kernel⟩, hm0, ?_⟩
        obtain ⟨r, e2, hr⟩ := fmod_lt (((((s1 : Int) * s1 + (t + 1) * 17).fmod 2147483647)).fdiv 16) hm
        rw [e2]
        exact dropK.self (hq r _ hr ⟨cells1, _, m, _, hap, put_same, by rw [put_ne hap]; exact ha1⟩ fun b b1 b2 => by rw [put_ne b1]; exact hb1 b b1 b2)
end Z
set_option maxHeartbeats 4000000
namespace Z
open PySem PySem.Spec PyProof.Rows L2
theorem cells_loop {E : ZEnds} {M : Sto} {o0 o3 : Option D} (hE : ∀ s o2, E.nx [o0, some (.int s), o2, o3] M) : ∀ (ns : List Int) (s : Int) (o2 : Option D),
    forZ (gN 2) b1__law_open_cells none (ns.map D.int) E [o0, some (.int s), o2, o3] M := by
  intro ns
  induction ns with
  | nil => exact fun s o2 => hE s o2
  | cons c r ih =>
    intro s o2
    simp only [b1__law_open_cells, forZ, kpc, bodyF, startD, sSeq, sAsg, sIf, sRet, sRetN, sDrop, sNext, sBreak, sCont, sSub, sPar, sPar3, sFor, eOp, eVar, eC, eTup, eNew, eCall, eSeqCall, eDisp, eDNew, eLM, eExtend, eAndZ, eOrZ, eNotZ, eNotT, eNeg, eIfZ, eIsa, eAny, eAll, eCutT, oNone, oSome, aNil, aCons, qOf, kOf, aRev, aSort, eLC, iSeq, iNew, iRange, iEnum, iEnumN, iEnumZip, gN, gT, gsNil, gsCons, tTru, tOpB, tAndZ, tOrZ, tNotZ, tYesZ, oAdd, oSub, oMul, oFdiv, oMod, oXor, oAnd, oShr, oShl, oPow, oEq, oNe, oEqC, scalEq, oLt, oGt, oLe, oGe, oOrd, oIsN, oNotN, D.isN, bInt, bRepr, bAbs, b2, bTuple, bLenS, truZ, mAppend, mPop, mPopAt, pNil, pCons, wipeD, endsF, List.set_cons_zero, List.set_cons_succ, List.getElem?_cons_zero, List.getElem?_cons_succ, List.map_cons, List.map_nil, List.length_cons, List.length_nil, List.replicate, List.cons_append, List.nil_append, id_eq]
    exact ⟨.of_right (by decide +kernel), .of_right (by decide +kernel), by decide, ih _ _⟩
theorem l__law_open_cells : ∀ ds M Q, ds.length = 1 → g__law_open_cells ds M Q → bodyF 1 n__law_open_cells s__law_open_cells ds M Q := by
  rintro ds M Q hl ⟨ns, rfl, hn, hq⟩
  refine ⟨rfl, ?_⟩
  simp only [s__law_open_cells, n__law_open_cells, bodyF, startD, sSeq, sAsg, sIf, sRet, sRetN, sDrop, sNext, sBreak, sCont, sSub, sPar, sPar3, sFor, eOp, eVar, eC, eTup, eNew, eCall, eSeqCall, eDisp, eDNew, eLM, eExtend, eAndZ, eOrZ, eNotZ, eNotT, eNeg, eIfZ, eIsa, eAny, eAll, eCutT, oNone, oSome, aNil, aCons, qOf, kOf, aRev, aSort, eLC, iSeq, iNew, iRange, iEnum, iEnumN, iEnumZip, gN, gT, gsNil, gsCons, tTru, tOpB, tAndZ, tOrZ, tNotZ, tYesZ, oAdd, oSub, oMul, oFdiv, oMod, oXor, oAnd, oShr, oShl, oPow, oEq, oNe, oEqC, scalEq, oLt, oGt, oLe, oGe, oOrd, oIsN, oNotN, D.isN, bInt, bRepr, bAbs, b2, bTuple, bLenS, truZ, mAppend, mPop, mPopAt, pNil, pCons, wipeD, endsF, List.set_cons_zero, List.set_cons_succ, List.getElem?_cons_zero, List.getElem?_cons_succ, List.map_cons, List.map_nil, List.length_cons, List.length_nil, List.replicate, List.cons_append, List.nil_append, id_eq]
  refine cells_loop (fun s o2 => ?_) ns 11 none
  simp only [bodyF, startD, sSeq, sAsg, sIf, sRet, sRetN, sDrop, sNext, sBreak, sCont, sSub, sPar, sPar3, sFor, eOp, eVar, eC, eTup, eNew, eCall, eSeqCall, eDisp, eDNew, eLM, eExtend, eAndZ, eOrZ, eNotZ, eNotT, eNeg, eIfZ, eIsa, eAny, eAll, eCutT, oNone, oSome, aNil, aCons, qOf, kOf, aRev, aSort, eLC, iSeq, iNew, iRange, iEnum, iEnumN, iEnumZip, gN, gT, gsNil, gsCons, tTru, tOpB, tAndZ, tOrZ, tNotZ, tYesZ, oAdd, oSub, oMul, oFdiv, oMod, oXor, oAnd, oShr, oShl, oPow, oEq, oNe, oEqC, scalEq, oLt, oGt, oLe, oGe, oOrd, oIsN, oNotN, D.isN, bInt, bRepr, bAbs, b2, bTuple, bLenS, truZ, mAppend, mPop, mPopAt, pNil, pCons, wipeD, endsF, List.set_cons_zero, List.set_cons_succ, List.getElem?_cons_zero, List.getElem?_cons_succ, List.map_cons, List.map_nil, List.length_cons, List.length_nil, List.replicate, List.cons_append, List.nil_append, id_eq]
  refine comp_pure (f := fun x => match x with | .int i => .int (if i < 0 then -i else i) | _ => .non) _ _ (fun x hx Q' hq => ?_) fun q hn => ?_
  · obtain ⟨i, _, rfl⟩ := List.mem_map.mp hx
    exact hq
  · refine ⟨_, put_same, fun a ha => ?_⟩
    refine ⟨[(.inr "cells", .ref a), (.inr "left", .int 1), (.inr "mixed", .int s), (.inr "turn", .int 0)], rfl, by simp, fun p hp => ?_⟩
    have hqa : q ≠ a := ne_of_free put_same ha
    have hap : a ≠ p := ne_of_free put_same hp
    have ha0 : M a = none := by rw [put_ne hqa.symm] at ha; exact ha
    have hp0 : M p = none := by
      rw [put_ne hap.symm] at hp
      have : p ≠ q := fun e => by subst e; rw [put_same] at hp; cases hp
      rw [put_ne this] at hp; exact hp
    refine dropK.self (hq p a _ hp0 ha0 ?_ ⟨((ns.map fun i => if i < 0 then -i else i).reverse), 1, s, 0, hap, put_same, ?_⟩)
    · exact (((Sub.put hn).trans (Sub.put ha)).trans (Sub.put hp))
    · rw [put_ne hap, put_same, List.map_map, List.map_reverse, List.map_map]
      rfl
end Z
set_option maxHeartbeats 4000000
namespace Z
open PySem PySem.Spec PyProof.Rows L2
theorem ix_nat {t : List Nat} {M : Sto} {Q : KD} {i : Int} (n : Nat) (e : i = (n : Int)) (h : n < t.length) (q : Q (nI (t.getD n 0)) M) : oIx (tN t) (.int i) M Q := by
  subst e
  refine oIx_tup (atI_nat ?_) q
  rw [List.getElem?_map, List.getElem?_eq_getElem h, List.getD_eq_getElem?_getD, List.getElem?_eq_getElem h]
  rfl
theorem l_need : ∀ ds M Q, ds.length = 3 → g_need ds M Q → bodyF 3 n_need s_need ds M Q := by
  rintro ds M Q hl ⟨code, s, p, rfl, hq⟩
  refine ⟨rfl, ?_⟩
  simp only [s_need, n_need, bodyF, startD, sSeq, sAsg, sIf, sRet, sRetN, sDrop, sNext, sBreak, sCont, sSub, sPar, sPar3, sFor, eOp, eVar, eC, eTup, eNew, eCall, eSeqCall, eDisp, eDNew, eLM, eExtend, eAndZ, eOrZ, eNotZ, eNotT, eNeg, eIfZ, eIsa, eAny, eAll, eCutT, oNone, oSome, aNil, aCons, qOf, kOf, aRev, aSort, eLC, iSeq, iNew, iRange, iEnum, iEnumN, iEnumZip, gN, gT, gsNil, gsCons, tTru, tOpB, tAndZ, tOrZ, tNotZ, tYesZ, oAdd, oSub, oMul, oFdiv, oMod, oXor, oAnd, oShr, oShl, oPow, oEq, oNe, oEqC, scalEq, oLt, oGt, oLe, oGe, oOrd, oIsN, oNotN, D.isN, bInt, bRepr, bAbs, b2, bTuple, bLenS, truZ, mAppend, mPop, mPopAt, pNil, pCons, wipeD, endsF, List.set_cons_zero, List.set_cons_succ, List.getElem?_cons_zero, List.getElem?_cons_succ, List.map_cons, List.map_nil, List.length_cons, List.length_nil, List.replicate, List.cons_append, List.nil_append, id_eq]
  refine ⟨.of_left (by decide +kernel), .of_left (by decide +kernel), ?_⟩
  rw [List.length_map]
  exact dropK.self hq
theorem l_is_number : ∀ ds M Q, ds.length = 1 → g_is_number ds M Q → bodyF 1 n_is_number s_is_number ds M Q := by
  rintro ds M Q hl ⟨n, rfl, hn, hq⟩
  refine ⟨rfl, ?_⟩
  simp only [s_is_number, n_is_number, bodyF, startD, sSeq, sAsg, sIf, sRet, sRetN, sDrop, sNext, sBreak, sCont, sSub, sPar, sPar3, sFor, eOp, eVar, eC, eTup, eNew, eCall, eSeqCall, eDisp, eDNew, eLM, eExtend, eAndZ, eOrZ, eNotZ, eNotT, eNeg, eIfZ, eIsa, eAny, eAll, eCutT, oNone, oSome, aNil, aCons, qOf, kOf, aRev, aSort, eLC, iSeq, iNew, iRange, iEnum, iEnumN, iEnumZip, gN, gT, gsNil, gsCons, tTru, tOpB, tAndZ, tOrZ, tNotZ, tYesZ, oAdd, oSub, oMul, oFdiv, oMod, oXor, oAnd, oShr, oShl, oPow, oEq, oNe, oEqC, scalEq, oLt, oGt, oLe, oGe, oOrd, oIsN, oNotN, D.isN, bInt, bRepr, bAbs, b2, bTuple, bLenS, truZ, mAppend, mPop, mPopAt, pNil, pCons, wipeD, endsF, List.set_cons_zero, List.set_cons_succ, List.getElem?_cons_zero, List.getElem?_cons_succ, List.map_cons, List.map_nil, List.length_cons, List.length_nil, List.replicate, List.cons_append, List.nil_append, id_eq]
  refine ⟨_, .int _, zif_t rfl ⟨_, .int _, ?_⟩⟩
  refine zif_t rfl ?_
  rw [decide_eq_true (show (1 : Int) ≤ (n : Int) by omega)]
  exact dropK.self hq
theorem l__law_first : ∀ ds M Q, ds.length = 1 → g__law_first ds M Q → bodyF 1 n__law_first s__law_first ds M Q := by
  rintro ds M Q hl ⟨n, rfl, hq⟩
  refine ⟨rfl, ?_⟩
  simp only [s__law_first, n__law_first, bodyF, startD, sSeq, sAsg, sIf, sRet, sRetN, sDrop, sNext, sBreak, sCont, sSub, sPar, sPar3, sFor, eOp, eVar, eC, eTup, eNew, eCall, eSeqCall, eDisp, eDNew, eLM, eExtend, eAndZ, eOrZ, eNotZ, eNotT, eNeg, eIfZ, eIsa, eAny, eAll, eCutT, oNone, oSome, aNil, aCons, qOf, kOf, aRev, aSort, eLC, iSeq, iNew, iRange, iEnum, iEnumN, iEnumZip, gN, gT, gsNil, gsCons, tTru, tOpB, tAndZ, tOrZ, tNotZ, tYesZ, oAdd, oSub, oMul, oFdiv, oMod, oXor, oAnd, oShr, oShl, oPow, oEq, oNe, oEqC, scalEq, oLt, oGt, oLe, oGe, oOrd, oIsN, oNotN, D.isN, bInt, bRepr, bAbs, b2, bTuple, bLenS, truZ, mAppend, mPop, mPopAt, pNil, pCons, wipeD, endsF, List.set_cons_zero, List.set_cons_succ, List.getElem?_cons_zero, List.getElem?_cons_succ, List.map_cons, List.map_nil, List.length_cons, List.length_nil, List.replicate, List.cons_append, List.nil_append, id_eq]
  refine ⟨by decide, ?_⟩
  have e : (n : Int).fmod 6 = ((n % 6 : Nat) : Int) := by rw [Int.fmod_eq_emod_of_nonneg _ (by decide)]; rfl
  rw [e]
  have e2 : (if ((n % 6 : Nat) : Int) + 1 < (n : Int) then ((n % 6 : Nat) : Int) + 1 else (n : Int)) + 1 = ((min n (n % 6 + 1) + 1 : Nat) : Int) := by
    split <;> omega
  rw [e2]
  exact dropK.self hq
theorem fu_loop {E : ZEnds} {t : List Nat} {p : Nat} {M : Sto} {o1 o3 : Option D} (K : Option Nat → Prop) (hn : ∀ o, K none → E.nx [some (tN t), o1, some (nI p), o3, o] M) (hr : ∀ n, K (some n) → E.rt (nI n) M) :
    ∀ (r n : Nat) (o : Option D), (∀ j, j < r → n + j + p < t.length) → K (fuF t p r n) → forZ (gN 4) b2_first_unlike none ((List.range' n r).map nI) E [some (tN t), o1, some (nI p), o3, o] M := by
  intro r
  induction r with
  | zero => exact fun n o _ h => hn o h
  | succ r ih =>
    intro n o hz h
    simp only [List.range'_succ, b2_first_unlike, i1_first_unlike, forZ, kpc, bodyF, startD, sSeq, sAsg, sIf, sRet, sRetN, sDrop, sNext, sBreak, sCont, sSub, sPar, sPar3, sFor, eOp, eVar, eC, eTup, eNew, eCall, eSeqCall, eDisp, eDNew, eLM, eExtend, eAndZ, eOrZ, eNotZ, eNotT, eNeg, eIfZ, eIsa, eAny, eAll, eCutT, oNone, oSome, aNil, aCons, qOf, kOf, aRev, aSort, eLC, iSeq, iNew, iRange, iEnum, iEnumN, iEnumZip, gN, gT, gsNil, gsCons, tTru, tOpB, tAndZ, tOrZ, tNotZ, tYesZ, oAdd, oSub, oMul, oFdiv, oMod, oXor, oAnd, oShr, oShl, oPow, oEq, oNe, oEqC, scalEq, oLt, oGt, oLe, oGe, oOrd, oIsN, oNotN, D.isN, bInt, bRepr, bAbs, b2, bTuple, bLenS, truZ, mAppend, mPop, mPopAt, pNil, pCons, wipeD, endsF, List.set_cons_zero, List.set_cons_succ, List.getElem?_cons_zero, List.getElem?_cons_succ, List.map_cons, List.map_nil, List.length_cons, List.length_nil, List.replicate, List.cons_append, List.nil_append, id_eq]
    refine ix_nat (n + p) (by omega) (by have := hz 0 (by omega); omega) (ix_nat n rfl (by have := hz 0 (by omega); omega) ?_)
    simp only [bodyF, startD, sSeq, sAsg, sIf, sRet, sRetN, sDrop, sNext, sBreak, sCont, sSub, sPar, sPar3, sFor, eOp, eVar, eC, eTup, eNew, eCall, eSeqCall, eDisp, eDNew, eLM, eExtend, eAndZ, eOrZ, eNotZ, eNotT, eNeg, eIfZ, eIsa, eAny, eAll, eCutT, oNone, oSome, aNil, aCons, qOf, kOf, aRev, aSort, eLC, iSeq, iNew, iRange, iEnum, iEnumN, iEnumZip, gN, gT, gsNil, gsCons, tTru, tOpB, tAndZ, tOrZ, tNotZ, tYesZ, oAdd, oSub, oMul, oFdiv, oMod, oXor, oAnd, oShr, oShl, oPow, oEq, oNe, oEqC, scalEq, oLt, oGt, oLe, oGe, oOrd, oIsN, oNotN, D.isN, bInt, bRepr, bAbs, b2, bTuple, bLenS, truZ, mAppend, mPop, mPopAt, pNil, pCons, wipeD, endsF, List.set_cons_zero, List.set_cons_succ, List.getElem?_cons_zero, List.getElem?_cons_succ, List.map_cons, List.map_nil, List.length_cons, List.length_nil, List.replicate, List.cons_append, List.nil_append, id_eq]
    rw [fuF] at h
    refine ⟨fun e => ?_, fun e => ?_⟩
    · have e' : t.getD (n + p) 0 ≠ t.getD n 0 := by
        simp only [Bool.not_eq_true', decide_eq_false_iff_not] at e; omega
      rw [if_pos e'] at h
      exact hr n h
    · have e' : ¬ t.getD (n + p) 0 ≠ t.getD n 0 := by
        simp only [Bool.not_eq_false', decide_eq_true_eq] at e; omega
      rw [if_neg e'] at h
      exact ih (n + 1) _ (fun j hj => by have := hz (j + 1) (by omega); omega) h
theorem rangeD_nI (lo m : Nat) : rangeD (lo : Int) m = (List.range' lo m).map nI := by
  unfold rangeD
  rw [List.range'_eq_map_range, List.map_map]
  exact List.map_congr_left fun a _ => by simp [nI, Function.comp]
theorem l_first_unlike : ∀ ds M Q, ds.length = 4 → g_first_unlike ds M Q → bodyF 4 n_first_unlike s_first_unlike ds M Q := by
  rintro ds M Q hl ⟨t, s, p, most, rfl, ht, hp, hpm, hm, hs, hq⟩
  refine ⟨rfl, ?_⟩
  simp only [s_first_unlike, n_first_unlike, bodyF, startD, sSeq, sAsg, sIf, sRet, sRetN, sDrop, sNext, sBreak, sCont, sSub, sPar, sPar3, sFor, eOp, eVar, eC, eTup, eNew, eCall, eSeqCall, eDisp, eDNew, eLM, eExtend, eAndZ, eOrZ, eNotZ, eNotT, eNeg, eIfZ, eIsa, eAny, eAll, eCutT, oNone, oSome, aNil, aCons, qOf, kOf, aRev, aSort, eLC, iSeq, iNew, iRange, iEnum, iEnumN, iEnumZip, gN, gT, gsNil, gsCons, tTru, tOpB, tAndZ, tOrZ, tNotZ, tYesZ, oAdd, oSub, oMul, oFdiv, oMod, oXor, oAnd, oShr, oShl, oPow, oEq, oNe, oEqC, scalEq, oLt, oGt, oLe, oGe, oOrd, oIsN, oNotN, D.isN, bInt, bRepr, bAbs, b2, bTuple, bLenS, truZ, mAppend, mPop, mPopAt, pNil, pCons, wipeD, endsF, List.set_cons_zero, List.set_cons_succ, List.getElem?_cons_zero, List.getElem?_cons_succ, List.map_cons, List.map_nil, List.length_cons, List.length_nil, List.replicate, List.cons_append, List.nil_append, id_eq]
  refine ⟨⟨by omega, by omega, by omega, by omega⟩, ?_⟩
  rw [show ((most : Int) - (p : Int) + 1 - (s : Int)).toNat = most - p + 1 - s by omega, rangeD_nI]
  exact fu_loop (fun o => dropK Q (optN o) M) (fun o h => h) (fun n h => h) _ _ none (fun j hj => by omega) (dropK.self hq)
theorem ls_while {E : ZEnds} {t : List Nat} {p : Nat} {M : Sto} {o2 : Option D} (hp : 1 ≤ p) (K : Nat → Prop) (hn : ∀ s, K s → E.nx [some (tN t), some (nI p), o2, some (nI s)] M) :
    ∀ (s : Nat), 1 ≤ s → s + p ≤ t.length → K (lsF t p s) → whileN c1_least_start b2_least_start (s + 1) E [some (tN t), some (nI p), o2, some (nI s)] M := by
  intro s
  induction s with
  | zero => intro h; omega
  | succ s ih =>
    intro h1 h2 hk
    unfold whileN
    simp only [c1_least_start, b2_least_start, bodyF, startD, sSeq, sAsg, sIf, sRet, sRetN, sDrop, sNext, sBreak, sCont, sSub, sPar, sPar3, sFor, eOp, eVar, eC, eTup, eNew, eCall, eSeqCall, eDisp, eDNew, eLM, eExtend, eAndZ, eOrZ, eNotZ, eNotT, eNeg, eIfZ, eIsa, eAny, eAll, eCutT, oNone, oSome, aNil, aCons, qOf, kOf, aRev, aSort, eLC, iSeq, iNew, iRange, iEnum, iEnumN, iEnumZip, gN, gT, gsNil, gsCons, tTru, tOpB, tAndZ, tOrZ, tNotZ, tYesZ, oAdd, oSub, oMul, oFdiv, oMod, oXor, oAnd, oShr, oShl, oPow, oEq, oNe, oEqC, scalEq, oLt, oGt, oLe, oGe, oOrd, oIsN, oNotN, D.isN, bInt, bRepr, bAbs, b2, bTuple, bLenS, truZ, mAppend, mPop, mPopAt, pNil, pCons, wipeD, endsF, List.set_cons_zero, List.set_cons_succ, List.getElem?_cons_zero, List.getElem?_cons_succ, List.map_cons, List.map_nil, List.length_cons, List.length_nil, List.replicate, List.cons_append, List.nil_append, id_eq]
    rw [lsF] at hk
    refine ⟨fun e => ?_, fun e => zif_f rfl ?_⟩
    · simp only [decide_eq_true_eq] at e
      have hs : 1 ≤ s := by omega
      refine ix_nat (s + p) (by omega) (by omega) (ix_nat s (by omega) (by omega) ?_)
      simp only [bodyF, startD, sSeq, sAsg, sIf, sRet, sRetN, sDrop, sNext, sBreak, sCont, sSub, sPar, sPar3, sFor, eOp, eVar, eC, eTup, eNew, eCall, eSeqCall, eDisp, eDNew, eLM, eExtend, eAndZ, eOrZ, eNotZ, eNotT, eNeg, eIfZ, eIsa, eAny, eAll, eCutT, oNone, oSome, aNil, aCons, qOf, kOf, aRev, aSort, eLC, iSeq, iNew, iRange, iEnum, iEnumN, iEnumZip, gN, gT, gsNil, gsCons, tTru, tOpB, tAndZ, tOrZ, tNotZ, tYesZ, oAdd, oSub, oMul, oFdiv, oMod, oXor, oAnd, oShr, oShl, oPow, oEq, oNe, oEqC, scalEq, oLt, oGt, oLe, oGe, oOrd, oIsN, oNotN, D.isN, bInt, bRepr, bAbs, b2, bTuple, bLenS, truZ, mAppend, mPop, mPopAt, pNil, pCons, wipeD, endsF, List.set_cons_zero, List.set_cons_succ, List.getElem?_cons_zero, List.getElem?_cons_succ, List.map_cons, List.map_nil, List.length_cons, List.length_nil, List.replicate, List.cons_append, List.nil_append, id_eq]
      refine ⟨fun e2 => ?_, fun e2 => ?_⟩
      · simp only [decide_eq_true_eq] at e2
        rw [if_pos ⟨by omega, by omega⟩] at hk
        have := ih hs (by omega) hk
        rw [show ((s + 1 : Nat) : Int) - 1 = (s : Int) by omega]
        exact this
      · simp only [decide_eq_false_iff_not] at e2
        rw [if_neg fun z => e2 (by omega)] at hk
        exact hn _ hk
    · simp only [decide_eq_false_iff_not] at e
      rw [if_neg fun z => e (by omega)] at hk
      exact hn _ hk
theorem l_least_start : ∀ ds M Q, ds.length = 3 → g_least_start ds M Q → bodyF 3 n_least_start s_least_start ds M Q := by
  rintro ds M Q hl ⟨t, p, most, rfl, ht, hpm, hp, hq⟩
  refine ⟨rfl, ?_⟩
  simp only [s_least_start, n_least_start, bodyF, startD, sSeq, sAsg, sIf, sRet, sRetN, sDrop, sNext, sBreak, sCont, sSub, sPar, sPar3, sFor, eOp, eVar, eC, eTup, eNew, eCall, eSeqCall, eDisp, eDNew, eLM, eExtend, eAndZ, eOrZ, eNotZ, eNotT, eNeg, eIfZ, eIsa, eAny, eAll, eCutT, oNone, oSome, aNil, aCons, qOf, kOf, aRev, aSort, eLC, iSeq, iNew, iRange, iEnum, iEnumN, iEnumZip, gN, gT, gsNil, gsCons, tTru, tOpB, tAndZ, tOrZ, tNotZ, tYesZ, oAdd, oSub, oMul, oFdiv, oMod, oXor, oAnd, oShr, oShl, oPow, oEq, oNe, oEqC, scalEq, oLt, oGt, oLe, oGe, oOrd, oIsN, oNotN, D.isN, bInt, bRepr, bAbs, b2, bTuple, bLenS, truZ, mAppend, mPop, mPopAt, pNil, pCons, wipeD, endsF, List.set_cons_zero, List.set_cons_succ, List.getElem?_cons_zero, List.getElem?_cons_succ, List.map_cons, List.map_nil, List.length_cons, List.length_nil, List.replicate, List.cons_append, List.nil_append, id_eq]
  rw [show ((most : Int) - (p : Int) + 1) = ((most - p + 1 : Nat) : Int) by omega]
  exact ⟨_, ls_while hp (fun s => dropK Q (nI s) M) (fun s h => h) (most - p + 1) (by omega) (by omega) (dropK.self hq)⟩
theorem per_loop {E : ZEnds} {code : List Nat} {most : Nat} {M : Sto} (hm : most ≤ 900) (hc : 1 ≤ code.length) (K : Option (Nat × Nat) → Prop) (hn : ∀ o3 o4, K none → E.nx [some (tN code), some (nI most), some (tN (wl code (most + 1))), o3, o4] M) (hr : ∀ s p, K (some (s, p)) → E.rt (.tup [nI s, nI p]) M) :
    ∀ (r p : Nat) (o3 o4 : Option D), 1 ≤ p → p + r ≤ most + 1 → K (perF (wl code (most + 1)) code.length most r p) → forZ (gN 3) b2_period none ((List.range' p r).map nI) E [some (tN code), some (nI most), some (tN (wl code (most + 1))), o3, o4] M := by
  intro r
  induction r with
  | zero => exact fun p o3 o4 _ _ h => hn o3 o4 h
  | succ r ih =>
    intro p o3 o4 h1 h2 h
    simp only [List.range'_succ, b2_period, i1_period, forZ, kpc, bodyF, startD, sSeq, sAsg, sIf, sRet, sRetN, sDrop, sNext, sBreak, sCont, sSub, sPar, sPar3, sFor, eOp, eVar, eC, eTup, eNew, eCall, eSeqCall, eDisp, eDNew, eLM, eExtend, eAndZ, eOrZ, eNotZ, eNotT, eNeg, eIfZ, eIsa, eAny, eAll, eCutT, oNone, oSome, aNil, aCons, qOf, kOf, aRev, aSort, eLC, iSeq, iNew, iRange, iEnum, iEnumN, iEnumZip, gN, gT, gsNil, gsCons, tTru, tOpB, tAndZ, tOrZ, tNotZ, tYesZ, oAdd, oSub, oMul, oFdiv, oMod, oXor, oAnd, oShr, oShl, oPow, oEq, oNe, oEqC, scalEq, oLt, oGt, oLe, oGe, oOrd, oIsN, oNotN, D.isN, bInt, bRepr, bAbs, b2, bTuple, bLenS, truZ, mAppend, mPop, mPopAt, pNil, pCons, wipeD, endsF, List.set_cons_zero, List.set_cons_succ, List.getElem?_cons_zero, List.getElem?_cons_succ, List.map_cons, List.map_nil, List.length_cons, List.length_nil, List.replicate, List.cons_append, List.nil_append, id_eq]
    refine ⟨_, p, most, rfl, by rw [wl_length], by omega, h1, ?_⟩
    refine ⟨code, _, p, rfl, ?_⟩
    simp only [bodyF, startD, sSeq, sAsg, sIf, sRet, sRetN, sDrop, sNext, sBreak, sCont, sSub, sPar, sPar3, sFor, eOp, eVar, eC, eTup, eNew, eCall, eSeqCall, eDisp, eDNew, eLM, eExtend, eAndZ, eOrZ, eNotZ, eNotT, eNeg, eIfZ, eIsa, eAny, eAll, eCutT, oNone, oSome, aNil, aCons, qOf, kOf, aRev, aSort, eLC, iSeq, iNew, iRange, iEnum, iEnumN, iEnumZip, gN, gT, gsNil, gsCons, tTru, tOpB, tAndZ, tOrZ, tNotZ, tYesZ, oAdd, oSub, oMul, oFdiv, oMod, oXor, oAnd, oShr, oShl, oPow, oEq, oNe, oEqC, scalEq, oLt, oGt, oLe, oGe, oOrd, oIsN, oNotN, D.isN, bInt, bRepr, bAbs, b2, bTuple, bLenS, truZ, mAppend, mPop, mPopAt, pNil, pCons, wipeD, endsF, List.set_cons_zero, List.set_cons_succ, List.getElem?_cons_zero, List.getElem?_cons_succ, List.map_cons, List.map_nil, List.length_cons, List.length_nil, List.replicate, List.cons_append, List.nil_append, id_eq]
    rw [perF] at h
    refine ⟨fun e => ?_, fun e => ?_⟩
    · simp only [decide_eq_true_eq] at e
      rw [if_pos (by omega)] at h
      exact hr _ _ h
    · simp only [decide_eq_false_iff_not] at e
      rw [if_neg (by omega)] at h
      exact ih (p + 1) _ _ (by omega) (by omega) h
theorem l_period : ∀ ds M Q, ds.length = 2 → g_period ds M Q → bodyF 2 n_period s_period ds M Q := by
  rintro ds M Q hl ⟨code, most, rfl, hc, hl1, hm, hq⟩
  refine ⟨rfl, ?_⟩
  simp only [s_period, n_period, bodyF, startD, sSeq, sAsg, sIf, sRet, sRetN, sDrop, sNext, sBreak, sCont, sSub, sPar, sPar3, sFor, eOp, eVar, eC, eTup, eNew, eCall, eSeqCall, eDisp, eDNew, eLM, eExtend, eAndZ, eOrZ, eNotZ, eNotT, eNeg, eIfZ, eIsa, eAny, eAll, eCutT, oNone, oSome, aNil, aCons, qOf, kOf, aRev, aSort, eLC, iSeq, iNew, iRange, iEnum, iEnumN, iEnumZip, gN, gT, gsNil, gsCons, tTru, tOpB, tAndZ, tOrZ, tNotZ, tYesZ, oAdd, oSub, oMul, oFdiv, oMod, oXor, oAnd, oShr, oShl, oPow, oEq, oNe, oEqC, scalEq, oLt, oGt, oLe, oGe, oOrd, oIsN, oNotN, D.isN, bInt, bRepr, bAbs, b2, bTuple, bLenS, truZ, mAppend, mPop, mPopAt, pNil, pCons, wipeD, endsF, List.set_cons_zero, List.set_cons_succ, List.getElem?_cons_zero, List.getElem?_cons_succ, List.map_cons, List.map_nil, List.length_cons, List.length_nil, List.replicate, List.cons_append, List.nil_append, id_eq]
  refine ⟨code, most, rfl, hc, hm, ?_⟩
  simp only [bodyF, startD, sSeq, sAsg, sIf, sRet, sRetN, sDrop, sNext, sBreak, sCont, sSub, sPar, sPar3, sFor, eOp, eVar, eC, eTup, eNew, eCall, eSeqCall, eDisp, eDNew, eLM, eExtend, eAndZ, eOrZ, eNotZ, eNotT, eNeg, eIfZ, eIsa, eAny, eAll, eCutT, oNone, oSome, aNil, aCons, qOf, kOf, aRev, aSort, eLC, iSeq, iNew, iRange, iEnum, iEnumN, iEnumZip, gN, gT, gsNil, gsCons, tTru, tOpB, tAndZ, tOrZ, tNotZ, tYesZ, oAdd, oSub, oMul, oFdiv, oMod, oXor, oAnd, oShr, oShl, oPow, oEq, oNe, oEqC, scalEq, oLt, oGt, oLe, oGe, oOrd, oIsN, oNotN, D.isN, bInt, bRepr, bAbs, b2, bTuple, bLenS, truZ, mAppend, mPop, mPopAt, pNil, pCons, wipeD, endsF, List.set_cons_zero, List.set_cons_succ, List.getElem?_cons_zero, List.getElem?_cons_succ, List.map_cons, List.map_nil, List.length_cons, List.length_nil, List.replicate, List.cons_append, List.nil_append, id_eq]
  have hf : (most : Int).fdiv 2 = ((most / 2 : Nat) : Int) := by rw [Int.fdiv_eq_ediv_of_nonneg _ (by decide)]; rfl
  rw [hf]
  refine ⟨⟨by decide, by decide +kernel⟩, ⟨by omega, by omega, by omega, by omega⟩, ?_⟩
  rw [show (((most / 2 : Nat) : Int) + 1 - 1).toNat = most / 2 by omega, show (1 : Int) = ((1 : Nat) : Int) from rfl, rangeD_nI]
  exact per_loop hm hl1 (fun o => dropK Q (optP o) M) (fun _ _ h => h) (fun _ _ h => h) _ 1 none none (by omega) (by omega) (dropK.self hq)
theorem l_judge_period : ∀ ds M Q, ds.length = 2 → g_judge_period ds M Q → bodyF 2 n_judge_period s_judge_period ds M Q := by
  rintro ds M Q hl ⟨code, s, p, m, rfl, hc, h1, h2, hl1, em, hm, hq⟩
  refine ⟨rfl, ?_⟩
  simp only [s_judge_period, n_judge_period, i1_judge_period, i2_judge_period, bodyF, startD, sSeq, sAsg, sIf, sRet, sRetN, sDrop, sNext, sBreak, sCont, sSub, sPar, sPar3, sFor, eOp, eVar, eC, eTup, eNew, eCall, eSeqCall, eDisp, eDNew, eLM, eExtend, eAndZ, eOrZ, eNotZ, eNotT, eNeg, eIfZ, eIsa, eAny, eAll, eCutT, oNone, oSome, aNil, aCons, qOf, kOf, aRev, aSort, eLC, iSeq, iNew, iRange, iEnum, iEnumN, iEnumZip, gN, gT, gsNil, gsCons, tTru, tOpB, tAndZ, tOrZ, tNotZ, tYesZ, oAdd, oSub, oMul, oFdiv, oMod, oXor, oAnd, oShr, oShl, oPow, oEq, oNe, oEqC, scalEq, oLt, oGt, oLe, oGe, oOrd, oIsN, oNotN, D.isN, bInt, bRepr, bAbs, b2, bTuple, bLenS, truZ, mAppend, mPop, mPopAt, pNil, pCons, wipeD, endsF, List.set_cons_zero, List.set_cons_succ, List.getElem?_cons_zero, List.getElem?_cons_succ, List.map_cons, List.map_nil, List.length_cons, List.length_nil, List.replicate, List.cons_append, List.nil_append, id_eq]
  refine ⟨_, .tup (.cons (.int _) (.cons (.int _) .nil)), zif_f rfl ?_⟩
  refine zif_f rfl ?_
  refine oIx_tup rfl ⟨s, rfl, h1, zif_f rfl ?_⟩
  refine oIx_tup rfl ⟨p, rfl, h2, zif_f rfl ?_⟩
  have e1 : (2 * (s : Int) + 2 * (p : Int) + (code.length : Int) - 1) = ((m : Nat) : Int) := by omega
  refine ⟨code, s, p, rfl, ?_⟩
  rw [e1]
  simp only [bodyF, startD, sSeq, sAsg, sIf, sRet, sRetN, sDrop, sNext, sBreak, sCont, sSub, sPar, sPar3, sFor, eOp, eVar, eC, eTup, eNew, eCall, eSeqCall, eDisp, eDNew, eLM, eExtend, eAndZ, eOrZ, eNotZ, eNotT, eNeg, eIfZ, eIsa, eAny, eAll, eCutT, oNone, oSome, aNil, aCons, qOf, kOf, aRev, aSort, eLC, iSeq, iNew, iRange, iEnum, iEnumN, iEnumZip, gN, gT, gsNil, gsCons, tTru, tOpB, tAndZ, tOrZ, tNotZ, tYesZ, oAdd, oSub, oMul, oFdiv, oMod, oXor, oAnd, oShr, oShl, oPow, oEq, oNe, oEqC, scalEq, oLt, oGt, oLe, oGe, oOrd, oIsN, oNotN, D.isN, bInt, bRepr, bAbs, b2, bTuple, bLenS, truZ, mAppend, mPop, mPopAt, pNil, pCons, wipeD, endsF, List.set_cons_zero, List.set_cons_succ, List.getElem?_cons_zero, List.getElem?_cons_succ, List.map_cons, List.map_nil, List.length_cons, List.length_nil, List.replicate, List.cons_append, List.nil_append, id_eq]
  refine zif_f (by simp only [decide_eq_false_iff_not]; omega) ?_
  refine ⟨code, s, p, rfl, ?_⟩
  rw [e1]
  refine ⟨code, m, rfl, hc, by omega, ?_⟩
  refine ⟨code, s, p, rfl, ?_⟩
  rw [e1]
  refine ⟨_, s, p, m, rfl, by rw [wl_length], h2, by omega, by omega, by omega, ?_⟩
  cases hf : fuN (wl code (m + 1)) s p m with
  | none =>
    rw [hf] at hq
    exact zif_f rfl (dropK.self hq)
  | some n =>
    rw [hf] at hq
    exact zif_t rfl (dropK.self hq)
theorem ap_loop {E : ZEnds} {M : Sto} {o0 o1 o2 : Option D} (K : Option Nat → Prop) (hn : ∀ o3 o4 o5, K none → E.nx [o0, o1, o2, o3, o4, o5] M) (hr : ∀ n, K (some n) → E.rt (nI n) M) :
    ∀ (xs ys : List Nat) (n : Nat) (o3 o4 o5 : Option D), K (apF n xs ys) → forZ (gT (gsCons (gN 3) (gsCons (gT (gsCons (gN 4) (gsCons (gN 5) gsNil))) gsNil))) b2_apart none (enumD n (zipD (xs.map nI) (ys.map nI))) E [o0, o1, o2, o3, o4, o5] M := by
  intro xs
  induction xs with
  | nil => exact fun ys n o3 o4 o5 h => hn o3 o4 o5 h
  | cons x xs ih =>
    intro ys n o3 o4 o5 h
    cases ys with
    | nil => exact hn o3 o4 o5 h
    | cons y ys =>
      simp only [zipD, enumD, b2_apart, i1_apart, forZ, kpc, bodyF, startD, sSeq, sAsg, sIf, sRet, sRetN, sDrop, sNext, sBreak, sCont, sSub, sPar, sPar3, sFor, eOp, eVar, eC, eTup, eNew, eCall, eSeqCall, eDisp, eDNew, eLM, eExtend, eAndZ, eOrZ, eNotZ, eNotT, eNeg, eIfZ, eIsa, eAny, eAll, eCutT, oNone, oSome, aNil, aCons, qOf, kOf, aRev, aSort, eLC, iSeq, iNew, iRange, iEnum, iEnumN, iEnumZip, gN, gT, gsNil, gsCons, tTru, tOpB, tAndZ, tOrZ, tNotZ, tYesZ, oAdd, oSub, oMul, oFdiv, oMod, oXor, oAnd, oShr, oShl, oPow, oEq, oNe, oEqC, scalEq, oLt, oGt, oLe, oGe, oOrd, oIsN, oNotN, D.isN, bInt, bRepr, bAbs, b2, bTuple, bLenS, truZ, mAppend, mPop, mPopAt, pNil, pCons, wipeD, endsF, List.set_cons_zero, List.set_cons_succ, List.getElem?_cons_zero, List.getElem?_cons_succ, List.map_cons, List.map_nil, List.length_cons, List.length_nil, List.replicate, List.cons_append, List.nil_append, id_eq]
      rw [apF] at h
      refine ⟨fun e => ?_, fun e => ?_⟩
      · have e' : x ≠ y := by
          simp only [Bool.not_eq_true', decide_eq_false_iff_not] at e; omega
        rw [if_pos e'] at h
        exact hr n h
      · have e' : ¬ x ≠ y := by
          simp only [Bool.not_eq_false', decide_eq_true_eq] at e; omega
        rw [if_neg e'] at h
        exact ih ys (n + 1) _ _ _ h
theorem l_apart : ∀ ds M Q, ds.length = 3 → g_apart ds M Q → bodyF 3 n_apart s_apart ds M Q := by
  rintro ds M Q hl ⟨one, other, most, rfl, h1, h2, hm, hq⟩
  refine ⟨rfl, ?_⟩
  simp only [s_apart, n_apart, bodyF, startD, sSeq, sAsg, sIf, sRet, sRetN, sDrop, sNext, sBreak, sCont, sSub, sPar, sPar3, sFor, eOp, eVar, eC, eTup, eNew, eCall, eSeqCall, eDisp, eDNew, eLM, eExtend, eAndZ, eOrZ, eNotZ, eNotT, eNeg, eIfZ, eIsa, eAny, eAll, eCutT, oNone, oSome, aNil, aCons, qOf, kOf, aRev, aSort, eLC, iSeq, iNew, iRange, iEnum, iEnumN, iEnumZip, gN, gT, gsNil, gsCons, tTru, tOpB, tAndZ, tOrZ, tNotZ, tYesZ, oAdd, oSub, oMul, oFdiv, oMod, oXor, oAnd, oShr, oShl, oPow, oEq, oNe, oEqC, scalEq, oLt, oGt, oLe, oGe, oOrd, oIsN, oNotN, D.isN, bInt, bRepr, bAbs, b2, bTuple, bLenS, truZ, mAppend, mPop, mPopAt, pNil, pCons, wipeD, endsF, List.set_cons_zero, List.set_cons_succ, List.getElem?_cons_zero, List.getElem?_cons_succ, List.map_cons, List.map_nil, List.length_cons, List.length_nil, List.replicate, List.cons_append, List.nil_append, id_eq]
  refine ⟨one, most, rfl, h1, hm, other, most, rfl, h2, hm, _, _, rfl, ?_⟩
  exact ap_loop (fun o => dropK Q (optN o) M) (fun _ _ _ h => h) (fun _ h => h) _ _ 0 none none none (dropK.self hq)
end Z
set_option maxHeartbeats 40000000
namespace Z
open PySem PySem.Spec PyProof.Rows L2
/-! ### tables, seen by the kernel -/
def tabK : List Nat := [0, 1, 2, 3, 1, 4, 3, 2, 1, 4, 2, 6, 4, 1, 2, 7, 1, 4, 3, 2, 1, 4, 6, 7, 4, 1, 2, 8, 5, 4, 7, 2, 1, 8, 6, 7, 4, 1, 2, 3, 1, 4, 7, 2, 1, 8, 2, 7, 4, 1, 2, 8, 1, 4, 7, 2, 1, 4, 2, 7, 4, 1, 2, 8, 1, 4, 7, 2, 1, 8, 6, 7, 4, 1, 2, 8, 1, 4, 7, 2, 1, 8, 2, 7, 4, 1, 2, 8, 1, 4, 7, 2, 1, 8, 2, 7, 4, 1, 2, 8, 1, 4, 7, 2, 1, 8, 2, 7, 4, 1, 2, 8, 1, 4, 7, 2, 1, 8, 2, 7, 4, 1, 2, 8, 1, 4, 7, 2, 1, 8, 2, 7, 4, 1, 2, 8, 1, 4, 7, 2, 1, 8, 2, 7, 4, 1, 2, 8, 1, 4, 7, 2, 1, 8, 2, 7, 4, 1, 2, 8, 1, 4, 7, 2, 1, 8, 2, 7, 4, 1, 2, 8, 1, 4, 7, 2, 1, 8, 2, 7, 4, 1, 2, 8, 1, 4, 7, 2, 1, 8, 2, 7, 4, 1, 2, 8, 1, 4, 7, 2, 1]
def tabD : List Nat := [0, 0, 1, 1, 2, 0, 3, 1, 1, 0, 3, 3, 2, 2, 4, 0, 5, 2, 2, 3, 3, 0, 1, 1, 3, 0, 2, 1, 1, 0, 4, 5, 2, 7, 4, 0, 1, 1, 2, 0, 3, 1, 1, 0, 3, 3, 2, 2, 4, 4, 5, 5, 2, 3, 3, 0, 1, 1, 3, 0, 2, 1, 1, 0, 4, 5, 3, 7, 4, 8, 1, 1, 2, 0, 3, 1, 1, 0, 3, 3, 2, 2, 4, 4, 5, 5, 9, 3, 3, 0, 1, 1, 3, 0, 2, 1, 1, 0, 4, 5, 3, 7, 4, 8, 1, 1, 2, 0, 3, 1, 1, 0, 3, 3, 2, 2, 4, 4, 5, 5, 9, 3, 3, 0, 1, 1, 3, 0, 2, 1, 1, 0, 4, 5, 3, 7, 4, 8, 1, 1, 2, 0, 3, 1, 1, 0, 3, 3, 2, 2, 4, 4, 5, 5, 9, 3, 3, 0, 1, 1, 3, 0, 2, 1, 1, 0, 4, 5, 3, 7, 4, 8, 1, 1, 2, 0, 3, 1, 1, 0, 3, 3, 2, 2, 4, 4, 5, 5, 9, 3, 3, 0, 1, 1, 3, 0, 2, 1, 1, 0, 4]
def chkT (code K : List Nat) : Bool := (List.range K.length).all fun n => K.getD n 0 == worthU code K n
theorem chkD : chkT [0, 7] tabD = true := by decide +kernel
theorem chkK : chkT [7, 7] tabK = true := by decide +kernel
def tabP (m : Nat) : List Nat := (List.range 70).map (· % (m + 1))
theorem chkP : ∀ m, m < 6 → chkT (List.replicate (m + 1) 3) (tabP (m + 1)) = true := by decide +kernel
theorem worthU_take {code K : List Nat} {n : Nat} (h : n ≤ K.length) : worthU code (K.take n) n = worthU code K n := by
  unfold worthU
  congr 1
  refine List.map_congr_left fun l hl => ?_
  congr 1
  refine List.map_congr_left fun a ha => ?_
  have := leftsU_lt hl a ha
  rw [List.getD_eq_getElem?_getD, List.getD_eq_getElem?_getD, List.getElem?_take_of_lt this]
theorem wl_of {code K : List Nat} (h : chkT code K = true) : ∀ n, n ≤ K.length → wl code n = K.take n
  | 0, _ => rfl
  | n + 1, hn => by
    rw [wl, wl_of h n (by omega), worthU_take (by omega)]
    have := (List.all_eq_true.mp h) n (List.mem_range.mpr (by omega))
    simp only [beq_iff_eq] at this
    rw [← this, List.take_add_one, List.getD_eq_getElem?_getD, List.getElem?_eq_getElem (by omega)]
    rfl
end Z
set_option maxHeartbeats 40000000
namespace Z
open PySem PySem.Spec PyProof.Rows L2
/-! ### what is shown -/
theorem short1000 : ∀ n : Nat, n < 1001 → ((PyData.int (n : Int)).shown).length ≤ 13 := by decide +kernel
theorem intsShort_nats : ∀ xs : List Nat, (∀ x ∈ xs, x ≤ 1000) → PyData.intsShortAll 13 (D.pys (xs.map nI)) = true
  | [], _ => rfl
  | x :: xs, h => by
    simp only [List.map_cons, D.pys, PyData.intsShortAll, D.py, PyData.intsShort, Bool.and_eq_true, decide_eq_true_eq]
    exact ⟨short1000 x (by have := h x List.mem_cons_self; omega), intsShort_nats xs fun y hy => h y (List.mem_cons_of_mem _ hy)⟩
theorem canLay_nats : ∀ xs : List Nat, PyData.canLayAll0 (D.pys (xs.map nI)) = true
  | [] => rfl
  | x :: xs => by simp only [List.map_cons, D.pys, PyData.canLayAll0, D.py, PyData.canLay0, canLay_nats xs, Bool.and_self]
theorem showable_nats : ∀ xs : List Nat, (∀ x ∈ xs, x ≤ 1000) → PyData.showableAll (D.pys (xs.map nI)) = true
  | [], _ => rfl
  | x :: xs, h => by
    simp only [List.map_cons, D.pys, PyData.showableAll, D.py, PyData.showable, Bool.and_eq_true, decide_eq_true_eq]
    refine ⟨?_, showable_nats xs fun y hy => h y (List.mem_cons_of_mem _ hy)⟩
    rw [Int.natAbs_natCast]
    exact Nat.lt_of_le_of_lt (Nat.log2_le_self x) (by have := h x List.mem_cons_self; omega)
theorem weight_nats : ∀ xs : List Nat, (∀ x ∈ xs, x ≤ 1000) → PyData.weightAll (D.pys (xs.map nI)) ≤ 1002 * xs.length
  | [], _ => Nat.le_refl _
  | x :: xs, h => by
    simp only [List.map_cons, D.pys, PyData.weightAll, D.py, PyData.weight, List.length_cons]
    have := weight_nats xs fun y hy => h y (List.mem_cons_of_mem _ hy)
    have h1 := h x List.mem_cons_self
    have h2 : (if ((x : Int) == 0) = true then 0 else (x : Int).natAbs.log2 + 1) ≤ 1001 := by
      split
      · omega
      · rw [Int.natAbs_natCast]; have := Nat.log2_le_self x; omega
    omega
def tP (xs : List Nat) : PyData := .tuple (D.pys (xs.map nI))
theorem repr_nats {xs : List Nat} {M : Sto} {Q : KD} (h1 : ∀ x ∈ xs, x ≤ 1000) (h2 : xs.length ≤ 1000) (q : Q (.str (tP xs).shown) M) : bRepr [tN xs] M Q := by
  have hd : PyData.depth (tP xs) = 1 := by
    show PyData.depth (.tuple _) = 1
    simp only [PyData.depth, depth_nats]
  refine ⟨tP xs, Py.of (tN xs) ?_, ?_, by rw [hd]; decide, ?_, q⟩
  · show D.pures _ = true
    exact pures_nat xs
  · show PyData.showable (.tuple _) = true
    simp only [PyData.showable, showable_nats xs h1]
  · refine Nat.le_trans (PyData.shown_le_of_layable0 (d := tP xs) ?_ ?_) (by rw [sizeLine_eq]; omega)
    · have hw : PyData.weight (tP xs) ≤ 2 ^ 20 := by
        show PyData.weight (.tuple _) ≤ _
        simp only [PyData.weight]
        have := weight_nats xs h1
        have e : (2 : Nat) ^ 20 = 1048576 := by decide
        omega
      have hc : PyData.canLay0 (tP xs) = true := by
        show PyData.canLay0 (.tuple _) = true
        simp only [PyData.canLay0, canLay_nats]
      unfold PyData.layable0
      rw [hc, hd, decide_eq_true hw]
      rfl
    · show PyData.intsShort 13 (.tuple _) = true
      simp only [PyData.intsShort, intsShort_nats xs h1]
theorem repr_nat {n : Nat} {M : Sto} {Q : KD} (h1 : n ≤ 1000) (q : Q (.str (PyData.int (n : Int)).shown) M) : bRepr [nI n] M Q := by
  refine ⟨.int n, .int _, ?_, by simp [PyData.depth], Nat.le_trans (short1000 n (by omega)) (by rw [sizeLine_eq]; omega), q⟩
  simp only [PyData.showable, decide_eq_true_eq, Int.natAbs_natCast]
  exact Nat.lt_of_le_of_lt (Nat.log2_le_self n) (by omega)
theorem repr_non {M : Sto} {Q : KD} (q : Q (.str PyData.none.shown) M) : bRepr [.non] M Q :=
  ⟨.none, .non, rfl, by simp [PyData.depth], by rw [sizeLine_eq]; decide +kernel, q⟩
end Z
set_option maxHeartbeats 40000000
namespace Z
open PySem PySem.Spec PyProof.Rows L2
theorem perP : ∀ m, m < 6 → ∀ i, i < 30 → perF ((tabP (m + 1)).take (40 + i + 1)) (m + 1) (40 + i) ((40 + i) / 2) 1 = some (1, m + 2) := by decide +kernel
theorem apP : ∀ m, m < 6 → ∀ i, i < 30 → apF 0 ((tabP (m + 1)).take (40 + i + 1)) ((tabP ((m + 1) % 6 + 1)).take (40 + i + 1)) = some (min (m + 1) ((m + 1) % 6 + 1) + 1) := by decide +kernel
theorem perK : perF tabK 2 200 100 1 = some (71, 12) := by decide +kernel
theorem perDw : perF tabD 2 200 100 1 = some (53, 34) := by decide +kernel
theorem fuK : fuN (tabK.take 166) 70 12 165 = some 70 := by decide +kernel
theorem apKD : apF 0 (tabK.take 31) (tabD.take 31) = some 1 := by decide +kernel
theorem tabK_le : ∀ x ∈ tabK, x ≤ 1000 := by decide +kernel
theorem tabD_le : ∀ x ∈ tabD, x ≤ 1000 := by decide +kernel
end Z
set_option maxHeartbeats 4000000
namespace Z
open PySem PySem.Spec PyProof.Rows L2
theorem tabP_len (m : Nat) : (tabP m).length = 70 := by unfold tabP; rw [List.length_map, List.length_range]
theorem wlP {m : Nat} (h : m < 6) {k : Nat} (hk : k ≤ 70) : wl (List.replicate (m + 1) 3) k = (tabP (m + 1)).take k := wl_of (chkP m h) k (by rw [tabP_len]; exact hk)
theorem smallP {m : Nat} (h : m ≤ 6) : Small (List.replicate m 3) := ⟨by rw [List.length_replicate]; omega, fun d hd => by rw [List.eq_of_mem_replicate hd]; omega⟩
theorem smallK : Small [7, 7] := by constructor <;> decide
theorem smallD : Small [0, 7] := by constructor <;> decide
theorem wlK {k : Nat} (h : k ≤ 201) : wl [7, 7] k = tabK.take k := wl_of chkK k h
theorem wlD {k : Nat} (h : k ≤ 201) : wl [0, 7] k = tabD.take k := wl_of chkD k h
theorem tabP_le (m : Nat) (h : m ≤ 999) : ∀ x ∈ tabP m, x ≤ 1000 := fun x hx => by
  obtain ⟨y, _, rfl⟩ := List.mem_map.mp hx
  have := Nat.mod_lt y (show 0 < m + 1 by omega)
  omega
theorem ne_same {x : Str} {A B : Prop} (h : B) : zif (!decide (x = x)) A B := zif_f (by rw [decide_eq_true rfl]; rfl) h
section
variable {E : ZEnds} {M : Sto} {o0 o1 o2 o3 o4 o5 o6 o7 : Option D} {m i : Nat}
theorem law1 (hm : m < 6) (hi : i < 30) (h : E.nx [o0, o1, some (nI (m + 1)), some (nI (40 + i)), some (tN (List.replicate (m + 1) 3)), o5, o6, o7] M) :
    i1_law E [o0, o1, some (nI (m + 1)), some (nI (40 + i)), some (tN (List.replicate (m + 1) 3)), o5, o6, o7] M := by
  simp only [i1_law, bodyF, startD, sSeq, sAsg, sIf, sRet, sRetN, sDrop, sNext, sBreak, sCont, sSub, sPar, sPar3, sFor, eOp, eVar, eC, eTup, eNew, eCall, eSeqCall, eDisp, eDNew, eLM, eExtend, eAndZ, eOrZ, eNotZ, eNotT, eNeg, eIfZ, eIsa, eAny, eAll, eCutT, oNone, oSome, aNil, aCons, qOf, kOf, aRev, aSort, eLC, iSeq, iNew, iRange, iEnum, iEnumN, iEnumZip, gN, gT, gsNil, gsCons, tTru, tOpB, tAndZ, tOrZ, tNotZ, tYesZ, oAdd, oSub, oMul, oFdiv, oMod, oXor, oAnd, oShr, oShl, oPow, oEq, oNe, oEqC, scalEq, oLt, oGt, oLe, oGe, oOrd, oIsN, oNotN, D.isN, bInt, bAbs, b2, bTuple, bLenS, truZ, mAppend, mPop, mPopAt, pNil, pCons, wipeD, endsF, List.set_cons_zero, List.set_cons_succ, List.getElem?_cons_zero, List.getElem?_cons_succ, List.map_cons, List.map_nil, List.length_cons, List.length_nil, List.cons_append, List.nil_append, id_eq]
  refine ⟨_, _, rfl, smallP (by omega), by omega, ?_⟩
  rw [wlP hm (by omega)]
  refine repr_nats (fun x hx => tabP_le (m + 1) (by omega) x (List.mem_of_mem_take hx)) (by rw [List.length_take, tabP_len]; omega) ?_
  refine ⟨by omega, ?_⟩
  rw [show (((40 + i : Nat) : Int) + 1).toNat = 40 + i + 1 by omega, range_nI]
  refine comp_pure (f := fun x => match x with | .int a => .int (a.fmod ((m + 1 : Nat) + 1)) | _ => .non) _ _ (fun x hx Q' hq => ?_) ?_
  · obtain ⟨a, _, rfl⟩ := List.mem_map.mp hx
    exact ⟨by omega, hq⟩
  · have e : (((List.range' 0 (40 + i + 1)).map nI).map fun x => match x with | .int a => D.int (a.fmod ((m + 1 : Nat) + 1)) | _ => .non) = ((tabP (m + 1)).take (40 + i + 1)).map nI := by
      unfold tabP
      rw [← List.map_take, List.take_range, Nat.min_eq_left (by omega), List.map_map, List.map_map, List.range_eq_range']
      refine List.map_congr_left fun a _ => ?_
      show D.int ((a : Int).fmod ((m + 1 : Nat) + 1)) = .int ((a % (m + 1 + 1) : Nat) : Int)
      rw [Int.fmod_eq_emod_of_nonneg _ (by omega)]
      rfl
    rw [e]
    refine repr_nats (fun x hx => tabP_le (m + 1) (by omega) x (List.mem_of_mem_take hx)) (by rw [List.length_take, tabP_len]; omega) ?_
    exact ne_same h
theorem law2 (hm : m < 6) (hi : i < 30) (h : E.nx [o0, o1, some (nI (m + 1)), some (nI (40 + i)), some (tN (List.replicate (m + 1) 3)), o5, o6, o7] M) :
    i2_law E [o0, o1, some (nI (m + 1)), some (nI (40 + i)), some (tN (List.replicate (m + 1) 3)), o5, o6, o7] M := by
  simp only [i2_law, bodyF, startD, sSeq, sAsg, sIf, sRet, sRetN, sDrop, sNext, sBreak, sCont, sSub, sPar, sPar3, sFor, eOp, eVar, eC, eTup, eNew, eCall, eSeqCall, eDisp, eDNew, eLM, eExtend, eAndZ, eOrZ, eNotZ, eNotT, eNeg, eIfZ, eIsa, eAny, eAll, eCutT, oNone, oSome, aNil, aCons, qOf, kOf, aRev, aSort, eLC, iSeq, iNew, iRange, iEnum, iEnumN, iEnumZip, gN, gT, gsNil, gsCons, tTru, tOpB, tAndZ, tOrZ, tNotZ, tYesZ, oAdd, oSub, oMul, oFdiv, oMod, oXor, oAnd, oShr, oShl, oPow, oEq, oNe, oEqC, scalEq, oLt, oGt, oLe, oGe, oOrd, oIsN, oNotN, D.isN, bInt, bAbs, b2, bTuple, bLenS, truZ, mAppend, mPop, mPopAt, pNil, pCons, wipeD, endsF, List.set_cons_zero, List.set_cons_succ, List.getElem?_cons_zero, List.getElem?_cons_succ, List.map_cons, List.map_nil, List.length_cons, List.length_nil, List.cons_append, List.nil_append, id_eq]
  refine ⟨_, _, rfl, smallP (by omega), by rw [List.length_replicate]; omega, by omega, ?_⟩
  unfold perN
  rw [wlP hm (by omega), List.length_replicate, perP m hm i hi]
  show bRepr [tN [1, m + 2]] M _
  refine repr_nats (xs := [1, m + 2]) (by intro x hx; simp at hx; omega) (by simp) ?_
  show bRepr [tN [1, m + 2]] M _
  refine repr_nats (xs := [1, m + 2]) (by intro x hx; simp at hx; omega) (by simp) ?_
  exact ne_same h
theorem law3 (h : E.nx [o0, o1, o2, o3, o4, some (tN [7, 7]), o6, o7] M) : i3_law E [o0, o1, o2, o3, o4, some (tN [7, 7]), o6, o7] M := by
  simp only [i3_law, bodyF, startD, sSeq, sAsg, sIf, sRet, sRetN, sDrop, sNext, sBreak, sCont, sSub, sPar, sPar3, sFor, eOp, eVar, eC, eTup, eNew, eCall, eSeqCall, eDisp, eDNew, eLM, eExtend, eAndZ, eOrZ, eNotZ, eNotT, eNeg, eIfZ, eIsa, eAny, eAll, eCutT, oNone, oSome, aNil, aCons, qOf, kOf, aRev, aSort, eLC, iSeq, iNew, iRange, iEnum, iEnumN, iEnumZip, gN, gT, gsNil, gsCons, tTru, tOpB, tAndZ, tOrZ, tNotZ, tYesZ, oAdd, oSub, oMul, oFdiv, oMod, oXor, oAnd, oShr, oShl, oPow, oEq, oNe, oEqC, scalEq, oLt, oGt, oLe, oGe, oOrd, oIsN, oNotN, D.isN, bInt, bAbs, b2, bTuple, bLenS, truZ, mAppend, mPop, mPopAt, pNil, pCons, wipeD, endsF, List.set_cons_zero, List.set_cons_succ, List.getElem?_cons_zero, List.getElem?_cons_succ, List.map_cons, List.map_nil, List.length_cons, List.length_nil, List.cons_append, List.nil_append, id_eq]
  refine ⟨_, 200, rfl, smallK, by decide, by decide, ?_⟩
  unfold perN
  rw [wlK (by decide), show tabK.take (200 + 1) = tabK from rfl, show ([7, 7] : List Nat).length = 2 from rfl, show (200 / 2 : Nat) = 100 from rfl, perK]
  show bRepr [tN [71, 12]] M _
  refine repr_nats (xs := [71, 12]) (by decide) (by decide) ?_
  show bRepr [tN [71, 12]] M _
  refine repr_nats (xs := [71, 12]) (by decide) (by decide) ?_
  refine ne_same ?_
  refine ⟨_, 70, 12, 165, rfl, smallK, by decide, by decide, by decide, by decide, by decide, ?_⟩
  rw [wlK (by decide), fuK]
  refine ⟨.tuple [.str "worth", .int 70], .tuple [.str "worth", .int 70], .tup (.cons (.str _) (.cons (.int _) .nil)), .tup (.cons (.str _) (.cons (.int _) .nil)), by decide +kernel, zif_f (by decide +kernel) h⟩
theorem law5 (h : E.nx [o0, o1, o2, o3, o4, some (tN [7, 7]), o6, o7] M) : i5_law E [o0, o1, o2, o3, o4, some (tN [7, 7]), o6, o7] M := by
  simp only [i5_law, bodyF, startD, sSeq, sAsg, sIf, sRet, sRetN, sDrop, sNext, sBreak, sCont, sSub, sPar, sPar3, sFor, eOp, eVar, eC, eTup, eNew, eCall, eSeqCall, eDisp, eDNew, eLM, eExtend, eAndZ, eOrZ, eNotZ, eNotT, eNeg, eIfZ, eIsa, eAny, eAll, eCutT, oNone, oSome, aNil, aCons, qOf, kOf, aRev, aSort, eLC, iSeq, iNew, iRange, iEnum, iEnumN, iEnumZip, gN, gT, gsNil, gsCons, tTru, tOpB, tAndZ, tOrZ, tNotZ, tYesZ, oAdd, oSub, oMul, oFdiv, oMod, oXor, oAnd, oShr, oShl, oPow, oEq, oNe, oEqC, scalEq, oLt, oGt, oLe, oGe, oOrd, oIsN, oNotN, D.isN, bInt, bAbs, b2, bTuple, bLenS, truZ, mAppend, mPop, mPopAt, pNil, pCons, wipeD, endsF, List.set_cons_zero, List.set_cons_succ, List.getElem?_cons_zero, List.getElem?_cons_succ, List.map_cons, List.map_nil, List.length_cons, List.length_nil, List.cons_append, List.nil_append, id_eq]
  refine ⟨_, 20, rfl, smallK, by decide, ?_⟩
  rw [wlK (by decide)]
  show bRepr [tN (tabK.take 21)] M _
  refine repr_nats (xs := tabK.take 21) (fun x hx => tabK_le x (List.mem_of_mem_take hx)) (by decide) ?_
  show bRepr [tN (tabK.take 21)] M _
  refine repr_nats (xs := tabK.take 21) (fun x hx => tabK_le x (List.mem_of_mem_take hx)) (by decide) ?_
  exact ne_same h
theorem law6 (h : E.nx [o0, o1, o2, o3, o4, o5, some (tN [0, 7]), o7] M) : i6_law E [o0, o1, o2, o3, o4, o5, some (tN [0, 7]), o7] M := by
  simp only [i6_law, bodyF, startD, sSeq, sAsg, sIf, sRet, sRetN, sDrop, sNext, sBreak, sCont, sSub, sPar, sPar3, sFor, eOp, eVar, eC, eTup, eNew, eCall, eSeqCall, eDisp, eDNew, eLM, eExtend, eAndZ, eOrZ, eNotZ, eNotT, eNeg, eIfZ, eIsa, eAny, eAll, eCutT, oNone, oSome, aNil, aCons, qOf, kOf, aRev, aSort, eLC, iSeq, iNew, iRange, iEnum, iEnumN, iEnumZip, gN, gT, gsNil, gsCons, tTru, tOpB, tAndZ, tOrZ, tNotZ, tYesZ, oAdd, oSub, oMul, oFdiv, oMod, oXor, oAnd, oShr, oShl, oPow, oEq, oNe, oEqC, scalEq, oLt, oGt, oLe, oGe, oOrd, oIsN, oNotN, D.isN, bInt, bAbs, b2, bTuple, bLenS, truZ, mAppend, mPop, mPopAt, pNil, pCons, wipeD, endsF, List.set_cons_zero, List.set_cons_succ, List.getElem?_cons_zero, List.getElem?_cons_succ, List.map_cons, List.map_nil, List.length_cons, List.length_nil, List.cons_append, List.nil_append, id_eq]
  refine ⟨_, 20, rfl, smallD, by decide, ?_⟩
  rw [wlD (by decide)]
  show bRepr [tN (tabD.take 21)] M _
  refine repr_nats (xs := tabD.take 21) (fun x hx => tabD_le x (List.mem_of_mem_take hx)) (by decide) ?_
  show bRepr [tN (tabD.take 21)] M _
  refine repr_nats (xs := tabD.take 21) (fun x hx => tabD_le x (List.mem_of_mem_take hx)) (by decide) ?_
  exact ne_same h
theorem apF_same : ∀ (xs : List Nat) (n : Nat), apF n xs xs = none
  | [], _ => rfl
  | x :: xs, n => by rw [apF, if_neg fun h => h rfl]; exact apF_same xs (n + 1)
theorem flat3 (k : Nat) : (List.replicate k [D.int 3]).flatten = (List.replicate k 3).map nI := by
  rw [List.map_replicate]
  induction k with
  | zero => rfl
  | succ k ih => rw [List.replicate_succ, List.flatten_cons, ih, List.replicate_succ]; rfl
theorem law8 (hm : m < 6) (hi : i < 30) (h : E.nx [o0, o1, some (nI (m + 1)), some (nI (40 + i)), some (tN (List.replicate (m + 1) 3)), o5, o6, o7] M) :
    i8_law E [o0, o1, some (nI (m + 1)), some (nI (40 + i)), some (tN (List.replicate (m + 1) 3)), o5, o6, o7] M := by
  simp only [i8_law, bodyF, startD, sSeq, sAsg, sIf, sRet, sRetN, sDrop, sNext, sBreak, sCont, sSub, sPar, sPar3, sFor, eOp, eVar, eC, eTup, eNew, eCall, eSeqCall, eDisp, eDNew, eLM, eExtend, eAndZ, eOrZ, eNotZ, eNotT, eNeg, eIfZ, eIsa, eAny, eAll, eCutT, oNone, oSome, aNil, aCons, qOf, kOf, aRev, aSort, eLC, iSeq, iNew, iRange, iEnum, iEnumN, iEnumZip, gN, gT, gsNil, gsCons, tTru, tOpB, tAndZ, tOrZ, tNotZ, tYesZ, oAdd, oSub, oMul, oFdiv, oMod, oXor, oAnd, oShr, oShl, oPow, oEq, oNe, oEqC, scalEq, oLt, oGt, oLe, oGe, oOrd, oIsN, oNotN, D.isN, bInt, bAbs, b2, bTuple, bLenS, truZ, mAppend, mPop, mPopAt, pNil, pCons, wipeD, endsF, List.set_cons_zero, List.set_cons_succ, List.getElem?_cons_zero, List.getElem?_cons_succ, List.map_cons, List.map_nil, List.length_cons, List.length_nil, List.cons_append, List.nil_append, id_eq]
  refine ⟨_, _, _, rfl, smallP (by omega), smallP (by omega), by omega, ?_⟩
  rw [apF_same]
  show bRepr [.non] M _
  refine repr_non ?_
  show bRepr [.non] M _
  refine repr_non (ne_same ?_)
  have em : ((m + 1 : Nat) : Int).fmod 6 + 1 = (((m + 1) % 6 + 1 : Nat) : Int) := by rw [Int.fmod_eq_emod_of_nonneg _ (by decide)]; rfl
  refine ⟨by decide, ?_⟩
  refine ⟨List.cons_ne_nil _ _, by decide, by rw [em]; omega, by rw [em]; omega, ?_⟩
  rw [em, Int.toNat_natCast]
  rw [flat3]
  have h6 : (m + 1) % 6 < 6 := Nat.mod_lt _ (by decide)
  refine ⟨_, _, _, rfl, smallP (by omega), smallP (by omega), by omega, ?_⟩
  rw [wlP hm (by omega), wlP h6 (by omega), apP m hm i hi]
  show bRepr [nI (min (m + 1) ((m + 1) % 6 + 1) + 1)] M _
  refine repr_nat (n := min (m + 1) ((m + 1) % 6 + 1) + 1) (by omega) ?_
  refine ⟨_, rfl, ?_⟩
  show bRepr [nI (min (m + 1) ((m + 1) % 6 + 1) + 1)] M _
  refine repr_nat (n := min (m + 1) ((m + 1) % 6 + 1) + 1) (by omega) ?_
  exact ne_same h
end
theorem law_rest {E : ZEnds} {p a : Addr} {M : Sto} {o0 o6 o7 : Option D} {m i : Nat} (hE : ∀ M, E.rt (.bl true) M) (hm : m < 6) (hi : i < 30) (src : Src M p a) :
    (sSeq i5_law (sSeq (sAsg (eTup (aCons (eC (.int 0)) (aCons (eC (.int 7)) aNil))) (gN 6)) (sSeq i6_law (sSeq i7_law (sSeq i8_law (sRet (eOp oEq (eCall bRepr (aCons (eCall g_apart (aCons (eVar 5) (aCons (eVar 6) (aCons (eC (.int 30)) aNil)))) aNil)) (eCall bRepr (aCons (eC (.int 1)) aNil))))))))) E
      [o0, some (.ref p), some (nI (m + 1)), some (nI (40 + i)), some (tN (List.replicate (m + 1) 3)), some (tN [7, 7]), o6, o7] M := by
  refine law5 ?_
  simp only [bodyF, startD, sSeq, sAsg, sIf, sRet, sRetN, sDrop, sNext, sBreak, sCont, sSub, sPar, sPar3, sFor, eOp, eVar, eC, eTup, eNew, eCall, eSeqCall, eDisp, eDNew, eLM, eExtend, eAndZ, eOrZ, eNotZ, eNotT, eNeg, eIfZ, eIsa, eAny, eAll, eCutT, oNone, oSome, aNil, aCons, qOf, kOf, aRev, aSort, eLC, iSeq, iNew, iRange, iEnum, iEnumN, iEnumZip, gN, gT, gsNil, gsCons, tTru, tOpB, tAndZ, tOrZ, tNotZ, tYesZ, oAdd, oSub, oMul, oFdiv, oMod, oXor, oAnd, oShr, oShl, oPow, oEq, oNe, oEqC, scalEq, oLt, oGt, oLe, oGe, oOrd, oIsN, oNotN, D.isN, bInt, bAbs, b2, bTuple, bLenS, truZ, mAppend, mPop, mPopAt, pNil, pCons, wipeD, endsF, List.set_cons_zero, List.set_cons_succ, List.getElem?_cons_zero, List.getElem?_cons_succ, List.map_cons, List.map_nil, List.length_cons, List.length_nil, List.cons_append, List.nil_append, id_eq]
  refine law6 ?_
  simp only [i7_law, bodyF, startD, sSeq, sAsg, sIf, sRet, sRetN, sDrop, sNext, sBreak, sCont, sSub, sPar, sPar3, sFor, eOp, eVar, eC, eTup, eNew, eCall, eSeqCall, eDisp, eDNew, eLM, eExtend, eAndZ, eOrZ, eNotZ, eNotT, eNeg, eIfZ, eIsa, eAny, eAll, eCutT, oNone, oSome, aNil, aCons, qOf, kOf, aRev, aSort, eLC, iSeq, iNew, iRange, iEnum, iEnumN, iEnumZip, gN, gT, gsNil, gsCons, tTru, tOpB, tAndZ, tOrZ, tNotZ, tYesZ, oAdd, oSub, oMul, oFdiv, oMod, oXor, oAnd, oShr, oShl, oPow, oEq, oNe, oEqC, scalEq, oLt, oGt, oLe, oGe, oOrd, oIsN, oNotN, D.isN, bInt, bAbs, b2, bTuple, bLenS, truZ, mAppend, mPop, mPopAt, pNil, pCons, wipeD, endsF, List.set_cons_zero, List.set_cons_succ, List.getElem?_cons_zero, List.getElem?_cons_succ, List.map_cons, List.map_nil, List.length_cons, List.length_nil, List.cons_append, List.nil_append, id_eq]
  refine ⟨p, a, 3, rfl, src, by decide, by decide, fun r3 M4 h3 src4 _ => ?_⟩
  have fin : ∀ M, i8_law ⟨sRet (eOp oEq (eCall bRepr (aCons (eCall g_apart (aCons (eVar 5) (aCons (eVar 6) (aCons (eC (.int 30)) aNil)))) aNil)) (eCall bRepr (aCons (eC (.int 1)) aNil))) E, E.rt, E.bk, E.ct⟩
      [o0, some (.ref p), some (nI (m + 1)), some (nI (40 + i)), some (tN (List.replicate (m + 1) 3)), some (tN [7, 7]), some (tN [0, 7]), o7] M := fun M => by
    refine law8 hm hi ?_
    simp only [bodyF, startD, sSeq, sAsg, sIf, sRet, sRetN, sDrop, sNext, sBreak, sCont, sSub, sPar, sPar3, sFor, eOp, eVar, eC, eTup, eNew, eCall, eSeqCall, eDisp, eDNew, eLM, eExtend, eAndZ, eOrZ, eNotZ, eNotT, eNeg, eIfZ, eIsa, eAny, eAll, eCutT, oNone, oSome, aNil, aCons, qOf, kOf, aRev, aSort, eLC, iSeq, iNew, iRange, iEnum, iEnumN, iEnumZip, gN, gT, gsNil, gsCons, tTru, tOpB, tAndZ, tOrZ, tNotZ, tYesZ, oAdd, oSub, oMul, oFdiv, oMod, oXor, oAnd, oShr, oShl, oPow, oEq, oNe, oEqC, scalEq, oLt, oGt, oLe, oGe, oOrd, oIsN, oNotN, D.isN, bInt, bAbs, b2, bTuple, bLenS, truZ, mAppend, mPop, mPopAt, pNil, pCons, wipeD, endsF, List.set_cons_zero, List.set_cons_succ, List.getElem?_cons_zero, List.getElem?_cons_succ, List.map_cons, List.map_nil, List.length_cons, List.length_nil, List.cons_append, List.nil_append, id_eq]
    refine ⟨_, _, 30, rfl, smallK, smallD, by decide, ?_⟩
    rw [wlK (by decide), wlD (by decide), apKD]
    show bRepr [nI 1] M _
    refine repr_nat (n := 1) (by decide) ?_
    show bRepr [nI 1] M _
    refine repr_nat (n := 1) (by decide) ?_
    show E.rt (.bl (decide (_ = _))) M
    rw [decide_eq_true rfl]
    exact hE M
  refine ⟨fun _ => ?_, fun _ => zif_f rfl (fin _)⟩
  refine ⟨_, 200, rfl, smallD, by decide, by decide, ?_⟩
  unfold perN
  rw [wlD (by decide), show tabD.take (200 + 1) = tabD from rfl, show ([0, 7] : List Nat).length = 2 from rfl, show (200 / 2 : Nat) = 100 from rfl, perDw]
  show bRepr [tN [53, 34]] M4 _
  refine repr_nats (xs := [53, 34]) (by decide) (by decide) ?_
  show bRepr [tN [53, 34]] M4 _
  refine repr_nats (xs := [53, 34]) (by decide) (by decide) ?_
  exact ne_same (fin _)
theorem l_law : ∀ ds M Q, ds.length = 1 → g_law ds M Q → bodyF 1 n_law s_law ds M Q := by
  rintro ds M Q hl ⟨ns, rfl, hn, hq⟩
  refine ⟨rfl, ?_⟩
  simp only [s_law, n_law, i4_law, i7_law, startD, List.length_cons, List.length_nil, List.replicate, bodyF, startD, sSeq, sAsg, sIf, sRet, sRetN, sDrop, sNext, sBreak, sCont, sSub, sPar, sPar3, sFor, eOp, eVar, eC, eTup, eNew, eCall, eSeqCall, eDisp, eDNew, eLM, eExtend, eAndZ, eOrZ, eNotZ, eNotT, eNeg, eIfZ, eIsa, eAny, eAll, eCutT, oNone, oSome, aNil, aCons, qOf, kOf, aRev, aSort, eLC, iSeq, iNew, iRange, iEnum, iEnumN, iEnumZip, gN, gT, gsNil, gsCons, tTru, tOpB, tAndZ, tOrZ, tNotZ, tYesZ, oAdd, oSub, oMul, oFdiv, oMod, oXor, oAnd, oShr, oShl, oPow, oEq, oNe, oEqC, scalEq, oLt, oGt, oLe, oGe, oOrd, oIsN, oNotN, D.isN, bInt, bAbs, b2, bTuple, bLenS, truZ, mAppend, mPop, mPopAt, pNil, pCons, wipeD, endsF, List.set_cons_zero, List.set_cons_succ, List.getElem?_cons_zero, List.getElem?_cons_succ, List.map_cons, List.map_nil, List.length_cons, List.length_nil, List.cons_append, List.nil_append, id_eq]
  refine ⟨ns, rfl, hn, fun p a M1 hp ha hs src1 => ?_⟩
  refine ⟨p, a, 6, rfl, src1, by decide, by decide, fun r1 M2 h1 src2 _ => ?_⟩
  simp only [bodyF, startD, sSeq, sAsg, sIf, sRet, sRetN, sDrop, sNext, sBreak, sCont, sSub, sPar, sPar3, sFor, eOp, eVar, eC, eTup, eNew, eCall, eSeqCall, eDisp, eDNew, eLM, eExtend, eAndZ, eOrZ, eNotZ, eNotT, eNeg, eIfZ, eIsa, eAny, eAll, eCutT, oNone, oSome, aNil, aCons, qOf, kOf, aRev, aSort, eLC, iSeq, iNew, iRange, iEnum, iEnumN, iEnumZip, gN, gT, gsNil, gsCons, tTru, tOpB, tAndZ, tOrZ, tNotZ, tYesZ, oAdd, oSub, oMul, oFdiv, oMod, oXor, oAnd, oShr, oShl, oPow, oEq, oNe, oEqC, scalEq, oLt, oGt, oLe, oGe, oOrd, oIsN, oNotN, D.isN, bInt, bAbs, b2, bTuple, bLenS, truZ, mAppend, mPop, mPopAt, pNil, pCons, wipeD, endsF, List.set_cons_zero, List.set_cons_succ, List.getElem?_cons_zero, List.getElem?_cons_succ, List.map_cons, List.map_nil, List.length_cons, List.length_nil, List.cons_append, List.nil_append, id_eq]
  refine ⟨p, a, 30, rfl, src2, by decide, by decide, fun r2 M3 h2 src3 _ => ?_⟩
  simp only [bodyF, startD, sSeq, sAsg, sIf, sRet, sRetN, sDrop, sNext, sBreak, sCont, sSub, sPar, sPar3, sFor, eOp, eVar, eC, eTup, eNew, eCall, eSeqCall, eDisp, eDNew, eLM, eExtend, eAndZ, eOrZ, eNotZ, eNotT, eNeg, eIfZ, eIsa, eAny, eAll, eCutT, oNone, oSome, aNil, aCons, qOf, kOf, aRev, aSort, eLC, iSeq, iNew, iRange, iEnum, iEnumN, iEnumZip, gN, gT, gsNil, gsCons, tTru, tOpB, tAndZ, tOrZ, tNotZ, tYesZ, oAdd, oSub, oMul, oFdiv, oMod, oXor, oAnd, oShr, oShl, oPow, oEq, oNe, oEqC, scalEq, oLt, oGt, oLe, oGe, oOrd, oIsN, oNotN, D.isN, bInt, bAbs, b2, bTuple, bLenS, truZ, mAppend, mPop, mPopAt, pNil, pCons, wipeD, endsF, List.set_cons_zero, List.set_cons_succ, List.getElem?_cons_zero, List.getElem?_cons_succ, List.map_cons, List.map_nil, List.length_cons, List.length_nil, List.cons_append, List.nil_append, id_eq]
  rw [show (1 : Int) + (r1 : Int) = ((r1 + 1 : Nat) : Int) by omega, show (40 : Int) + (r2 : Int) = ((40 + r2 : Nat) : Int) by omega]
  refine ⟨List.cons_ne_nil _ _, by decide, by omega, by omega, ?_⟩
  rw [Int.toNat_natCast, flat3]
  refine law1 h1 h2 (law2 h1 h2 ?_)
  refine ⟨p, a, 3, rfl, src3, by decide, by decide, fun r3 M4 h3 src4 _ => ?_⟩
  exact ⟨fun _ => law3 (law_rest (fun M => dropK.self (hq M)) h1 h2 src4), fun _ => law_rest (fun M => dropK.self (hq M)) h1 h2 src4⟩
end Z
set_option maxHeartbeats 4000000
namespace Z
open PySem PySem.Spec PyProof.Rows L2
theorem m_lefts : MonoF g_lefts := fun _ _ _ _ q ⟨a, b, c, d, e, h⟩ => ⟨a, b, c, d, e, fun ys p => q _ _ (h ys p)⟩
theorem m_added : MonoF g_added := fun _ _ _ _ q ⟨a, b, c, d, h⟩ => ⟨a, b, c, d, q _ _ h⟩
theorem m_least_missing : MonoF g_least_missing := fun _ _ _ _ q ⟨a, b, c, d, h⟩ => ⟨a, b, c, d, q _ _ h⟩
theorem m_worths : MonoF g_worths := fun _ _ _ _ q ⟨a, b, c, d, e, h⟩ => ⟨a, b, c, d, e, q _ _ h⟩
theorem m_need : MonoF g_need := fun _ _ _ _ q ⟨a, b, c, d, h⟩ => ⟨a, b, c, d, q _ _ h⟩
theorem m_first_unlike : MonoF g_first_unlike := fun _ _ _ _ q ⟨a, b, c, d, e, f, g, i, j, k, h⟩ => ⟨a, b, c, d, e, f, g, i, j, k, q _ _ h⟩
theorem m_least_start : MonoF g_least_start := fun _ _ _ _ q ⟨a, b, c, d, e, f, g, h⟩ => ⟨a, b, c, d, e, f, g, q _ _ h⟩
theorem m_period : MonoF g_period := fun _ _ _ _ q ⟨a, b, c, d, e, f, h⟩ => ⟨a, b, c, d, e, f, q _ _ h⟩
theorem m_is_number : MonoF g_is_number := fun _ _ _ _ q ⟨a, b, c, h⟩ => ⟨a, b, c, q _ _ h⟩
theorem m_judge_period : MonoF g_judge_period := fun _ _ _ _ q ⟨a, b, c, d, e, f, g, i, j, k, l, h⟩ => ⟨a, b, c, d, e, f, g, i, j, k, l, q _ _ h⟩
theorem m_apart : MonoF g_apart := fun _ _ _ _ q ⟨a, b, c, d, e, f, g, h⟩ => ⟨a, b, c, d, e, f, g, q _ _ h⟩
theorem m__law_first : MonoF g__law_first := fun _ _ _ _ q ⟨a, b, h⟩ => ⟨a, b, q _ _ h⟩
theorem m__law_open_cells : MonoF g__law_open_cells := fun _ _ _ _ q ⟨a, b, c, h⟩ => ⟨a, b, c, fun p a M e f g i => q _ _ (h p a M e f g i)⟩
theorem m__law_pick : MonoF g__law_pick := fun _ _ _ _ q ⟨a, b, c, d, e, f, g, h⟩ => ⟨a, b, c, d, e, f, g, fun r M i j k => q _ _ (h r M i j k)⟩
theorem m_law : MonoF g_law := fun _ _ _ _ q ⟨a, b, c, h⟩ => ⟨a, b, c, fun M => q _ _ (h M)⟩
theorem all_cals {P : Program} {w : World} {K : PySem.W.Frag} {mg : Str → Option Value} {base : Heap} {t_MOST : Tok}
    (h_lefts : Hold K mg "lefts" st_lefts ["code", "n"])
    (h_added : Hold K mg "added" st_added ["numbers"])
    (h_least_missing : Hold K mg "least_missing" st_least_missing ["numbers"])
    (h_need : Hold K mg "need" st_need ["code", "s", "p"])
    (h_first_unlike : Hold K mg "first_unlike" st_first_unlike ["table", "s", "p", "most"])
    (h_least_start : Hold K mg "least_start" st_least_start ["table", "p", "most"])
    (h_is_number : Hold K mg "is_number" st_is_number ["value"])
    (h__law_open_cells : Hold K mg "_law_open_cells" st__law_open_cells ["script"])
    (h__law_pick : Hold K mg "_law_pick" st__law_pick ["source", "most"])
    (h__law_first : Hold K mg "_law_first" st__law_first ["many"])
    (h_worths : Hold K mg "worths" st_worths ["code", "most"])
    (h_period : Hold K mg "period" st_period ["code", "most"])
    (h_judge_period : Hold K mg "judge_period" st_judge_period ["code", "value"])
    (h_apart : Hold K mg "apart" st_apart ["one", "other", "most"])
    (b_enumerate : mg "enumerate" = none)
    (b_range : mg "range" = none)
    (b_sorted : mg "sorted" = none)
    (b_tuple : mg "tuple" = none)
    (b_len : mg "len" = none)
    (b_isinstance : mg "isinstance" = none)
    (b_int : mg "int" = none)
    (b_bool : mg "bool" = none)
    (b_abs : mg "abs" = none)
    (b_min : mg "min" = none)
    (b_zip : mg "zip" = none)
    (b_repr : mg "repr" = none)
    (i_MOST : mg "MOST" = some (.int 400 t_MOST))
    {f : Addr} {fd : FuncData} (F : Fun K "law" "law" st_law f fd) : FnD P w K mg base 4 f fd ["script"] g_law := by
  have c_lefts : Cal P w K mg base 1 "lefts" ["code", "n"] g_lefts := h_lefts.cal sc_lefts m_lefts l_lefts (w_lefts b_enumerate b_range b_sorted b_tuple)
  have c_added : Cal P w K mg base 1 "added" ["numbers"] g_added := h_added.cal sc_added m_added l_added (w_added )
  have c_least_missing : Cal P w K mg base 1 "least_missing" ["numbers"] g_least_missing := h_least_missing.cal sc_least_missing m_least_missing l_least_missing (w_least_missing b_sorted)
  have c_need : Cal P w K mg base 1 "need" ["code", "s", "p"] g_need := h_need.cal sc_need m_need l_need (w_need b_len)
  have c_first_unlike : Cal P w K mg base 1 "first_unlike" ["table", "s", "p", "most"] g_first_unlike := h_first_unlike.cal sc_first_unlike m_first_unlike l_first_unlike (w_first_unlike b_range)
  have c_least_start : Cal P w K mg base 1 "least_start" ["table", "p", "most"] g_least_start := h_least_start.cal sc_least_start m_least_start l_least_start (w_least_start )
  have c_is_number : Cal P w K mg base 1 "is_number" ["value"] g_is_number := h_is_number.cal sc_is_number m_is_number l_is_number (w_is_number b_isinstance b_int b_bool)
  have c__law_open_cells : Cal P w K mg base 1 "_law_open_cells" ["script"] g__law_open_cells := h__law_open_cells.cal sc__law_open_cells m__law_open_cells l__law_open_cells (w__law_open_cells b_int b_abs)
  have c__law_pick : Cal P w K mg base 1 "_law_pick" ["source", "most"] g__law_pick := h__law_pick.cal sc__law_pick m__law_pick l__law_pick (w__law_pick b_len b_int)
  have c__law_first : Cal P w K mg base 1 "_law_first" ["many"] g__law_first := h__law_first.cal sc__law_first m__law_first l__law_first (w__law_first b_min)
  have c_worths : Cal P w K mg base 2 "worths" ["code", "most"] g_worths := h_worths.cal sc_worths m_worths l_worths (w_worths c_least_missing c_lefts c_added b_range b_tuple)
  have c_period : Cal P w K mg base 3 "period" ["code", "most"] g_period := h_period.cal sc_period m_period l_period (w_period c_worths c_least_start c_need b_range)
  have c_judge_period : Cal P w K mg base 3 "judge_period" ["code", "value"] g_judge_period := h_judge_period.cal sc_judge_period m_judge_period l_judge_period (w_judge_period c_is_number c_need c_first_unlike c_worths b_isinstance b_tuple b_len i_MOST)
  have c_apart : Cal P w K mg base 3 "apart" ["one", "other", "most"] g_apart := h_apart.cal sc_apart m_apart l_apart (w_apart c_worths b_enumerate b_zip)
  exact (FnD.ofZ F sc_law (w_law c__law_open_cells c__law_pick c_worths c_period c_judge_period c_apart c__law_first b_repr b_range b_tuple f)).imp m_law fun ds M Q e h => cl_in (l_law ds M Q e h)
theorem all_mk {l : PySem.W.OpenLaw} {w : World} {K : PySem.W.Frag} {h : Heap} {mg : Str → Option Value} {fa : Addr} (X : K.In h) (G : h.Ns mainGlobals mg) (hfa : mg "law" = some (.ref fa)) {t_MOST : Tok}
    {f0 : Addr} {od0 an0 : Option Addr} {sl0 : Array (Option Value)} {oc0 kV0 dc0 pm0 cd0 ct0 : Value}
    (a0 : PySem.W.nsIn K mainGlobals "lefts" = some (some (.ref f0))) (l0 : K.lookup f0 = some ⟨oc0, od0, .func (PySem.W.fnOf "lefts" "lefts" (defArgs st_lefts) (defBody st_lefts) (defScope st_lefts) .none kV0 dc0 pm0 an0 cd0 ct0), sl0⟩) (c0 : PySem.W.codeIn K cd0 "lefts" = true) (k0 : PySem.W.keepIn K (.ref f0) = true)
    {f1 : Addr} {od1 an1 : Option Addr} {sl1 : Array (Option Value)} {oc1 kV1 dc1 pm1 cd1 ct1 : Value}
    (a1 : PySem.W.nsIn K mainGlobals "added" = some (some (.ref f1))) (l1 : K.lookup f1 = some ⟨oc1, od1, .func (PySem.W.fnOf "added" "added" (defArgs st_added) (defBody st_added) (defScope st_added) .none kV1 dc1 pm1 an1 cd1 ct1), sl1⟩) (c1 : PySem.W.codeIn K cd1 "added" = true) (k1 : PySem.W.keepIn K (.ref f1) = true)
    {f2 : Addr} {od2 an2 : Option Addr} {sl2 : Array (Option Value)} {oc2 kV2 dc2 pm2 cd2 ct2 : Value}
    (a2 : PySem.W.nsIn K mainGlobals "least_missing" = some (some (.ref f2))) (l2 : K.lookup f2 = some ⟨oc2, od2, .func (PySem.W.fnOf "least_missing" "least_missing" (defArgs st_least_missing) (defBody st_least_missing) (defScope st_least_missing) .none kV2 dc2 pm2 an2 cd2 ct2), sl2⟩) (c2 : PySem.W.codeIn K cd2 "least_missing" = true) (k2 : PySem.W.keepIn K (.ref f2) = true)
    {f3 : Addr} {od3 an3 : Option Addr} {sl3 : Array (Option Value)} {oc3 kV3 dc3 pm3 cd3 ct3 : Value}
    (a3 : PySem.W.nsIn K mainGlobals "need" = some (some (.ref f3))) (l3 : K.lookup f3 = some ⟨oc3, od3, .func (PySem.W.fnOf "need" "need" (defArgs st_need) (defBody st_need) (defScope st_need) .none kV3 dc3 pm3 an3 cd3 ct3), sl3⟩) (c3 : PySem.W.codeIn K cd3 "need" = true) (k3 : PySem.W.keepIn K (.ref f3) = true)
    {f4 : Addr} {od4 an4 : Option Addr} {sl4 : Array (Option Value)} {oc4 kV4 dc4 pm4 cd4 ct4 : Value}
    (a4 : PySem.W.nsIn K mainGlobals "first_unlike" = some (some (.ref f4))) (l4 : K.lookup f4 = some ⟨oc4, od4, .func (PySem.W.fnOf "first_unlike" "first_unlike" (defArgs st_first_unlike) (defBody st_first_unlike) (defScope st_first_unlike) .none kV4 dc4 pm4 an4 cd4 ct4), sl4⟩) (c4 : PySem.W.codeIn K cd4 "first_unlike" = true) (k4 : PySem.W.keepIn K (.ref f4) = true)
    {f5 : Addr} {od5 an5 : Option Addr} {sl5 : Array (Option Value)} {oc5 kV5 dc5 pm5 cd5 ct5 : Value}
    (a5 : PySem.W.nsIn K mainGlobals "least_start" = some (some (.ref f5))) (l5 : K.lookup f5 = some ⟨oc5, od5, .func (PySem.W.fnOf "least_start" "least_start" (defArgs st_least_start) (defBody st_least_start) (defScope st_least_start) .none kV5 dc5 pm5 an5 cd5 ct5), sl5⟩) (c5 : PySem.W.codeIn K cd5 "least_start" = true) (k5 : PySem.W.keepIn K (.ref f5) = true)
    {f6 : Addr} {od6 an6 : Option Addr} {sl6 : Array (Option Value)} {oc6 kV6 dc6 pm6 cd6 ct6 : Value}
    (a6 : PySem.W.nsIn K mainGlobals "is_number" = some (some (.ref f6))) (l6 : K.lookup f6 = some ⟨oc6, od6, .func (PySem.W.fnOf "is_number" "is_number" (defArgs st_is_number) (defBody st_is_number) (defScope st_is_number) .none kV6 dc6 pm6 an6 cd6 ct6), sl6⟩) (c6 : PySem.W.codeIn K cd6 "is_number" = true) (k6 : PySem.W.keepIn K (.ref f6) = true)
    {f7 : Addr} {od7 an7 : Option Addr} {sl7 : Array (Option Value)} {oc7 kV7 dc7 pm7 cd7 ct7 : Value}
    (a7 : PySem.W.nsIn K mainGlobals "_law_open_cells" = some (some (.ref f7))) (l7 : K.lookup f7 = some ⟨oc7, od7, .func (PySem.W.fnOf "_law_open_cells" "_law_open_cells" (defArgs st__law_open_cells) (defBody st__law_open_cells) (defScope st__law_open_cells) .none kV7 dc7 pm7 an7 cd7 ct7), sl7⟩) (c7 : PySem.W.codeIn K cd7 "_law_open_cells" = true) (k7 : PySem.W.keepIn K (.ref f7) = true)
    {f8 : Addr} {od8 an8 : Option Addr} {sl8 : Array (Option Value)} {oc8 kV8 dc8 pm8 cd8 ct8 : Value}
    (a8 : PySem.W.nsIn K mainGlobals "_law_pick" = some (some (.ref f8))) (l8 : K.lookup f8 = some ⟨oc8, od8, .func (PySem.W.fnOf "_law_pick" "_law_pick" (defArgs st__law_pick) (defBody st__law_pick) (defScope st__law_pick) .none kV8 dc8 pm8 an8 cd8 ct8), sl8⟩) (c8 : PySem.W.codeIn K cd8 "_law_pick" = true) (k8 : PySem.W.keepIn K (.ref f8) = true)
    {f9 : Addr} {od9 an9 : Option Addr} {sl9 : Array (Option Value)} {oc9 kV9 dc9 pm9 cd9 ct9 : Value}
    (a9 : PySem.W.nsIn K mainGlobals "_law_first" = some (some (.ref f9))) (l9 : K.lookup f9 = some ⟨oc9, od9, .func (PySem.W.fnOf "_law_first" "_law_first" (defArgs st__law_first) (defBody st__law_first) (defScope st__law_first) .none kV9 dc9 pm9 an9 cd9 ct9), sl9⟩) (c9 : PySem.W.codeIn K cd9 "_law_first" = true) (k9 : PySem.W.keepIn K (.ref f9) = true)
    {f10 : Addr} {od10 an10 : Option Addr} {sl10 : Array (Option Value)} {oc10 kV10 dc10 pm10 cd10 ct10 : Value}
    (a10 : PySem.W.nsIn K mainGlobals "worths" = some (some (.ref f10))) (l10 : K.lookup f10 = some ⟨oc10, od10, .func (PySem.W.fnOf "worths" "worths" (defArgs st_worths) (defBody st_worths) (defScope st_worths) .none kV10 dc10 pm10 an10 cd10 ct10), sl10⟩) (c10 : PySem.W.codeIn K cd10 "worths" = true) (k10 : PySem.W.keepIn K (.ref f10) = true)
    {f11 : Addr} {od11 an11 : Option Addr} {sl11 : Array (Option Value)} {oc11 kV11 dc11 pm11 cd11 ct11 : Value}
    (a11 : PySem.W.nsIn K mainGlobals "period" = some (some (.ref f11))) (l11 : K.lookup f11 = some ⟨oc11, od11, .func (PySem.W.fnOf "period" "period" (defArgs st_period) (defBody st_period) (defScope st_period) .none kV11 dc11 pm11 an11 cd11 ct11), sl11⟩) (c11 : PySem.W.codeIn K cd11 "period" = true) (k11 : PySem.W.keepIn K (.ref f11) = true)
    {f12 : Addr} {od12 an12 : Option Addr} {sl12 : Array (Option Value)} {oc12 kV12 dc12 pm12 cd12 ct12 : Value}
    (a12 : PySem.W.nsIn K mainGlobals "judge_period" = some (some (.ref f12))) (l12 : K.lookup f12 = some ⟨oc12, od12, .func (PySem.W.fnOf "judge_period" "judge_period" (defArgs st_judge_period) (defBody st_judge_period) (defScope st_judge_period) .none kV12 dc12 pm12 an12 cd12 ct12), sl12⟩) (c12 : PySem.W.codeIn K cd12 "judge_period" = true) (k12 : PySem.W.keepIn K (.ref f12) = true)
    {f13 : Addr} {od13 an13 : Option Addr} {sl13 : Array (Option Value)} {oc13 kV13 dc13 pm13 cd13 ct13 : Value}
    (a13 : PySem.W.nsIn K mainGlobals "apart" = some (some (.ref f13))) (l13 : K.lookup f13 = some ⟨oc13, od13, .func (PySem.W.fnOf "apart" "apart" (defArgs st_apart) (defBody st_apart) (defScope st_apart) .none kV13 dc13 pm13 an13 cd13 ct13), sl13⟩) (c13 : PySem.W.codeIn K cd13 "apart" = true) (k13 : PySem.W.keepIn K (.ref f13) = true)
    {f14 : Addr} {od14 an14 : Option Addr} {sl14 : Array (Option Value)} {oc14 kV14 dc14 pm14 cd14 ct14 : Value}
    (a14 : PySem.W.nsIn K mainGlobals "law" = some (some (.ref f14))) (l14 : K.lookup f14 = some ⟨oc14, od14, .func (PySem.W.fnOf "law" "law" (defArgs st_law) (defBody st_law) (defScope st_law) .none kV14 dc14 pm14 an14 cd14 ct14), sl14⟩) (c14 : PySem.W.codeIn K cd14 "law" = true) (k14 : PySem.W.keepIn K (.ref f14) = true)
    (z_enumerate : PySem.W.nsIn K mainGlobals "enumerate" = some none)
    (z_range : PySem.W.nsIn K mainGlobals "range" = some none)
    (z_sorted : PySem.W.nsIn K mainGlobals "sorted" = some none)
    (z_tuple : PySem.W.nsIn K mainGlobals "tuple" = some none)
    (z_len : PySem.W.nsIn K mainGlobals "len" = some none)
    (z_isinstance : PySem.W.nsIn K mainGlobals "isinstance" = some none)
    (z_int : PySem.W.nsIn K mainGlobals "int" = some none)
    (z_bool : PySem.W.nsIn K mainGlobals "bool" = some none)
    (z_abs : PySem.W.nsIn K mainGlobals "abs" = some none)
    (z_min : PySem.W.nsIn K mainGlobals "min" = some none)
    (z_zip : PySem.W.nsIn K mainGlobals "zip" = some none)
    (z_repr : PySem.W.nsIn K mainGlobals "repr" = some none)
    (y_MOST : PySem.W.nsIn K mainGlobals "MOST" = some (some (.int 400 t_MOST)))
    : ∃ fd : FuncData, (∀ (s : Shared) (v : Value), BindsTo s fd ⟨[v], []⟩ [("script", v)]) ∧ ∀ base : Heap, K.In base → base.Ns mainGlobals mg → FnD l.prog w K mg base 4 fa fd ["script"] g_law := by
  have e := hfa.symm.trans (PySem.W.mg_of X G a14)
  cases e
  have F0 := fun_mk (st := st_lefts) l0 c0 k0
  have h0 : Hold K mg "lefts" st_lefts ["code", "n"] := ⟨_, _, F0, PySem.W.mg_of X G a0, F0.binds (ps := ["code", "n"]) fun _ _ _ _ _ _ us hl => match us, hl with | [_, _], _ => rfl⟩
  have F1 := fun_mk (st := st_added) l1 c1 k1
  have h1 : Hold K mg "added" st_added ["numbers"] := ⟨_, _, F1, PySem.W.mg_of X G a1, F1.binds (ps := ["numbers"]) fun _ _ _ _ _ _ us hl => match us, hl with | [_], _ => rfl⟩
  have F2 := fun_mk (st := st_least_missing) l2 c2 k2
  have h2 : Hold K mg "least_missing" st_least_missing ["numbers"] := ⟨_, _, F2, PySem.W.mg_of X G a2, F2.binds (ps := ["numbers"]) fun _ _ _ _ _ _ us hl => match us, hl with | [_], _ => rfl⟩
  have F3 := fun_mk (st := st_need) l3 c3 k3
  have h3 : Hold K mg "need" st_need ["code", "s", "p"] := ⟨_, _, F3, PySem.W.mg_of X G a3, F3.binds (ps := ["code", "s", "p"]) fun _ _ _ _ _ _ us hl => match us, hl with | [_, _, _], _ => rfl⟩
  have F4 := fun_mk (st := st_first_unlike) l4 c4 k4
  have h4 : Hold K mg "first_unlike" st_first_unlike ["table", "s", "p", "most"] := ⟨_, _, F4, PySem.W.mg_of X G a4, F4.binds (ps := ["table", "s", "p", "most"]) fun _ _ _ _ _ _ us hl => match us, hl with | [_, _, _, _], _ => rfl⟩
  have F5 := fun_mk (st := st_least_start) l5 c5 k5
  have h5 : Hold K mg "least_start" st_least_start ["table", "p", "most"] := ⟨_, _, F5, PySem.W.mg_of X G a5, F5.binds (ps := ["table", "p", "most"]) fun _ _ _ _ _ _ us hl => match us, hl with | [_, _, _], _ => rfl⟩
  have F6 := fun_mk (st := st_is_number) l6 c6 k6
  have h6 : Hold K mg "is_number" st_is_number ["value"] := ⟨_, _, F6, PySem.W.mg_of X G a6, F6.binds (ps := ["value"]) fun _ _ _ _ _ _ us hl => match us, hl with | [_], _ => rfl⟩
  have F7 := fun_mk (st := st__law_open_cells) l7 c7 k7
  have h7 : Hold K mg "_law_open_cells" st__law_open_cells ["script"] := ⟨_, _, F7, PySem.W.mg_of X G a7, F7.binds (ps := ["script"]) fun _ _ _ _ _ _ us hl => match us, hl with | [_], _ => rfl⟩
  have F8 := fun_mk (st := st__law_pick) l8 c8 k8
  have h8 : Hold K mg "_law_pick" st__law_pick ["source", "most"] := ⟨_, _, F8, PySem.W.mg_of X G a8, F8.binds (ps := ["source", "most"]) fun _ _ _ _ _ _ us hl => match us, hl with | [_, _], _ => rfl⟩
  have F9 := fun_mk (st := st__law_first) l9 c9 k9
  have h9 : Hold K mg "_law_first" st__law_first ["many"] := ⟨_, _, F9, PySem.W.mg_of X G a9, F9.binds (ps := ["many"]) fun _ _ _ _ _ _ us hl => match us, hl with | [_], _ => rfl⟩
  have F10 := fun_mk (st := st_worths) l10 c10 k10
  have h10 : Hold K mg "worths" st_worths ["code", "most"] := ⟨_, _, F10, PySem.W.mg_of X G a10, F10.binds (ps := ["code", "most"]) fun _ _ _ _ _ _ us hl => match us, hl with | [_, _], _ => rfl⟩
  have F11 := fun_mk (st := st_period) l11 c11 k11
  have h11 : Hold K mg "period" st_period ["code", "most"] := ⟨_, _, F11, PySem.W.mg_of X G a11, F11.binds (ps := ["code", "most"]) fun _ _ _ _ _ _ us hl => match us, hl with | [_, _], _ => rfl⟩
  have F12 := fun_mk (st := st_judge_period) l12 c12 k12
  have h12 : Hold K mg "judge_period" st_judge_period ["code", "value"] := ⟨_, _, F12, PySem.W.mg_of X G a12, F12.binds (ps := ["code", "value"]) fun _ _ _ _ _ _ us hl => match us, hl with | [_, _], _ => rfl⟩
  have F13 := fun_mk (st := st_apart) l13 c13 k13
  have h13 : Hold K mg "apart" st_apart ["one", "other", "most"] := ⟨_, _, F13, PySem.W.mg_of X G a13, F13.binds (ps := ["one", "other", "most"]) fun _ _ _ _ _ _ us hl => match us, hl with | [_, _, _], _ => rfl⟩
  have F14 := fun_mk (st := st_law) l14 c14 k14
  refine ⟨PySem.W.fnOf "law" "law" (defArgs st_law) (defBody st_law) (defScope st_law) .none kV14 dc14 pm14 an14 cd14 ct14, fun s v => .of_eq rfl, fun base _ _ => ?_⟩
  exact all_cals h0 h1 h2 h3 h4 h5 h6 h7 h8 h9 h10 h11 h12 h13 (PySem.W.mg_none_of X G z_enumerate) (PySem.W.mg_none_of X G z_range) (PySem.W.mg_none_of X G z_sorted) (PySem.W.mg_none_of X G z_tuple) (PySem.W.mg_none_of X G z_len) (PySem.W.mg_none_of X G z_isinstance) (PySem.W.mg_none_of X G z_int) (PySem.W.mg_none_of X G z_bool) (PySem.W.mg_none_of X G z_abs) (PySem.W.mg_none_of X G z_min) (PySem.W.mg_none_of X G z_zip) (PySem.W.mg_none_of X G z_repr) (PySem.W.mg_of X G y_MOST) F14
end Z
open PySem PySem.W PyProof.Rows
set_option maxRecDepth 100000 in
set_option maxHeartbeats 0 in
theorem PySem.Challenge.cw_eachgame_k29_whole_known_codes_holds : PySem.Challenge.rw_eachgame_k29_whole_known_codes.Holds := by
  w_on; o_law; k_head; (case hw => w_witness2)
  k_fill
  refine Z.walk_ofG (l := PySem.Challenge.rw_eachgame_k29_whole_known_codes) (n := 63) (k := 4) (x := "script") (g := fun _ => Z.g_law) rfl (by decide) rfl ⟨rfl, by decide, by decide⟩ (fun w h Y => PySem.W.kIn_of Y) ?F (fun _ ns hl _ => ⟨ns, rfl, hl, fun _ => rfl⟩)
  case F =>
    intro w mg fa h KX G hmg
    refine' Z.all_mk KX G hmg ?a0 ?l0 ?c0 ?k0 ?a1 ?l1 ?c1 ?k1 ?a2 ?l2 ?c2 ?k2 ?a3 ?l3 ?c3 ?k3 ?a4 ?l4 ?c4 ?k4 ?a5 ?l5 ?c5 ?k5 ?a6 ?l6 ?c6 ?k6 ?a7 ?l7 ?c7 ?k7 ?a8 ?l8 ?c8 ?k8 ?a9 ?l9 ?c9 ?k9 ?a10 ?l10 ?c10 ?k10 ?a11 ?l11 ?c11 ?k11 ?a12 ?l12 ?c12 ?k12 ?a13 ?l13 ?c13 ?k13 ?a14 ?l14 ?c14 ?k14 ?z_enumerate ?z_range ?z_sorted ?z_tuple ?z_len ?z_isinstance ?z_int ?z_bool ?z_abs ?z_min ?z_zip ?z_repr ?y_MOST
    (case a0 => k_is); (case l0 => k_is); (case c0 => k_is); (case k0 => k_is); (case a1 => k_is); (case l1 => k_is); (case c1 => k_is); (case k1 => k_is); (case a2 => k_is); (case l2 => k_is); (case c2 => k_is); (case k2 => k_is); (case a3 => k_is); (case l3 => k_is); (case c3 => k_is); (case k3 => k_is); (case a4 => k_is); (case l4 => k_is); (case c4 => k_is); (case k4 => k_is); (case a5 => k_is); (case l5 => k_is); (case c5 => k_is); (case k5 => k_is); (case a6 => k_is); (case l6 => k_is); (case c6 => k_is); (case k6 => k_is); (case a7 => k_is); (case l7 => k_is); (case c7 => k_is); (case k7 => k_is); (case a8 => k_is); (case l8 => k_is); (case c8 => k_is); (case k8 => k_is); (case a9 => k_is); (case l9 => k_is); (case c9 => k_is); (case k9 => k_is); (case a10 => k_is); (case l10 => k_is); (case c10 => k_is); (case k10 => k_is); (case a11 => k_is); (case l11 => k_is); (case c11 => k_is); (case k11 => k_is); (case a12 => k_is); (case l12 => k_is); (case c12 => k_is); (case k12 => k_is); (case a13 => k_is); (case l13 => k_is); (case c13 => k_is); (case k13 => k_is); (case a14 => k_is); (case l14 => k_is); (case c14 => k_is); (case k14 => k_is); (case z_enumerate => k_is); (case z_range => k_is); (case z_sorted => k_is); (case z_tuple => k_is); (case z_len => k_is); (case z_isinstance => k_is); (case z_int => k_is); (case z_bool => k_is); (case z_abs => k_is); (case z_min => k_is); (case z_zip => k_is); (case z_repr => k_is); (case y_MOST => k_is)
