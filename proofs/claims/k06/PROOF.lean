import PyProof.Rows.All
import Wide.All
import OpenK.AllK
import Wide.FinOn
import HandS.ForMost
import HandS.ForExc
import HandS.Deep
import HandS.IsInst
import HandS.Wide
import HandS.WideBits
import HandS.Flow
import HandS.Defaults
import HandS.TupAny
import HandS.TupLe
import HandS.RaiseMore
import KE.KRevSl
import KE.DataEq
import KE.KeyNested
import HandS.Style
import KE.GoesMore
import HandS.SortRule
import HandS.SortInts
import HandS.ExcValue
import HandS.ExcOwn
import HandS.EndBits
import HandS.Head0
import HandS.Head1
import HandS.Head2
import HandS.HeadHook1
import HandS.HeadHook2
import KE.KStateDown
import Lean
import PySem.Challenge.RW_planesplits_k06_whole_gaps_and_distances
set_option Elab.async false
set_option linter.all false
set_option maxRecDepth 100000
set_option maxHeartbeats 3999000
namespace PV
open PySem L2

/-! ### keys of dicts -/
inductive TK where
  | int (i : Int) | str (x : Str) | tup (ks : List TK)
mutual
def TK.beq : TK → TK → Bool
  | .int i, .int j => decide (i = j)
  | .str x, .str y => decide (x = y)
  | .tup a, .tup b => TK.beqs a b
  | _, _ => false
def TK.beqs : List TK → List TK → Bool
  | [], [] => true
  | a :: r, b :: s => TK.beq a b && TK.beqs r s
  | _, _ => false
end
mutual
theorem TK.beq_iff : ∀ {a b : TK}, TK.beq a b = true ↔ a = b
  | .int i, .int j => by simp [TK.beq]
  | .str x, .str y => by simp [TK.beq]
  | .tup a, .tup b => by simp [TK.beq, TK.beqs_iff (a := a) (b := b)]
  | .int _, .str _ => by simp [TK.beq]
  | .int _, .tup _ => by simp [TK.beq]
  | .str _, .int _ => by simp [TK.beq]
  | .str _, .tup _ => by simp [TK.beq]
  | .tup _, .int _ => by simp [TK.beq]
  | .tup _, .str _ => by simp [TK.beq]
theorem TK.beqs_iff : ∀ {a b : List TK}, TK.beqs a b = true ↔ a = b
  | [], [] => by simp [TK.beqs]
  | [], _ :: _ => by simp [TK.beqs]
  | _ :: _, [] => by simp [TK.beqs]
  | a :: r, b :: s => by simp [TK.beqs, TK.beq_iff (a := a) (b := b), TK.beqs_iff (a := r) (b := s)]
end
instance : DecidableEq TK := fun a b => decidable_of_iff (TK.beq a b = true) TK.beq_iff
mutual
def TK.hash (w : World) : TK → Int
  | .int i => keyH w (.inl i)
  | .str x => keyH w (.inr x)
  | .tup ks => reduceHash (Builtin.Tuple.tupleHashOf (TK.hashes w ks))
def TK.hashes (w : World) : List TK → List Int
  | [] => []
  | k :: r => TK.hash w k :: TK.hashes w r
end
mutual
def TK.draws : TK → Nat
  | .int _ => 1
  | .str _ => 1
  | .tup ks => TK.drawsAll ks + 1
def TK.drawsAll : List TK → Nat
  | [] => 0
  | k :: r => TK.draws k + TK.drawsAll r
end
mutual
def TK.deep : TK → Nat
  | .tup ks => TK.deepAll ks + 1
  | _ => 0
def TK.deepAll : List TK → Nat
  | [] => 0
  | k :: r => max (TK.deep k) (TK.deepAll r)
end

/-! ### data, store, outcome -/
inductive D where
  | non | bl (b : Bool) | int (i : Int) | str (x : Str) | tup (ds : List D) | loc (n : Nat) | gl (x : Str) | ty (n : String) | fz (ds : List D)
inductive SO where
  | lst (ds : List D) | dk (kvs : List (Key × D)) | dd (kvs : List (TK × D)) | ins (cls : Str) (fs : List (Str × D))
abbrev Sto := List SO
structure Ex where
  cls : Str
  fs : List (Str × D)
inductive Out (α : Type) where
  | ok (a : α) (S : Sto) | exc (x : Ex) (S : Sto) | stk
def Out.bind {α β : Type} : Out α → (α → Sto → Out β) → Out β
  | .ok a S, k => k a S
  | .exc x S, _ => .exc x S
  | .stk, _ => .stk
@[simp] theorem bind_ok {α β : Type} {a : α} {S : Sto} {k : α → Sto → Out β} : (Out.ok a S).bind k = k a S := by exact rfl
@[simp] theorem bind_exc {α β : Type} {x : Ex} {S : Sto} {k : α → Sto → Out β} : (Out.exc x S : Out α).bind k = .exc x S := by exact rfl
@[simp] theorem bind_stk {α β : Type} {k : α → Sto → Out β} : (Out.stk : Out α).bind k = .stk := by exact rfl
abbrev Env := List (Option D)
abbrev FE := Env → Sto → Out D
abbrev FT := Env → Sto → Out Bool
abbrev FA := Env → Sto → Out (List D)
inductive Fl where
  | nx (e : Env) | rt (d : D) | bk (e : Env) | ct (e : Env)
abbrev FS := Env → Sto → Out Fl

/-! ### worlds -/
structure MW where
  mg : Str → Option Value
  w : World
abbrev _root_.L2.Cx.mw (X : Cx) : MW := ⟨X.mg, X.w⟩
mutual
def keyD : TK → D
  | .int i => .int i
  | .str x => .str x
  | .tup ks => .tup (keyDs ks)
def keyDs : List TK → List D
  | [] => []
  | k :: r => keyD k :: keyDs r
end
/-- a dict, as it lies -/
def DictO (a : Addr) (es : List DictEntry) : HO := .ext fun h => ∃ (o : Obj) (ea : Array DictEntry) (ep : Nat), h.get? a = some o ∧ o.ExactDict ∧ o.data = .dict ea ep ∧ ea.toList = es
def entT (w : World) (x : TK × Addr × Value) : DictEntry := ⟨TK.hash w x.1, .ref x.2.1, x.2.2⟩
structure Wd where
  rho : List Addr
  H : Hp
/-- a list that is never written: a known one, or one of the module's -/
def SqF (K : PySem.W.Frag) (H : Hp) (a : Addr) (xs : List V) : Prop := (∃ ob, H a = some (.frz ob (.lst xs))) ∨ SqL K (fun _ => none) a xs
theorem SqF.sq {K : PySem.W.Frag} {H : Hp} {a : Addr} {xs : List V} : SqF K H a xs → SqL K H a xs
  | .inl h => .inl (.inr h)
  | .inr (.inr h) => .inr h
  | .inr (.inl (.inl h)) => nomatch h
  | .inr (.inl (.inr ⟨_, h⟩)) => nomatch h
section
variable (K : PySem.W.Frag) (mw : MW)
mutual
inductive RD (o : Wd) : D → V → Prop
  | non : RD o .non .non
  | bl (b : Bool) : RD o (.bl b) (.bl b)
  | int (i : Int) : RD o (.int i) (.int i)
  | str (x : Str) : RD o (.str x) (.str x)
  | tup {a : Addr} {ds : List D} {vs : List V} : SqT K o.H a vs → RDs o ds vs → RD o (.tup ds) (.ref a)
  | loc {n : Nat} {a : Addr} : o.rho[n]? = some a → RD o (.loc n) (.ref a)
  | gl {x : Str} {a : Addr} : mw.mg x = some (.ref a) → RD o (.gl x) (.ref a)
  | ty (n : String) : RD o (.ty n) (.ty n)
  | fz {a : Addr} {ds : List D} {vs : List V} : SqF K o.H a vs → RDs o ds vs → RD o (.fz ds) (.ref a)
inductive RDs (o : Wd) : List D → List V → Prop
  | nil : RDs o [] []
  | cons {d : D} {ds : List D} {v : V} {vs : List V} : RD o d v → RDs o ds vs → RDs o (d :: ds) (v :: vs)
end
/-- the world grows: places stay, tuples stay, lists that are never written stay -/
structure LeV (o o' : Wd) : Prop where
  rho : ∀ (n : Nat) (a : Addr), o.rho[n]? = some a → o'.rho[n]? = some a
  tup : ∀ (a : Addr) (xs : List V), SqT K o.H a xs → SqT K o'.H a xs
  frz : ∀ (a : Addr) (ob : Obj) (xs : List V), o.H a = some (.frz ob (.lst xs)) → o'.H a = some (.frz ob (.lst xs))
/-- .. and what is no place of the store stays as it is -/
structure Le (o o' : Wd) : Prop extends LeV K o o' where
  rest : ∀ (a : Addr) (u : HO), a ∉ o.rho → o.H a = some u → o'.H a = some u ∧ a ∉ o'.rho
def RKs {κ : Type} (o : Wd) : List (κ × D) → List (κ × V) → Prop := Paired fun (p : κ × D) (q : κ × V) => p.1 = q.1 ∧ RD K mw o p.2 q.2
def RSO (o : Wd) (a : Addr) : SO → Prop
  | .lst ds => ∃ vs, o.H a = some (.lst vs) ∧ RDs K mw o ds vs
  | .dk kvs => ∃ ks, o.H a = some (.dK ks) ∧ RKs K mw o kvs ks
  | .dd kvs => ∃ xs : List (TK × Addr × Value), o.H a = some (DictO a (xs.map (entT mw.w))) ∧ kvs.length ≤ sizeLine ∧ (a == sysModules) = false ∧ (xs.map (·.1)).Nodup ∧
      Paired (fun (p : TK × D) (q : TK × Addr × Value) => p.1 = q.1 ∧ q.1.deep ≤ 8 ∧ RD K mw o (keyD q.1) (.ref q.2.1) ∧ ∃ v, RelV v q.2.2 ∧ RD K mw o p.2 v) kvs xs
  | .ins c fs => ∃ (C dx : Addr) (vs : List (Str × V)), mw.mg c = some (.ref C) ∧ o.H a = some (.ins C dx vs) ∧ RKs K mw o fs vs
structure RS (o : Wd) (S : Sto) : Prop where
  len : o.rho.length = S.length
  nd : o.rho.Nodup
  obj : ∀ (n : Nat) (x : SO), S[n]? = some x → ∃ a, o.rho[n]? = some a ∧ RSO K mw o a x
structure RE (o : Wd) (env : Env) (σ : St) : Prop where
  len : env.length = σ.length
  val : ∀ (i : Nat) (d : D), env[i]? = some (some d) → ∃ v, σ[i]? = some (some v) ∧ RD K mw o d v
end

section
variable {K : PySem.W.Frag} {mw : MW} {o o' o1 o2 : Wd}
theorem Le.refl : Le K o o := ⟨⟨fun _ _ h => h, fun _ _ h => h, fun _ _ _ h => h⟩, fun _ _ h e => ⟨e, h⟩⟩
theorem LeV.trans (a : LeV K o o1) (b : LeV K o1 o2) : LeV K o o2 := ⟨fun n x h => b.rho n x (a.rho n x h), fun x xs h => b.tup x xs (a.tup x xs h), fun x ob xs h => b.frz x ob xs (a.frz x ob xs h)⟩
theorem Le.trans (a : Le K o o1) (b : Le K o1 o2) : Le K o o2 := ⟨a.toLeV.trans b.toLeV, fun x u h e => let ⟨e1, h1⟩ := a.rest x u h e; b.rest x u h1 e1⟩
theorem LeV.fz (l : LeV K o o') {a : Addr} {xs : List V} (h : SqF K o.H a xs) : SqF K o'.H a xs := by
  rcases h with ⟨ob, h⟩ | h
  · exact .inl ⟨ob, l.frz a ob xs h⟩
  · exact .inr h
mutual
theorem RD.upV (l : LeV K o o') : ∀ {d : D} {v : V}, RD K mw o d v → RD K mw o' d v
  | _, _, .non => .non
  | _, _, .bl b => .bl b
  | _, _, .int i => .int i
  | _, _, .str x => .str x
  | _, _, .tup h r => .tup (l.tup _ _ h) (RDs.upV l r)
  | _, _, .loc h => .loc (l.rho _ _ h)
  | _, _, .gl h => .gl h
  | _, _, .ty n => .ty n
  | _, _, .fz h r => .fz (l.fz h) (RDs.upV l r)
theorem RDs.upV (l : LeV K o o') : ∀ {ds : List D} {vs : List V}, RDs K mw o ds vs → RDs K mw o' ds vs
  | _, _, .nil => .nil
  | _, _, .cons h r => .cons (RD.upV l h) (RDs.upV l r)
end
theorem RD.up (l : Le K o o') {d : D} {v : V} (h : RD K mw o d v) : RD K mw o' d v := h.upV l.toLeV
theorem RDs.up (l : Le K o o') {ds : List D} {vs : List V} (h : RDs K mw o ds vs) : RDs K mw o' ds vs := h.upV l.toLeV
theorem RDs.length : ∀ {ds : List D} {vs : List V}, RDs K mw o ds vs → ds.length = vs.length
  | _, _, .nil => rfl
  | _, _, .cons _ r => by rw [List.length_cons, List.length_cons, RDs.length r]
theorem RDs.get {ds : List D} {vs : List V} {i : Nat} {d : D} (h : RDs K mw o ds vs) (e : ds[i]? = some d) : ∃ v, vs[i]? = some v ∧ RD K mw o d v := by
  induction i generalizing ds vs with
  | zero =>
    cases h with
    | nil => cases e
    | cons r t => cases e; exact ⟨_, rfl, r⟩
  | succ n ih =>
    cases h with
    | nil => cases e
    | cons r t => exact ih t e
theorem RDs.get' {ds : List D} {vs : List V} {i : Nat} {v : V} (h : RDs K mw o ds vs) (e : vs[i]? = some v) : ∃ d, ds[i]? = some d ∧ RD K mw o d v := by
  induction i generalizing ds vs with
  | zero =>
    cases h with
    | nil => cases e
    | cons r t => cases e; exact ⟨_, rfl, r⟩
  | succ n ih =>
    cases h with
    | nil => cases e
    | cons r t => exact ih t e
theorem RDs.append : ∀ {ds es : List D} {vs ws : List V}, RDs K mw o ds vs → RDs K mw o es ws → RDs K mw o (ds ++ es) (vs ++ ws)
  | _, _, _, _, .nil, s => s
  | _, _, _, _, .cons r t, s => .cons r (RDs.append t s)
theorem RDs.take : ∀ {ds : List D} {vs : List V} (n : Nat), RDs K mw o ds vs → RDs K mw o (ds.take n) (vs.take n)
  | _, _, 0, _ => .nil
  | _, _, _ + 1, .nil => .nil
  | _, _, n + 1, .cons r t => .cons r (RDs.take n t)
theorem RDs.drop : ∀ {ds : List D} {vs : List V} (n : Nat), RDs K mw o ds vs → RDs K mw o (ds.drop n) (vs.drop n)
  | _, _, 0, r => r
  | _, _, _ + 1, .nil => .nil
  | _, _, n + 1, .cons _ t => RDs.drop n t
theorem RDs.set {d : D} {v : V} (r : RD K mw o d v) : ∀ {ds : List D} {vs : List V} (i : Nat), RDs K mw o ds vs → RDs K mw o (ds.set i d) (vs.set i v)
  | _, _, _, .nil => .nil
  | _, _, i + 1, .cons q t => .cons q (RDs.set r i t)
  | _, _, 0, .cons _ t => .cons r t
theorem RDs.eraseIdx : ∀ {ds : List D} {vs : List V} (i : Nat), RDs K mw o ds vs → RDs K mw o (ds.eraseIdx i) (vs.eraseIdx i)
  | _, _, _, .nil => by simp; exact .nil
  | _, _, 0, .cons _ t => t
  | _, _, i + 1, .cons q t => .cons q (RDs.eraseIdx i t)
theorem RDs.reverse {ds : List D} {vs : List V} (h : RDs K mw o ds vs) : RDs K mw o ds.reverse vs.reverse := by
  induction ds generalizing vs with
  | nil => cases h; exact .nil
  | cons d ds ih =>
    cases h with
    | cons r t => simpa using (ih t).append (.cons r .nil)
theorem RDs.rep {ds : List D} {vs : List V} (h : RDs K mw o ds vs) : ∀ k : Nat, RDs K mw o (List.replicate k ds).flatten (List.replicate k vs).flatten
  | 0 => .nil
  | k + 1 => by rw [List.replicate_succ, List.replicate_succ, List.flatten_cons, List.flatten_cons]; exact h.append (RDs.rep h k)
theorem RKs.upV {κ : Type} (l : LeV K o o') : ∀ {ds : List (κ × D)} {vs : List (κ × V)}, RKs K mw o ds vs → RKs K mw o' ds vs
  | _, _, .nil => .nil
  | _, _, .cons h r => .cons ⟨h.1, h.2.upV l⟩ (RKs.upV l r)
theorem RE.upV (l : LeV K o o') {env : Env} {σ : St} (r : RE K mw o env σ) : RE K mw o' env σ := ⟨r.len, fun i d h => let ⟨v, a, b⟩ := r.val i d h; ⟨v, a, b.upV l⟩⟩
theorem RE.up (l : Le K o o') {env : Env} {σ : St} (r : RE K mw o env σ) : RE K mw o' env σ := r.upV l.toLeV
theorem RE.set {env : Env} {σ : St} {d : D} {v : V} (r : RE K mw o env σ) (i : Nat) (h : RD K mw o d v) : RE K mw o (env.set i (some d)) (σ.set i (some v)) := by
  refine ⟨by simp [r.len], fun j e hj => ?_⟩
  by_cases hij : i = j
  · subst hij
    by_cases hl : i < env.length
    · rw [List.getElem?_set_self hl] at hj
      cases hj
      exact ⟨v, List.getElem?_set_self (by rw [← r.len]; exact hl), h⟩
    · rw [List.getElem?_eq_none (by simpa using hl)] at hj
      cases hj
  · rw [List.getElem?_set_ne hij] at hj ⊢
    exact r.val j e hj
/-- a store's object, its place is tracked -/
theorem RSO.some {a : Addr} {x : SO} (h : RSO K mw o a x) : ∃ u, o.H a = some u := by
  cases x with
  | lst ds => obtain ⟨vs, e, _⟩ := h; exact ⟨_, e⟩
  | dk kvs => obtain ⟨ks, e, _⟩ := h; exact ⟨_, e⟩
  | dd kvs => obtain ⟨ks, e, _⟩ := h; exact ⟨_, e⟩
  | ins c fs => obtain ⟨C, dx, vs, _, e, _⟩ := h; exact ⟨_, e⟩
theorem RSO.upV {a : Addr} {x : SO} (l : LeV K o o') (e : o'.H a = o.H a) (h : RSO K mw o a x) : RSO K mw o' a x := by
  cases x with
  | lst ds => obtain ⟨vs, q, r⟩ := h; exact ⟨vs, e.trans q, r.upV l⟩
  | dk kvs => obtain ⟨vs, q, r⟩ := h; exact ⟨vs, e.trans q, r.upV l⟩
  | dd kvs => obtain ⟨xs, q, h1, h2, h3, r⟩ := h; exact ⟨xs, e.trans q, h1, h2, h3, Paired.mapP r fun p q ⟨a, b, c, v, d, f⟩ => ⟨a, b, c.upV l, v, d, f.upV l⟩⟩
  | ins c fs => obtain ⟨C, dx, vs, q0, q, r⟩ := h; exact ⟨C, dx, vs, q0, e.trans q, r.upV l⟩
theorem RSO.up {a : Addr} {x : SO} (l : Le K o o') (e : o'.H a = o.H a) (h : RSO K mw o a x) : RSO K mw o' a x := h.upV l.toLeV e
theorem RS.fresh {S : Sto} {p : Addr} (r : RS K mw o S) (h : o.H p = none) : p ∉ o.rho := fun hm => by
  obtain ⟨n, hn, e⟩ := List.getElem_of_mem hm
  have hn' : n < S.length := by rw [← r.len]; exact hn
  obtain ⟨a, ea, q⟩ := r.obj n S[n] (List.getElem?_eq_getElem hn')
  rw [List.getElem?_eq_getElem hn, e] at ea
  cases ea
  obtain ⟨u, hu⟩ := q.some
  rw [h] at hu
  cases hu
theorem sqT_upd {H : Hp} {p a : Addr} {u : HO} {xs : List V} (h : ¬ ∃ ys, H p = some (.tup ys)) (h2 : ¬ ∃ ob ys, H p = some (.frz ob (.tup ys))) (q : SqT K H a xs) : SqT K (upd H p u) a xs := by
  rcases q with q | q
  · by_cases e : a = p
    · subst e
      rcases q with q | ⟨ob, q⟩
      · exact absurd ⟨_, q⟩ h
      · exact absurd ⟨_, _, q⟩ h2
    · rcases q with q | ⟨ob, q⟩
      · exact .inl (.inl (by rw [upd_ne e]; exact q))
      · exact .inl (.inr ⟨ob, by rw [upd_ne e]; exact q⟩)
  · exact .inr q
/-- a new object that is no place of the store (a tuple) -/
theorem Le.new {p : Addr} {u : HO} (h : o.H p = none) : Le K o ⟨o.rho, upd o.H p u⟩ :=
  ⟨⟨fun _ _ e => e, fun a xs q => sqT_upd (fun ⟨_, e⟩ => by rw [h] at e; cases e) (fun ⟨_, _, e⟩ => by rw [h] at e; cases e) q, fun a ob xs e => (upd_ne (ne_of_none e h)).trans e⟩, fun a u hm e => ⟨(upd_ne (ne_of_none e h)).trans e, hm⟩⟩
theorem RS.new {S : Sto} {p : Addr} {u : HO} (r : RS K mw o S) (h : o.H p = none) : RS K mw ⟨o.rho, upd o.H p u⟩ S := by
  refine ⟨r.len, r.nd, fun n x e => ?_⟩
  obtain ⟨a, ea, q⟩ := r.obj n x e
  obtain ⟨w, hw⟩ := q.some
  exact ⟨a, ea, q.up (Le.new h) (upd_ne (ne_of_none hw h))⟩
/-- a new place -/
theorem Le.alloc {p : Addr} {u : HO} (h : o.H p = none) : Le K o ⟨o.rho ++ [p], upd o.H p u⟩ :=
  ⟨⟨fun n a e => by
    have hn := (List.getElem?_eq_some_iff.mp e).1
    show (o.rho ++ [p])[n]? = some a
    rw [List.getElem?_append_left hn]; exact e, (Le.new (u := u) h).tup, (Le.new (K := K) (u := u) h).frz⟩, fun a w hm e => ⟨(upd_ne (ne_of_none e h)).trans e, fun z => by
      rcases List.mem_append.mp z with z | z
      · exact hm z
      · exact ne_of_none e h (by simpa using z)⟩⟩
theorem RS.alloc {S : Sto} {p : Addr} {u : HO} {x : SO} (r : RS K mw o S) (h : o.H p = none) (q : RSO K mw ⟨o.rho ++ [p], upd o.H p u⟩ p x) : RS K mw ⟨o.rho ++ [p], upd o.H p u⟩ (S ++ [x]) := by
  refine ⟨by simp [r.len], ?_, fun n y e => ?_⟩
  · refine List.nodup_append.mpr ⟨r.nd, by simp, fun a ha b hb => ?_⟩
    have e : b = p := by simpa using hb
    subst e
    intro e2
    subst e2
    exact r.fresh h ha
  · by_cases hn : n < S.length
    · rw [List.getElem?_append_left hn] at e
      obtain ⟨a, ea, q2⟩ := r.obj n y e
      obtain ⟨w, hw⟩ := q2.some
      exact ⟨a, (Le.alloc (K := K) (u := u) h).rho n a ea, q2.up (Le.alloc h) (upd_ne (ne_of_none hw h))⟩
    · have hl : n < (S ++ [x]).length := (List.getElem?_eq_some_iff.mp e).1
      have en : n = S.length := by simp at hl; omega
      subst en
      simp at e
      subst e
      exact ⟨p, by show (o.rho ++ [p])[S.length]? = some p; rw [← r.len]; simp, q⟩
theorem alloc_loc {p : Addr} {u : HO} {S : Sto} (r : RS K mw o S) : RD K mw ⟨o.rho ++ [p], upd o.H p u⟩ (.loc S.length) (.ref p) :=
  .loc (by show (o.rho ++ [p])[S.length]? = some p; rw [← r.len]; simp)
/-- a place written -/
theorem LeV.write {a : Addr} {u w : HO} (h : o.H a = some w) (hw : ∀ ys, w ≠ .tup ys) (hw2 : ∀ ob y, w ≠ .frz ob y) : LeV K o ⟨o.rho, upd o.H a u⟩ :=
  ⟨fun _ _ e => e, fun b xs q => sqT_upd (fun ⟨_, e⟩ => by rw [h] at e; cases e; exact hw _ rfl) (fun ⟨_, _, e⟩ => by rw [h] at e; cases e; exact hw2 _ _ rfl) q,
    fun b ob xs e => (upd_ne (fun z => by subst z; rw [h] at e; cases e; exact hw2 _ _ rfl)).trans e⟩
theorem Le.write {n : Nat} {a : Addr} {u w : HO} (hn : o.rho[n]? = some a) (h : o.H a = some w) (hw : ∀ ys, w ≠ .tup ys) (hw2 : ∀ ob y, w ≠ .frz ob y) : Le K o ⟨o.rho, upd o.H a u⟩ :=
  ⟨LeV.write h hw hw2, fun b v hm e => ⟨(upd_ne (fun z => hm (by rw [z]; exact List.mem_of_getElem? hn))).trans e, hm⟩⟩
theorem RS.write {S : Sto} {n : Nat} {a : Addr} {u w : HO} {x : SO} (r : RS K mw o S) (hn : o.rho[n]? = some a) (h : o.H a = some w) (hw : ∀ ys, w ≠ .tup ys) (hw2 : ∀ ob y, w ≠ .frz ob y)
    (q : RSO K mw ⟨o.rho, upd o.H a u⟩ a x) : RS K mw ⟨o.rho, upd o.H a u⟩ (S.set n x) := by
  refine ⟨by simp [r.len], r.nd, fun m y e => ?_⟩
  by_cases hm : n = m
  · subst hm
    have hl : n < S.length := by
      have := (List.getElem?_eq_some_iff.mp e).1
      simpa using this
    rw [List.getElem?_set_self hl] at e
    cases e
    exact ⟨a, hn, q⟩
  · rw [List.getElem?_set_ne hm] at e
    obtain ⟨b, eb, q2⟩ := r.obj m y e
    have hba : b ≠ a := fun z => by
      subst z
      obtain ⟨h1, e1⟩ := List.getElem?_eq_some_iff.mp hn
      obtain ⟨h2, e2⟩ := List.getElem?_eq_some_iff.mp eb
      exact hm ((List.getElem_inj r.nd).mp (e1.trans e2.symm))
    exact ⟨b, eb, q2.upV (LeV.write h hw hw2) (upd_ne hba)⟩
/-- an object that is no place of the store changes -/
theorem RS.other {S : Sto} {a : Addr} {u w : HO} (r : RS K mw o S) (hn : a ∉ o.rho) (h : o.H a = some w) (hw : ∀ ys, w ≠ .tup ys) (hw2 : ∀ ob y, w ≠ .frz ob y) : RS K mw ⟨o.rho, upd o.H a u⟩ S := by
  refine ⟨r.len, r.nd, fun n x e => ?_⟩
  obtain ⟨b, eb, q⟩ := r.obj n x e
  exact ⟨b, eb, q.upV (LeV.write h hw hw2) (upd_ne fun z => hn (by rw [← z]; exact List.mem_of_getElem? eb))⟩
theorem Le.other {a : Addr} {u w : HO} (l : Le K o o') (h0 : o.H a = none) (h : o'.H a = some w) (hw : ∀ ys, w ≠ .tup ys) (hw2 : ∀ ob y, w ≠ .frz ob y) : Le K o ⟨o'.rho, upd o'.H a u⟩ :=
  ⟨l.toLeV.trans (LeV.write h hw hw2), fun b v hm e => let ⟨e1, h1⟩ := l.rest b v hm e; ⟨(upd_ne (ne_of_none e h0)).trans e1, h1⟩⟩
end

/-! ### what is wanted behind an outcome -/
/-- an exception lies so: its class, its dict -/
def RX (K : PySem.W.Frag) (mw : MW) (o : Wd) (x : Ex) (c : Value) (od : Option Addr) : Prop :=
  ∃ C d fs, c = .ref C ∧ mw.mg x.cls = some (.ref C) ∧ od = some d ∧ o.H d = some (.xd fs) ∧ RKs K mw o x.fs fs
section
variable (K : PySem.W.Frag) (mw : MW)
def Post {α : Type} (Wx : Ex → Wd → Prop) (R : α → Sto → Wd → Prop) (o : Wd) : Out α → Prop
  | .ok a S => ∀ o', Le K o o' → RS K mw o' S → R a S o'
  | .exc x S => ∀ o', Le K o o' → RS K mw o' S → Wx x o'
  | .stk => False
/-- the wish about exceptions, of the layer's form -/
def wx (W : WX) (σ : St) : Ex → Wd → Prop := fun x o => ∀ c od, RX K mw o x c od → W c od σ o.H
def PostV (W : WX) (σ : St) (Q : VK) (o : Wd) (r : Out D) : Prop := Post K mw (wx K mw W σ) (fun d _ o' => ∀ v, RD K mw o' d v → Q v o'.H) o r
def PostB (W : WX) (σ : St) (Q : Bool → Hp → Prop) (o : Wd) (r : Out Bool) : Prop := Post K mw (wx K mw W σ) (fun b _ o' => Q b o'.H) o r
def PostA (W : WX) (σ : St) (Q : List V → Hp → Prop) (o : Wd) (r : Out (List D)) : Prop := Post K mw (wx K mw W σ) (fun ds _ o' => ∀ vs, RDs K mw o' ds vs → Q vs o'.H) o r
/-- a state and what stands for it -/
def At (env : Env) (S : Sto) (o : Wd) (σ : St) (H : Hp) : Prop := o.H = H ∧ RE K mw o env σ ∧ RS K mw o S
def tE (W : WX) (f : FE) : TE := fun σ H Q => ∃ env S o, At K mw env S o σ H ∧ PostV K mw W σ Q o (f env S)
def tT (W : WX) (f : FT) : TT := fun σ H Q => ∃ env S o, At K mw env S o σ H ∧ PostB K mw W σ Q o (f env S)
def tA (W : WX) (f : FA) : TA := fun σ H Q => ∃ env S o, At K mw env S o σ H ∧ PostA K mw W σ Q o (f env S)
end
section
variable {K : PySem.W.Frag} {mw : MW}
theorem Post.bind {α β : Type} {Wx : Ex → Wd → Prop} {R : β → Sto → Wd → Prop} {o : Wd} {r : Out α} {k : α → Sto → Out β} (h : Post K mw Wx R o (r.bind k)) :
    Post K mw Wx (fun a S o' => Post K mw Wx R o' (k a S)) o r := by
  cases r with
  | ok a S =>
    intro o' l rs
    have h : Post K mw Wx R o (k a S) := h
    show Post K mw Wx R o' (k a S)
    revert h
    cases k a S with
    | ok b S2 => exact fun h o2 l2 r2 => h o2 (l.trans l2) r2
    | exc x S2 => exact fun h o2 l2 r2 => h o2 (l.trans l2) r2
    | stk => exact fun h => h
  | exc x S => exact h
  | stk => exact h
theorem Post.imp {α : Type} {Wx : Ex → Wd → Prop} {R R' : α → Sto → Wd → Prop} {o : Wd} {r : Out α} (h : Post K mw Wx R o r) (f : ∀ a S o', Le K o o' → RS K mw o' S → R a S o' → R' a S o') : Post K mw Wx R' o r := by
  cases r with
  | ok a S => exact fun o' l rs => f a S o' l rs (h o' l rs)
  | exc x S => exact h
  | stk => exact h
theorem Post.here {α : Type} {Wx : Ex → Wd → Prop} {R : α → Sto → Wd → Prop} {o : Wd} {a : α} {S : Sto} (h : Post K mw Wx R o (.ok a S)) (r : RS K mw o S) : R a S o := h o .refl r
theorem PE.imp {X : Cx} {e : Expr} {t t' : TE} (h : PE X e t) (f : ∀ σ H Q, t' σ H Q → t σ H Q) : PE X e t' := ⟨fun pins s σ H Q I q => h.run pins s σ H Q I (f σ H Q q)⟩
theorem PT.imp {X : Cx} {e : Expr} {t t' : TT} (h : PT X e t) (f : ∀ σ H Q, t' σ H Q → t σ H Q) : PT X e t' := ⟨fun pins s σ H Q I q => h.run pins s σ H Q I (f σ H Q q)⟩
theorem PA.imp {X : Cx} {e : List Expr} {t t' : TA} (h : PA X e t) (f : ∀ σ H Q, t' σ H Q → t σ H Q) : PA X e t' := ⟨fun pos pins s σ H Q I q => h.run pos pins s σ H Q I (f σ H Q q)⟩
end
end PV

set_option Elab.async false
set_option linter.all false
set_option maxRecDepth 100000
set_option maxHeartbeats 3999000
namespace PV
open L2 PyProof.Rows PySem PySem.Spec

/-! ### primitives: what they give -/
abbrev PR := Option (D × Sto)
def lift : PR → Out D
  | some (d, S) => .ok d S
  | none => .stk
@[simp] theorem lift_some {d : D} {S : Sto} : lift (some (d, S)) = .ok d S := by exact rfl
@[simp] theorem lift_none : lift none = .stk := by exact rfl
def lstAt (S : Sto) (n : Nat) : Option (List D) :=
  match S[n]? with
  | some (.lst ds) => some ds
  | _ => none
/-- a list -/
def lisOf (S : Sto) : D → Option (List D)
  | .loc n => lstAt S n
  | .fz ds => some ds
  | _ => none
/-- a list or a tuple -/
def seqOf (S : Sto) : D → Option (List D)
  | .tup ds => some ds
  | .loc n => lstAt S n
  | .fz ds => some ds
  | _ => none
def newL (ds : List D) (S : Sto) : PR := if ds.length ≤ sizeLine then some (.loc S.length, S ++ [.lst ds]) else none

section
variable {K : PySem.W.Frag} {mw : MW}
theorem lift_post {Wx : Ex → Wd → Prop} {R : D → Sto → Wd → Prop} {o : Wd} {r : PR} (h : Post K mw Wx R o (lift r)) : ∃ d S', r = some (d, S') ∧ ∀ o', Le K o o' → RS K mw o' S' → R d S' o' := by
  cases r with
  | none => exact False.elim h
  | some p => exact ⟨p.1, p.2, rfl, h⟩
theorem RS.lst {o : Wd} {S : Sto} {n : Nat} {a : Addr} {ds : List D} (r : RS K mw o S) (hn : o.rho[n]? = some a) (h : lstAt S n = some ds) : ∃ vs, o.H a = some (.lst vs) ∧ RDs K mw o ds vs := by
  unfold lstAt at h
  cases e : S[n]? with
  | none => rw [e] at h; cases h
  | some x =>
    rw [e] at h
    obtain ⟨b, eb, q⟩ := r.obj n x e
    rw [hn] at eb
    cases eb
    cases x with
    | lst es => cases h; obtain ⟨vs, q1, q2⟩ := q; exact ⟨vs, q1, q2⟩
    | _ => cases h
theorem RD.seq {o : Wd} {S : Sto} {d : D} {v : V} {ds : List D} (r : RS K mw o S) (h : RD K mw o d v) (hs : seqOf S d = some ds) : ∃ a vs, v = .ref a ∧ RDs K mw o ds vs ∧ (SqL K o.H a vs ∨ SqT K o.H a vs) := by
  cases h with
  | tup q p => cases hs; exact ⟨_, _, rfl, p, .inr q⟩
  | loc e =>
    obtain ⟨vs, q, p⟩ := r.lst e hs
    exact ⟨_, vs, rfl, p, .inl (SqL.of q)⟩
  | fz q p => cases hs; exact ⟨_, _, rfl, p, .inl q.sq⟩
  | _ => cases hs
theorem RD.lis {o : Wd} {S : Sto} {d : D} {v : V} {ds : List D} (r : RS K mw o S) (h : RD K mw o d v) (hs : lisOf S d = some ds) : ∃ a vs, v = .ref a ∧ RDs K mw o ds vs ∧ SqL K o.H a vs := by
  cases h with
  | loc e =>
    obtain ⟨vs, q, p⟩ := r.lst e hs
    exact ⟨_, vs, rfl, p, SqL.of q⟩
  | fz q p => cases hs; exact ⟨_, _, rfl, p, q.sq⟩
  | _ => cases hs
theorem RS.wr {o : Wd} {S : Sto} {n : Nat} {ds : List D} (r : RS K mw o S) (h : S[n]? = some (.lst ds)) : ∃ a vs, o.rho[n]? = some a ∧ o.H a = some (.lst vs) ∧ RDs K mw o ds vs := by
  obtain ⟨a, ea, vs, q1, q2⟩ := r.obj n _ h
  exact ⟨a, vs, ea, q1, q2⟩
theorem RS.putL {o : Wd} {S : Sto} {n : Nat} {a : Addr} {vs ws : List V} {es : List D} (r : RS K mw o S) (hn : o.rho[n]? = some a) (h : o.H a = some (.lst vs)) (q : RDs K mw o es ws) :
    Le K o ⟨o.rho, upd o.H a (.lst ws)⟩ ∧ RS K mw ⟨o.rho, upd o.H a (.lst ws)⟩ (S.set n (.lst es)) := by
  have l : Le K o ⟨o.rho, upd o.H a (.lst ws)⟩ := Le.write hn h (fun _ z => nomatch z) (fun _ _ z => nomatch z)
  exact ⟨l, r.write hn h (fun _ z => nomatch z) (fun _ _ z => nomatch z) ⟨ws, upd_same, q.up l⟩⟩
theorem RS.newLst {o : Wd} {S : Sto} {p : Addr} {vs : List V} {ds : List D} (r : RS K mw o S) (h : o.H p = none) (q : RDs K mw o ds vs) :
    Le K o ⟨o.rho ++ [p], upd o.H p (.lst vs)⟩ ∧ RS K mw ⟨o.rho ++ [p], upd o.H p (.lst vs)⟩ (S ++ [.lst ds]) ∧ RD K mw ⟨o.rho ++ [p], upd o.H p (.lst vs)⟩ (.loc S.length) (.ref p) := by
  have l : Le K o ⟨o.rho ++ [p], upd o.H p (.lst vs)⟩ := Le.alloc h
  exact ⟨l, r.alloc h ⟨vs, upd_same, q.up l⟩, alloc_loc r⟩
theorem RS.newTup {o : Wd} {S : Sto} {p : Addr} {vs : List V} {ds : List D} (r : RS K mw o S) (h : o.H p = none) (q : RDs K mw o ds vs) :
    Le K o ⟨o.rho, upd o.H p (.tup vs)⟩ ∧ RS K mw ⟨o.rho, upd o.H p (.tup vs)⟩ S ∧ RD K mw ⟨o.rho, upd o.H p (.tup vs)⟩ (.tup ds) (.ref p) := by
  have l : Le K o ⟨o.rho, upd o.H p (.tup vs)⟩ := Le.new h
  exact ⟨l, r.new h, .tup (SqT.of upd_same) (q.up l)⟩
end

/-! ### judgements over values -/
def rDD (K : PySem.W.Frag) (mw : MW) (g : D → D → Sto → PR) : R2 := fun x y H Q =>
  ∃ o d1 d2 S d S', o.H = H ∧ RD K mw o d1 x ∧ RD K mw o d2 y ∧ RS K mw o S ∧ g d1 d2 S = some (d, S') ∧ ∀ o' v, Le K o o' → RS K mw o' S' → RD K mw o' d v → Q v o'.H
def OpD (X : Cx) (f : Value → Value → Sem Value) (g : D → D → Sto → PR) : Prop := OpR X f (rDD X.K X.mw g)
def rD1 (K : PySem.W.Frag) (mw : MW) (g : D → Sto → PR) : V → Hp → VK → Prop := fun x H Q =>
  ∃ o d1 S d S', o.H = H ∧ RD K mw o d1 x ∧ RS K mw o S ∧ g d1 S = some (d, S') ∧ ∀ o' v, Le K o o' → RS K mw o' S' → RD K mw o' d v → Q v o'.H
def UnD (X : Cx) (f : Value → Sem Value) (g : D → Sto → PR) : Prop := UnR X f (rD1 X.K X.mw g)
def rDL (K : PySem.W.Frag) (mw : MW) (g : List D → Sto → PR) : List V → Hp → VK → Prop := fun xs H Q =>
  ∃ o ds S d S', o.H = H ∧ RDs K mw o ds xs ∧ RS K mw o S ∧ g ds S = some (d, S') ∧ ∀ o' v, Le K o o' → RS K mw o' S' → RD K mw o' d v → Q v o'.H
def CallD (X : Cx) (f : Value) (g : List D → Sto → PR) : Prop := CallR X f (rDL X.K X.mw g)

/-! ### expressions: combinators -/
def eVar (i : Nat) : FE := fun env S => match env[i]? with
  | some (some d) => .ok d S
  | _ => .stk
def eC (d : D) : FE := fun _ S => .ok d S
def eBin (g : D → D → Sto → PR) (fa fb : FE) : FE := fun env S => (fa env S).bind fun d1 S1 => (fb env S1).bind fun d2 S2 => lift (g d1 d2 S2)
def eUn (g : D → Sto → PR) (fa : FE) : FE := fun env S => (fa env S).bind fun d1 S1 => lift (g d1 S1)
def aNil : FA := fun _ S => .ok [] S
def aCons (fe : FE) (fr : FA) : FA := fun env S => (fe env S).bind fun d S1 => (fr env S1).bind fun ds S2 => .ok (d :: ds) S2
def eTup (fa : FA) : FE := fun env S => (fa env S).bind fun ds S1 => .ok (.tup ds) S1
def eLst (fa : FA) : FE := fun env S => (fa env S).bind fun ds S1 => .ok (.loc S1.length) (S1 ++ [.lst ds])
def eCB (g : List D → Sto → PR) (fa : FA) : FE := fun env S => (fa env S).bind fun ds S1 => lift (g ds S1)
def eIfx (t : FT) (fa fb : FE) : FE := fun env S => (t env S).bind fun b S1 => if b = true then fa env S1 else fb env S1
/-- truth -/
def truD (d : D) (S : Sto) : Option Bool := match d with
  | .non => some false
  | .bl b => some b
  | .int i => some (i != 0)
  | .str x => if x.length ≤ sizeLine then some (x.length != 0) else none
  | .tup ds => some (!ds.isEmpty)
  | .loc n => (match S[n]? with
    | some (.lst ds) => some (!ds.isEmpty)
    | some (.dk kvs) => some (!kvs.isEmpty)
    | _ => none)
  | .fz ds => some (!ds.isEmpty)
  | _ => none
def tVal (fe : FE) : FT := fun env S => (fe env S).bind fun d S1 => match truD d S1 with
  | some b => .ok b S1
  | none => .stk
def tNotF (t : FT) : FT := fun env S => (t env S).bind fun b S1 => .ok (!b) S1
def tAndF (t u : FT) : FT := fun env S => (t env S).bind fun b S1 => if b = true then u env S1 else .ok false S1
def tOrF (t u : FT) : FT := fun env S => (t env S).bind fun b S1 => if b = true then .ok true S1 else u env S1
def eAnd (fa fb : FE) : FE := fun env S => (fa env S).bind fun d S1 => match truD d S1 with
  | some true => fb env S1
  | some false => .ok d S1
  | none => .stk
def eOr (fa fb : FE) : FE := fun env S => (fa env S).bind fun d S1 => match truD d S1 with
  | some true => .ok d S1
  | some false => fb env S1
  | none => .stk
def eNot (fa : FE) : FE := fun env S => (fa env S).bind fun d S1 => match truD d S1 with
  | some b => .ok (.bl (!b)) S1
  | none => .stk
def tB' (fe : FE) : FT := fun env S => (fe env S).bind fun d S1 => match d with
  | .bl b => .ok b S1
  | _ => .stk
/-- a < b < c -/
def eCh (g g' : D → D → Sto → PR) (fa fb fc : FE) : FE := fun env S => (fa env S).bind fun d1 S1 => (fb env S1).bind fun d2 S2 => (lift (g d1 d2 S2)).bind fun z S3 => match z with
  | .bl true => (fc env S3).bind fun d3 S4 => lift (g' d2 d3 S4)
  | .bl false => .ok (.bl false) S3
  | _ => .stk

section
variable {X : Cx} {W : WX} {a b c : Expr} {es : List Expr} {fa fb fc : FE} {fr : FA} {pos : Pos} {ft fu : FT}
end
end PV

set_option Elab.async false
set_option linter.all false
set_option maxRecDepth 100000
set_option maxHeartbeats 3999000
namespace PV
open L2 PyProof.Rows PySem PySem.Spec

section
variable {X : Cx} {W : WX} {a b c : Expr} {es : List Expr} {fa fb fc : FE} {fr : FA} {pos : Pos} {ft fu : FT}

theorem truV_of {o : Wd} {S : Sto} {d : D} {v : V} {k : Bool} {K : PySem.W.Frag} {mw : MW} (r : RS K mw o S) (h : RD K mw o d v) (e : truD d S = some k) : TruV K v o.H k := by
  cases h with
  | non => cases e; rfl
  | bl b => cases e; rfl
  | int i => cases e; rfl
  | str x =>
    unfold truD at e
    dsimp only at e
    split at e
    · rename_i hl
      refine ⟨hl, ?_⟩
      have := Option.some.inj e
      rw [← this]
      cases hx : x.length with
      | zero => rfl
      | succ n =>
        have h1 : ((n + 1 : Nat) != 0) = true := by simp
        have h2 : (((n + 1 : Nat) : Int) != 0) = true := by simp; omega
        rw [h1, h2]
    · cases e
  | @tup a ds vs q p =>
    refine .inr (.inl ⟨vs, q, ?_⟩)
    have := Option.some.inj e
    rw [← this]
    cases p <;> rfl
  | @loc n a q =>
    unfold truD at e
    dsimp only at e
    cases hn : S[n]? with
    | none => rw [hn] at e; cases e
    | some y =>
      rw [hn] at e
      obtain ⟨b, eb, z⟩ := r.obj n y hn
      rw [q] at eb; cases eb
      cases y with
      | lst ds =>
        obtain ⟨vs, h1, h2⟩ := z
        refine .inl ⟨vs, SqL.of h1, ?_⟩
        have := Option.some.inj e
        rw [← this]
        cases h2 <;> rfl
      | dk ds =>
        obtain ⟨vs, h1, h2⟩ := z
        refine .inr (.inr ⟨vs, h1, ?_⟩)
        have := Option.some.inj e
        rw [← this]
        cases h2 <;> rfl
      | dd ds => cases e
      | ins c fs => cases e
  | gl _ => cases e
  | ty _ => cases e
  | @fz a ds vs q p =>
    refine .inl ⟨vs, q.sq, ?_⟩
    have := Option.some.inj e
    rw [← this]
    cases p <;> rfl

theorem d_var {i : Nat} {x : Str} (hN : X.N[i]? = some x) (hv : Vis X.env.scope x) (hd : (x == ("__debug__" : Str)) = false) (hcd : (x == ("__classdict__" : Str)) = false) : PE X (.Name x pos) (tE X.K X.mw W (eVar i)) := by
  refine PE.imp (pe_var hN hv hd hcd) fun σ H Q h => ?_
  obtain ⟨env, S, o, ⟨rfl, re, rs⟩, p⟩ := h
  unfold eVar at p
  split at p
  · rename_i d e
    obtain ⟨v, hv, r⟩ := re.val i d e
    exact ⟨v, hv, p.here rs v r⟩
  · exact False.elim p
theorem d_c {d : D} {v : V} (h : PE X a (tC v)) (r : ∀ o : Wd, RD X.K X.mw o d v) : PE X a (tE X.K X.mw W (eC d)) := by
  refine PE.imp h fun σ H Q h => ?_
  obtain ⟨env, S, o, ⟨rfl, re, rs⟩, p⟩ := h
  exact p.here rs v (r o)
theorem d_bin {op : Operator} {g : D → D → Sto → PR} (ho : OpD X (binaryOp op) g) (ha : PE X a (tE X.K X.mw W fa)) (hb : PE X b (tE X.K X.mw W fb)) : PE X (.BinOp a op b pos) (tE X.K X.mw W (eBin g fa fb)) := by
  refine PE.imp (pe_op ho ha hb) fun σ H Q h => ?_
  obtain ⟨env, S, o, ⟨rfl, re, rs⟩, p⟩ := h
  refine ⟨env, S, o, ⟨rfl, re, rs⟩, (Post.bind p).imp fun d1 S1 o1 l1 rs1 p1 v1 r1 => ?_⟩
  refine ⟨env, S1, o1, ⟨rfl, re.up l1, rs1⟩, (Post.bind p1).imp fun d2 S2 o2 l2 rs2 p2 v2 r2 => ?_⟩
  obtain ⟨d, S', e, q⟩ := lift_post p2
  exact ⟨o2, d1, d2, S2, d, S', rfl, r1.up l2, r2, rs2, e, fun o' v l rs r => q o' l rs v r⟩
theorem d_cmp {op : CmpOp} {g : D → D → Sto → PR} (ho : OpD X (compareOp op) g) (ha : PE X a (tE X.K X.mw W fa)) (hb : PE X b (tE X.K X.mw W fb)) (hm : behindInMarks op b = false) : PE X (.Compare a [op] [b] pos) (tE X.K X.mw W (eBin g fa fb)) := by
  refine PE.imp (pe_cmpR ho ha hb hm) fun σ H Q h => ?_
  obtain ⟨env, S, o, ⟨rfl, re, rs⟩, p⟩ := h
  refine ⟨env, S, o, ⟨rfl, re, rs⟩, (Post.bind p).imp fun d1 S1 o1 l1 rs1 p1 v1 r1 => ?_⟩
  refine ⟨env, S1, o1, ⟨rfl, re.up l1, rs1⟩, (Post.bind p1).imp fun d2 S2 o2 l2 rs2 p2 v2 r2 => ?_⟩
  obtain ⟨d, S', e, q⟩ := lift_post p2
  exact ⟨o2, d1, d2, S2, d, S', rfl, r1.up l2, r2, rs2, e, fun o' v l rs r => q o' l rs v r⟩
theorem d_tcmp {op : CmpOp} {g : D → D → Sto → PR} (ho : OpD X (compareOp op) g) (ha : PE X a (tE X.K X.mw W fa)) (hb : PE X b (tE X.K X.mw W fb)) (hm : behindInMarks op b = false) : PT X (.Compare a [op] [b] pos) (tT X.K X.mw W (tB' (eBin g fa fb))) := by
  refine PT.imp (pt_cmpR ho ha hb hm) fun σ H Q h => ?_
  obtain ⟨env, S, o, ⟨rfl, re, rs⟩, p⟩ := h
  refine ⟨env, S, o, ⟨rfl, re, rs⟩, (Post.bind (Post.bind p)).imp fun d1 S1 o1 l1 rs1 p1 v1 r1 => ?_⟩
  refine ⟨env, S1, o1, ⟨rfl, re.up l1, rs1⟩, (Post.bind p1).imp fun d2 S2 o2 l2 rs2 p2 v2 r2 => ?_⟩
  obtain ⟨d, S', e, q⟩ := lift_post p2
  refine ⟨o2, d1, d2, S2, d, S', rfl, r1.up l2, r2, rs2, e, fun o' v l rs r => ?_⟩
  have z := q o' l rs
  cases r with
  | bl k => exact ⟨k, rfl, z.here rs⟩
  | _ => exact False.elim z
theorem d_ch {op op' : CmpOp} {g g' : D → D → Sto → PR} (ho : OpD X (compareOp op) g) (ho' : OpD X (compareOp op') g') (ha : PE X a (tE X.K X.mw W fa)) (hb : PE X b (tE X.K X.mw W fb)) (hc : PE X c (tE X.K X.mw W fc))
    (hm : lastMarks [op, op'] [b, c] = false) : PE X (.Compare a [op, op'] [b, c] pos) (tE X.K X.mw W (eCh g g' fa fb fc)) := by
  refine PE.imp (pe_chain ho ho' ha hb hc hm) fun σ H Q h => ?_
  obtain ⟨env, S, o, ⟨rfl, re, rs⟩, p⟩ := h
  refine ⟨env, S, o, ⟨rfl, re, rs⟩, (Post.bind p).imp fun d1 S1 o1 l1 rs1 p1 v1 r1 => ?_⟩
  refine ⟨env, S1, o1, ⟨rfl, re.up l1, rs1⟩, (Post.bind p1).imp fun d2 S2 o2 l2 rs2 p2 v2 r2 => ?_⟩
  obtain ⟨d, S', e, q⟩ := lift_post (Post.bind p2)
  refine ⟨o2, d1, d2, S2, d, S', rfl, r1.up l2, r2, rs2, e, fun o3 v l3 rs3 r3 => ?_⟩
  have z := q o3 l3 rs3
  cases r3 with
  | bl k =>
    cases k with
    | false => exact ⟨false, rfl, z.here rs3 _ (.bl false)⟩
    | true =>
      refine ⟨true, rfl, env, S', o3, ⟨rfl, (re.up (l1.trans l2)).up l3, rs3⟩, (Post.bind z).imp fun d3 S4 o4 l4 rs4 p4 v4 r4 => ?_⟩
      obtain ⟨d5, S5, e5, q5⟩ := lift_post p4
      exact ⟨o4, d2, d3, S4, d5, S5, rfl, r2.up (l3.trans l4), r4, rs4, e5, fun o' v l rs r => q5 o' l rs v r⟩
  | _ => exact False.elim z
theorem d_tch {op op' : CmpOp} {g g' : D → D → Sto → PR} (ho : OpD X (compareOp op) g) (ho' : OpD X (compareOp op') g') (ha : PE X a (tE X.K X.mw W fa)) (hb : PE X b (tE X.K X.mw W fb)) (hc : PE X c (tE X.K X.mw W fc))
    (hm : lastMarks [op, op'] [b, c] = false) : PT X (.Compare a [op, op'] [b, c] pos) (tT X.K X.mw W (tB' (eCh g g' fa fb fc))) := by
  refine PT.imp (pt_chain ho ho' ha hb hc hm) fun σ H Q h => ?_
  obtain ⟨env, S, o, ⟨rfl, re, rs⟩, p⟩ := h
  refine ⟨env, S, o, ⟨rfl, re, rs⟩, (Post.bind (Post.bind p)).imp fun d1 S1 o1 l1 rs1 p1 v1 r1 => ?_⟩
  refine ⟨env, S1, o1, ⟨rfl, re.up l1, rs1⟩, (Post.bind p1).imp fun d2 S2 o2 l2 rs2 p2 v2 r2 => ?_⟩
  obtain ⟨d, S', e, q⟩ := lift_post (Post.bind p2)
  refine ⟨o2, d1, d2, S2, d, S', rfl, r1.up l2, r2, rs2, e, fun o3 v l3 rs3 r3 => ?_⟩
  have z := q o3 l3 rs3
  cases r3 with
  | bl k =>
    cases k with
    | false => exact ⟨false, rfl, false, rfl, (z.here rs3).here rs3⟩
    | true =>
      refine ⟨true, rfl, env, S', o3, ⟨rfl, (re.up (l1.trans l2)).up l3, rs3⟩, (Post.bind z).imp fun d3 S4 o4 l4 rs4 p4 v4 r4 => ?_⟩
      obtain ⟨d5, S5, e5, q5⟩ := lift_post p4
      refine ⟨o4, d2, d3, S4, d5, S5, rfl, r2.up (l3.trans l4), r4, rs4, e5, fun o' v l rs r => ?_⟩
      have z5 := q5 o' l rs
      cases r with
      | bl k => exact ⟨k, rfl, z5.here rs⟩
      | _ => exact False.elim z5
  | _ => exact False.elim z
theorem d_un {op : UnaryOp} {g : D → Sto → PR} (ho : UnD X (unaryOp op) g) (ha : PE X a (tE X.K X.mw W fa)) : PE X (.UnaryOp op a pos) (tE X.K X.mw W (eUn g fa)) := by
  refine PE.imp (pe_un ho ha) fun σ H Q h => ?_
  obtain ⟨env, S, o, ⟨rfl, re, rs⟩, p⟩ := h
  refine ⟨env, S, o, ⟨rfl, re, rs⟩, (Post.bind p).imp fun d1 S1 o1 l1 rs1 p1 v1 r1 => ?_⟩
  obtain ⟨d, S', e, q⟩ := lift_post p1
  exact ⟨o1, d1, S1, d, S', rfl, r1, rs1, e, fun o' v l rs r => q o' l rs v r⟩
theorem d_anil : PA X [] (tA X.K X.mw W aNil) := by
  refine PA.imp pa_nil fun σ H Q h => ?_
  obtain ⟨env, S, o, ⟨rfl, re, rs⟩, p⟩ := h
  exact p.here rs [] .nil
theorem d_acons (ha : PE X a (tE X.K X.mw W fa)) (hr : PA X es (tA X.K X.mw W fr)) (hs : starEach (a :: es) X.env = (false, eval a X.env) :: starEach es X.env) : PA X (a :: es) (tA X.K X.mw W (aCons fa fr)) := by
  refine PA.imp (pa_cons ha hr hs) fun σ H Q h => ?_
  obtain ⟨env, S, o, ⟨rfl, re, rs⟩, p⟩ := h
  refine ⟨env, S, o, ⟨rfl, re, rs⟩, (Post.bind p).imp fun d1 S1 o1 l1 rs1 p1 v1 r1 => ?_⟩
  refine ⟨env, S1, o1, ⟨rfl, re.up l1, rs1⟩, (Post.bind p1).imp fun ds S2 o2 l2 rs2 p2 vs r2 => ?_⟩
  exact p2.here rs2 _ (.cons (r1.up l2) r2)
/-- how many values a list of arguments has -/
def LenA (fr : FA) (n : Nat) : Prop := ∀ env S ds S', fr env S = .ok ds S' → ds.length = n
theorem lenA_nil : LenA aNil 0 := fun env S ds S' e => by cases e; rfl
theorem lenA_cons {n : Nat} (h : LenA fr n) : LenA (aCons fa fr) (n + 1) := fun env S ds S' e => by
  unfold aCons at e
  cases h1 : fa env S with
  | ok d S1 =>
    rw [h1] at e
    have e : (fr env S1).bind (fun ds S2 => .ok (d :: ds) S2) = .ok ds S' := e
    cases h2 : fr env S1 with
    | ok ds2 S2 =>
      rw [h2] at e
      cases e
      rw [List.length_cons, h env S1 ds2 _ h2]
    | exc x S2 => rw [h2] at e; cases e
    | stk => rw [h2] at e; cases e
  | exc x S1 => rw [h1] at e; cases e
  | stk => rw [h1] at e; cases e
theorem postLen {α : Type} {K : PySem.W.Frag} {mw : MW} {Wx : Ex → Wd → Prop} {R : List α → Sto → Wd → Prop} {o : Wd} {r : Out (List α)} {n : Nat} (h : Post K mw Wx R o r) (hn : ∀ ds S', r = .ok ds S' → ds.length = n) :
    Post K mw Wx (fun ds S o' => ds.length = n ∧ R ds S o') o r := by
  cases r with
  | ok ds S => exact fun o' l rs => ⟨hn _ _ rfl, h o' l rs⟩
  | exc x S => exact h
  | stk => exact h
theorem d_tup {x1 : Nat} {n : Nat} (h : PA X es (tA X.K X.mw W fr)) (hl : LenA fr n) (hn : n ≤ sizeLine) : PE X (.Tuple es x1 pos) (tE X.K X.mw W (eTup fr)) := by
  refine PE.imp (pe_tup h) fun σ H Q h => ?_
  obtain ⟨env, S, o, ⟨rfl, re, rs⟩, p⟩ := h
  refine ⟨env, S, o, ⟨rfl, re, rs⟩, (postLen (Post.bind p) (hl env S)).imp fun ds S1 o1 l1 rs1 p1 vs r1 => ?_⟩
  obtain ⟨e1, p1⟩ := p1
  refine ⟨by rw [← r1.length, e1]; exact hn, fun q hq => ?_⟩
  obtain ⟨h1, h2, h3⟩ := rs1.newTup hq r1
  exact p1 _ h1 h2 _ h3
theorem d_lst {n : Nat} (h : PA X es (tA X.K X.mw W fr)) (hl : LenA fr n) (hn : n ≤ sizeLine) : PE X (.List es pos) (tE X.K X.mw W (eLst fr)) := by
  refine PE.imp (pe_lst h) fun σ H Q h => ?_
  obtain ⟨env, S, o, ⟨rfl, re, rs⟩, p⟩ := h
  refine ⟨env, S, o, ⟨rfl, re, rs⟩, (postLen (Post.bind p) (hl env S)).imp fun ds S1 o1 l1 rs1 p1 vs r1 => ?_⟩
  obtain ⟨e1, p1⟩ := p1
  refine ⟨by rw [← r1.length, e1]; exact hn, fun q hq => ?_⟩
  obtain ⟨h1, h2, h3⟩ := rs1.newLst hq r1
  exact p1 _ h1 h2 _ h3
theorem d_callB {x : Str} {p : Pos} {id : String} {g : List D → Sto → PR} (hc : CallD X (.builtin id) g) (hg : Gl X x) (hm : X.mg x = none) (hv : bootBuiltins x = some (.builtin id)) (ha : PA X (a :: es) (tA X.K X.mw W fr)) (hn : x ≠ "__name__") (hdb : (x == ("__debug__" : Str)) = false)
    (he : starEach (a :: es) X.env = (false, eval a X.env) :: starEach es X.env) (hpl : (backTo pos (starEach es X.env)).any (·.1) = false) : PE X (.Call (.Name x p) (a :: es) [] pos) (tE X.K X.mw W (eCB g fr)) := by
  refine PE.imp (pe_callB hc hg hm hv ha hn hdb he hpl) fun σ H Q h => ?_
  obtain ⟨env, S, o, ⟨rfl, re, rs⟩, p⟩ := h
  refine ⟨env, S, o, ⟨rfl, re, rs⟩, (Post.bind p).imp fun ds S1 o1 l1 rs1 p1 vs r1 => ?_⟩
  obtain ⟨d, S', e, q⟩ := lift_post p1
  exact ⟨o1, ds, S1, d, S', rfl, r1, rs1, e, fun o' v l rs r => q o' l rs v r⟩
theorem d_callTy {x : Str} {p : Pos} {id : String} {g : List D → Sto → PR} (hc : CallD X (.type id) g) (hg : Gl X x) (hm : X.mg x = none) (hv : bootBuiltins x = some (.type id)) (ha : PA X (a :: es) (tA X.K X.mw W fr)) (hn : x ≠ "__name__") (hdb : (x == ("__debug__" : Str)) = false)
    (he : starEach (a :: es) X.env = (false, eval a X.env) :: starEach es X.env) (hpl : (backTo pos (starEach es X.env)).any (·.1) = false) : PE X (.Call (.Name x p) (a :: es) [] pos) (tE X.K X.mw W (eCB g fr)) := by
  refine PE.imp (pe_callTy hc hg hm hv ha hn hdb he hpl) fun σ H Q h => ?_
  obtain ⟨env, S, o, ⟨rfl, re, rs⟩, p⟩ := h
  refine ⟨env, S, o, ⟨rfl, re, rs⟩, (Post.bind p).imp fun ds S1 o1 l1 rs1 p1 vs r1 => ?_⟩
  obtain ⟨d, S', e, q⟩ := lift_post p1
  exact ⟨o1, ds, S1, d, S', rfl, r1, rs1, e, fun o' v l rs r => q o' l rs v r⟩

/-! ### tests -/
theorem d_tval (ha : PE X a (tE X.K X.mw W fa)) (he : ∀ whole, isTrue a X.env whole = (do let v ← whole; standAt a.pos; holding [v] (truthy v))) : PT X a (tT X.K X.mw W (tVal fa)) := by
  refine PT.imp (pt_truth ha he) fun σ H Q h => ?_
  obtain ⟨env, S, o, ⟨rfl, re, rs⟩, p⟩ := h
  refine ⟨env, S, o, ⟨rfl, re, rs⟩, (Post.bind p).imp fun d1 S1 o1 l1 rs1 p1 v1 r1 => ?_⟩
  split at p1
  · rename_i k e
    exact ⟨k, truV_of rs1 r1 e, p1.here rs1⟩
  · exact False.elim p1
theorem d_tnot (ha : PT X a (tT X.K X.mw W ft)) : PT X (.UnaryOp .Not a pos) (tT X.K X.mw W (tNotF ft)) := by
  refine PT.imp (pt_not ha) fun σ H Q h => ?_
  obtain ⟨env, S, o, ⟨rfl, re, rs⟩, p⟩ := h
  refine ⟨env, S, o, ⟨rfl, re, rs⟩, (Post.bind p).imp fun d1 S1 o1 l1 rs1 p1 => ?_⟩
  exact p1.here rs1
theorem d_tand {rest : List Expr} (ha : PT X a (tT X.K X.mw W ft)) (hb : PW X (.BoolOp .And (b :: rest) pos) (tT X.K X.mw W fu)) : PW X (.BoolOp .And (a :: b :: rest) pos) (tT X.K X.mw W (tAndF ft fu)) := by
  have q := pw_and ha hb
  refine ⟨fun wh pins s σ H Q I h => q.run wh pins s σ H Q I ?_⟩
  obtain ⟨env, S, o, ⟨rfl, re, rs⟩, p⟩ := h
  refine ⟨env, S, o, ⟨rfl, re, rs⟩, (Post.bind p).imp fun d1 S1 o1 l1 rs1 p1 => ?_⟩
  cases d1 with
  | true => exact ⟨env, S1, o1, ⟨rfl, re.up l1, rs1⟩, p1⟩
  | false => exact p1.here rs1
theorem d_tor {rest : List Expr} (ha : PT X a (tT X.K X.mw W ft)) (hb : PW X (.BoolOp .Or (b :: rest) pos) (tT X.K X.mw W fu)) : PW X (.BoolOp .Or (a :: b :: rest) pos) (tT X.K X.mw W (tOrF ft fu)) := by
  have q := pw_or ha hb
  refine ⟨fun wh pins s σ H Q I h => q.run wh pins s σ H Q I ?_⟩
  obtain ⟨env, S, o, ⟨rfl, re, rs⟩, p⟩ := h
  refine ⟨env, S, o, ⟨rfl, re, rs⟩, (Post.bind p).imp fun d1 S1 o1 l1 rs1 p1 => ?_⟩
  cases d1 with
  | false => exact ⟨env, S1, o1, ⟨rfl, re.up l1, rs1⟩, p1⟩
  | true => exact p1.here rs1
theorem d_and {rest : List Expr} (ha : PE X a (tE X.K X.mw W fa)) (hb : PE X (.BoolOp .And (b :: rest) pos) (tE X.K X.mw W fb)) : PE X (.BoolOp .And (a :: b :: rest) pos) (tE X.K X.mw W (eAnd fa fb)) := by
  refine PE.imp (pe_andT ha hb) fun σ H Q h => ?_
  obtain ⟨env, S, o, ⟨rfl, re, rs⟩, p⟩ := h
  refine ⟨env, S, o, ⟨rfl, re, rs⟩, (Post.bind p).imp fun d1 S1 o1 l1 rs1 p1 v1 r1 => ?_⟩
  split at p1
  · rename_i e
    exact ⟨true, truV_of rs1 r1 e, env, S1, o1, ⟨rfl, re.up l1, rs1⟩, p1⟩
  · rename_i e
    exact ⟨false, truV_of rs1 r1 e, p1.here rs1 v1 r1⟩
  · exact False.elim p1
theorem d_or {rest : List Expr} (ha : PE X a (tE X.K X.mw W fa)) (hb : PE X (.BoolOp .Or (b :: rest) pos) (tE X.K X.mw W fb)) : PE X (.BoolOp .Or (a :: b :: rest) pos) (tE X.K X.mw W (eOr fa fb)) := by
  refine PE.imp (pe_orT ha hb) fun σ H Q h => ?_
  obtain ⟨env, S, o, ⟨rfl, re, rs⟩, p⟩ := h
  refine ⟨env, S, o, ⟨rfl, re, rs⟩, (Post.bind p).imp fun d1 S1 o1 l1 rs1 p1 v1 r1 => ?_⟩
  split at p1
  · rename_i e
    exact ⟨true, truV_of rs1 r1 e, p1.here rs1 v1 r1⟩
  · rename_i e
    exact ⟨false, truV_of rs1 r1 e, env, S1, o1, ⟨rfl, re.up l1, rs1⟩, p1⟩
  · exact False.elim p1
theorem d_not (ha : PE X a (tE X.K X.mw W fa)) : PE X (.UnaryOp .Not a pos) (tE X.K X.mw W (eNot fa)) := by
  refine PE.imp (pe_notT ha) fun σ H Q h => ?_
  obtain ⟨env, S, o, ⟨rfl, re, rs⟩, p⟩ := h
  refine ⟨env, S, o, ⟨rfl, re, rs⟩, (Post.bind p).imp fun d1 S1 o1 l1 rs1 p1 v1 r1 => ?_⟩
  split at p1
  · rename_i k e
    exact ⟨k, truV_of rs1 r1 e, p1.here rs1 _ (.bl _)⟩
  · exact False.elim p1
theorem d_ifx (hc : PT X c (tT X.K X.mw W ft)) (ha : PE X a (tE X.K X.mw W fa)) (hb : PE X b (tE X.K X.mw W fb)) : PE X (.IfExp c a b pos) (tE X.K X.mw W (eIfx ft fa fb)) := by
  refine PE.imp (pe_ifExp hc ha hb) fun σ H Q h => ?_
  obtain ⟨env, S, o, ⟨rfl, re, rs⟩, p⟩ := h
  refine ⟨env, S, o, ⟨rfl, re, rs⟩, (Post.bind p).imp fun k S1 o1 l1 rs1 p1 => ?_⟩
  cases k with
  | true => exact ⟨env, S1, o1, ⟨rfl, re.up l1, rs1⟩, p1⟩
  | false => exact ⟨env, S1, o1, ⟨rfl, re.up l1, rs1⟩, p1⟩
end
end PV

set_option Elab.async false
set_option linter.all false
set_option maxRecDepth 100000
set_option maxHeartbeats 3999000
namespace PV
open L2 PyProof.Rows PySem PySem.Spec

/-! ### arithmetic -/
def addD (d1 d2 : D) (S : Sto) : PR := match d1, d2 with
  | .int i, .int j => some (.int (i + j), S)
  | .str x, .str y => if x.length + y.length ≤ sizeLine then some (.str (x ++ y), S) else none
  | .tup xs, .tup ys => if xs.length + ys.length ≤ sizeLine then some (.tup (xs ++ ys), S) else none
  | a, b => (match lisOf S a, lisOf S b with
    | some xs, some ys => if xs.length + ys.length ≤ sizeLine then some (.loc S.length, S ++ [.lst (xs ++ ys)]) else none
    | _, _ => none)
def subD (d1 d2 : D) (S : Sto) : PR := match d1, d2 with
  | .int i, .int j => some (.int (i - j), S)
  | _, _ => none
def mulOk (i j : Int) : Bool := decide ((Builtin.Int.intBits i : Int) + (Builtin.Int.intBits j : Int) ≤ 134217728)
def mulD (d1 d2 : D) (S : Sto) : PR := match d1, d2 with
  | .int i, .int j => if mulOk i j = true then some (.int (i * j), S) else none
  | .loc n, .int k => (match lstAt S n with
    | some xs => if -(2 ^ 63) ≤ k ∧ k < 2 ^ 63 ∧ xs.length * k.toNat ≤ sizeLine then some (.loc S.length, S ++ [.lst (List.replicate k.toNat xs).flatten]) else none
    | none => none)
  | _, _ => none
def fdivD (d1 d2 : D) (S : Sto) : PR := match d1, d2 with
  | .int i, .int j => if 0 < j ∧ j.natAbs.log2 < 9000 then some (.int (i / j), S) else none
  | _, _ => none
def modD (d1 d2 : D) (S : Sto) : PR := match d1, d2 with
  | .int i, .int j => if 0 < j then some (.int (i % j), S) else none
  | _, _ => none
def powOk (i j : Int) : Bool := decide (0 ≤ j ∧ (Builtin.Int.intBits i : Int) * j ≤ 2 ^ 27)
def powD (d1 d2 : D) (S : Sto) : PR := match d1, d2 with
  | .int i, .int j => if powOk i j = true then some (.int (i ^ j.toNat), S) else none
  | _, _ => none
def shlD (d1 d2 : D) (S : Sto) : PR := match d1, d2 with
  | .int i, .int j => if 0 ≤ j ∧ (Builtin.Int.intBits i : Int) + j ≤ 2 ^ 27 then some (.int (i * 2 ^ j.toNat), S) else none
  | _, _ => none
def shrD (d1 d2 : D) (S : Sto) : PR := match d1, d2 with
  | .int i, .int j => if 0 ≤ j then some (.int (i / 2 ^ j.toNat), S) else none
  | _, _ => none
def andD (d1 d2 : D) (S : Sto) : PR := match d1, d2 with
  | .int i, .int j => some (.int (Builtin.bitAnd i j), S)
  | _, _ => none
def orD (d1 d2 : D) (S : Sto) : PR := match d1, d2 with
  | .int i, .int j => some (.int (Builtin.bitOr i j), S)
  | _, _ => none
def xorD (d1 d2 : D) (S : Sto) : PR := match d1, d2 with
  | .int i, .int j => some (.int (Builtin.bitXor i j), S)
  | _, _ => none
def negD (d : D) (S : Sto) : PR := match d with
  | .int i => some (.int (-i), S)
  | _ => none
/-! ### data as a whole -/
def mapO {α β : Type} (f : α → Option β) : List α → Option (List β)
  | [] => some []
  | a :: r => match f a, mapO f r with
    | some b, some bs => some (b :: bs)
    | _, _ => none
def snap (S : Sto) : Nat → D → Option PyData
  | _, .non => some .none
  | _, .bl b => some (.bool b)
  | _, .int i => some (.int i)
  | _, .str x => some (.str x)
  | n + 1, .tup ds => (mapO (snap S n) ds).map .tuple
  | n + 1, .fz ds => (mapO (snap S n) ds).map .list
  | n + 1, .loc k => (match lstAt S k with
    | some ds => (mapO (snap S n) ds).map .list
    | none => none)
  | _, _ => none
/-- the depth that is looked through -/
def deep : Nat := 64
def eqO (S : Sto) (d1 d2 : D) : Option Bool := match snap S deep d1, snap S deep d2 with
  | some a, some b => if SeqAt.shaped a = true ∧ SeqAt.shaped b = true then some (PyData.eqv a b) else none
  | _, _ => none
def eqD (d1 d2 : D) (S : Sto) : PR := (eqO S d1 d2).map fun b => (.bl b, S)
def neD (d1 d2 : D) (S : Sto) : PR := (eqO S d1 d2).map fun b => (.bl (!b), S)
def inO (S : Sto) (d1 d2 : D) : Option Bool := match snap S deep d1, snap S deep d2 with
  | some a, some (.list bs) => if SeqAt.shaped a = true ∧ SeqAt.shaped (.list bs) = true then some (bs.any fun z => PyData.eqv z a) else none
  | _, _ => none
def inD (d1 d2 : D) (S : Sto) : PR := (inO S d1 d2).map fun b => (.bl b, S)
def notInD (d1 d2 : D) (S : Sto) : PR := (inO S d1 d2).map fun b => (.bl (!b), S)
def isNon : D → Bool
  | .non => true
  | _ => false
def isD (d1 d2 : D) (S : Sto) : PR := match d2 with
  | .non => some (.bl (isNon d1), S)
  | _ => none
def isNotD (d1 d2 : D) (S : Sto) : PR := match d2 with
  | .non => some (.bl (!isNon d1), S)
  | _ => none

section
variable {X : Cx}
theorem RD.non_iff {K : PySem.W.Frag} {mw : MW} {o : Wd} {d : D} {v : V} (h : RD K mw o d v) : decide (v = .non) = isNon d := by
  cases h <;> rfl
theorem op_catS : OpR X (binaryOp .Add) (fun x y H Q => ∃ l b xs zs, x = .ref l ∧ y = .ref b ∧ SqL X.K H l xs ∧ SqL X.K H b zs ∧ xs.length + zs.length ≤ sizeLine ∧ ∀ p, H p = none → Q (.ref p) (upd H p (.lst (xs ++ zs)))) := by
  intro pins s σ H x y v u Q I rx ry h
  obtain ⟨l, b, xs, zs, rfl, rfl, hl, hb, hz, q⟩ := h
  cases rx
  cases ry
  obtain ⟨i1, r1, p1, z1⟩ := I.list hl
  obtain ⟨i2, r2, p2, z2⟩ := I.list hb
  obtain ⟨m, F⟩ := I.fr
  obtain ⟨⟨c1, g1, t1, k1⟩, ho, hc, n, hd⟩ := p1.isList
  obtain ⟨⟨c2, g2, t2, k2⟩, ho2, hc2, n2, hd2⟩ := p2.isList
  simp only at hc hd hc2 hd2
  subst hc hd hc2 hd2
  refine concat_meets ⟨_, ho, rfl⟩ ⟨_, ho2, rfl⟩ noFill_list_add seq_list_add PySem.F.slot_list_add PySem.F.entry_list_add (PySem.F.args_list_add_2 _ _)
    (list_addW l b i1.toArray i2.toArray n n2 g1 g2 k1 k2 (by rw [List.size_toArray, List.size_toArray, ← r1.length, ← r2.length]; exact hz)) ⟨ho, ho2, ?_⟩
  rw [show i1.toArray ++ i2.toArray = (i1 ++ i2).toArray by simp]
  exact ⟨.ref _, _, I.lnew (t' := s.toks) (r1.append r2) (by rw [List.length_append]; omega), rfl, q _ I.fresh⟩
theorem op_powW : OpR X (binaryOp .Pow) (rI (fun i j => 0 ≤ j ∧ (Builtin.Int.intBits i : Int) * j ≤ 2 ^ 27) fun i j => .int (i ^ j.toNat)) := opI fun _ _ _ _ _ _ _ hc q => pow_int hc.1 hc.2 q

theorem opd_int {f : Value → Value → Sem Value} {g : Int → Int → Int} {C : Int → Int → Prop} {G : D → D → Sto → PR} (h : OpR X f (rI C fun i j => .int (g i j)))
    (hG : ∀ d1 d2 S d S', G d1 d2 S = some (d, S') → ∃ i j, d1 = .int i ∧ d2 = .int j ∧ C i j ∧ d = .int (g i j) ∧ S' = S) : OpD X f G := by
  intro pins s σ H x y v u Q I rx ry hh
  obtain ⟨o, d1, d2, S, d, S', rfl, r1, r2, rs, e, q⟩ := hh
  obtain ⟨i, j, rfl, rfl, hc, rfl, rfl⟩ := hG _ _ _ _ _ e
  cases r1
  cases r2
  exact h pins s σ _ _ _ v u Q I rx ry ⟨i, j, rfl, rfl, hc, q o _ .refl rs (.int _)⟩
theorem opd_int0 {f : Value → Value → Sem Value} {g : Int → Int → Int} {G : D → D → Sto → PR} (h : OpR X f (rI0 fun i j => .int (g i j)))
    (hG : ∀ d1 d2 S d S', G d1 d2 S = some (d, S') → ∃ i j, d1 = .int i ∧ d2 = .int j ∧ d = .int (g i j) ∧ S' = S) : OpD X f G := by
  intro pins s σ H x y v u Q I rx ry hh
  obtain ⟨o, d1, d2, S, d, S', rfl, r1, r2, rs, e, q⟩ := hh
  obtain ⟨i, j, rfl, rfl, rfl, rfl⟩ := hG _ _ _ _ _ e
  cases r1
  cases r2
  exact h pins s σ _ _ _ v u Q I rx ry ⟨i, j, rfl, rfl, q o _ .refl rs (.int _)⟩
theorem opd_add : OpD X (binaryOp .Add) addD := by
  intro pins s σ H x y v u Q I rx ry hh
  obtain ⟨o, d1, d2, S, d, S', rfl, r1, r2, rs, e, q⟩ := hh
  unfold addD at e
  split at e
  · cases e
    cases r1
    cases r2
    exact op_add pins s σ _ _ _ v u Q I rx ry ⟨_, _, rfl, rfl, q o _ .refl rs (.int _)⟩
  · split at e
    · rename_i hl
      cases e
      cases r1
      cases r2
      exact op_add_str pins s σ _ _ _ v u Q I rx ry ⟨_, _, rfl, rfl, hl, q o _ .refl rs (.str _)⟩
    · cases e
  · split at e
    · rename_i xs ys hl
      cases e
      cases r1 with
      | @tup a _ vs h1 p1 =>
      cases r2 with
      | @tup b _ ws h2 p2 =>
      refine op_catA pins s σ _ _ _ v u Q I rx ry ⟨a, b, vs, ws, rfl, rfl, h1, h2, by rw [← p1.length, ← p2.length]; exact hl, fun z => ?_, fun z1 z2 => ?_, fun z1 z2 p hp => ?_⟩
      · subst z
        cases p1
        exact q o _ .refl rs (.tup h2 p2)
      · subst z2
        cases p2
        exact q o _ .refl rs (.tup h1 (by rw [List.append_nil]; exact p1))
      · obtain ⟨a1, a2, a3⟩ := rs.newTup hp (p1.append p2)
        exact q _ _ a1 a2 a3
    · cases e
  · split at e
    · rename_i xs ys e1 e2
      split at e
      · rename_i hl
        cases e
        obtain ⟨a, vs, rfl, p1, h1⟩ := r1.lis rs e1
        obtain ⟨b, ws, rfl, p2, h2⟩ := r2.lis rs e2
        refine op_catS pins s σ _ _ _ v u Q I rx ry ⟨a, b, vs, ws, rfl, rfl, h1, h2, by rw [← p1.length, ← p2.length]; exact hl, fun p hp => ?_⟩
        obtain ⟨a1, a2, a3⟩ := rs.newLst hp (p1.append p2)
        exact q _ _ a1 a2 a3
      · cases e
    · cases e
theorem opd_sub : OpD X (binaryOp .Sub) subD := opd_int0 op_sub fun d1 d2 S d S' e => by
  unfold subD at e
  split at e
  · cases e; exact ⟨_, _, rfl, rfl, rfl, rfl⟩
  · cases e
theorem mulOk_ok {i j : Int} (h : mulOk i j = true) : CMulX i j := by
  unfold mulOk at h
  unfold CMulX
  exact of_decide_eq_true h
theorem opd_mul : OpD X (binaryOp .Mult) mulD := by
  intro pins s σ H x y v u Q I rx ry hh
  obtain ⟨o, d1, d2, S, d, S', rfl, r1, r2, rs, e, q⟩ := hh
  unfold mulD at e
  split at e
  · split at e
    · rename_i hm
      cases e
      cases r1
      cases r2
      exact op_mulX pins s σ _ _ _ v u Q I rx ry ⟨_, _, rfl, rfl, mulOk_ok hm, q o _ .refl rs (.int _)⟩
    · cases e
  · split at e
    · rename_i xs e1
      split at e
      · rename_i hc
        cases e
        cases r2
        cases r1 with
        | @loc n a hn =>
        obtain ⟨vs, h1, p1⟩ := rs.lst hn e1
        refine op_rep pins s σ _ _ _ v u Q I rx ry ⟨a, _, vs, rfl, rfl, h1, hc.1, hc.2.1, by rw [← p1.length]; exact hc.2.2, fun p hp => ?_⟩
        obtain ⟨a1, a2, a3⟩ := rs.newLst hp (p1.rep _)
        exact q _ _ a1 a2 a3
      · cases e
    · cases e
  · cases e
theorem opd_fdiv : OpD X (binaryOp .FloorDiv) fdivD := opd_int op_fdivW fun d1 d2 S d S' e => by
  unfold fdivD at e
  split at e
  · split at e
    · rename_i hc; cases e; exact ⟨_, _, rfl, rfl, hc, rfl, rfl⟩
    · cases e
  · cases e
theorem opd_mod : OpD X (binaryOp .Mod) modD := opd_int op_mod fun d1 d2 S d S' e => by
  unfold modD at e
  split at e
  · split at e
    · rename_i hc; cases e; exact ⟨_, _, rfl, rfl, hc, rfl, rfl⟩
    · cases e
  · cases e
theorem opd_pow : OpD X (binaryOp .Pow) powD := opd_int op_powW fun d1 d2 S d S' e => by
  unfold powD at e
  split at e
  · split at e
    · rename_i hc; cases e; exact ⟨_, _, rfl, rfl, of_decide_eq_true hc, rfl, rfl⟩
    · cases e
  · cases e
theorem opd_shl : OpD X (binaryOp .LShift) shlD := opd_int op_shlW fun d1 d2 S d S' e => by
  unfold shlD at e
  split at e
  · split at e
    · rename_i hc; cases e; exact ⟨_, _, rfl, rfl, hc, rfl, rfl⟩
    · cases e
  · cases e
theorem opd_shr : OpD X (binaryOp .RShift) shrD := opd_int op_shr fun d1 d2 S d S' e => by
  unfold shrD at e
  split at e
  · split at e
    · rename_i hc; cases e; exact ⟨_, _, rfl, rfl, hc, rfl, rfl⟩
    · cases e
  · cases e
theorem opd_and : OpD X (binaryOp .BitAnd) andD := opd_int0 op_and fun d1 d2 S d S' e => by
  unfold andD at e
  split at e
  · cases e; exact ⟨_, _, rfl, rfl, rfl, rfl⟩
  · cases e
theorem opd_or : OpD X (binaryOp .BitOr) orD := opd_int0 op_or fun d1 d2 S d S' e => by
  unfold orD at e
  split at e
  · cases e; exact ⟨_, _, rfl, rfl, rfl, rfl⟩
  · cases e
theorem opd_xor : OpD X (binaryOp .BitXor) xorD := opd_int0 op_xor fun d1 d2 S d S' e => by
  unfold xorD at e
  split at e
  · cases e; exact ⟨_, _, rfl, rfl, rfl, rfl⟩
  · cases e
theorem und_neg : UnD X (unaryOp .USub) negD := by
  intro pins s σ H x v Q I rx hh
  obtain ⟨o, d1, S, d, S', rfl, r1, rs, e, q⟩ := hh
  unfold negD at e
  split at e
  · cases e
    cases r1
    exact un_neg pins s σ _ _ v Q I rx ⟨_, rfl, q o _ .refl rs (.int _)⟩
  · cases e

/-! ### == and in -/
theorem mapO_cons {α β : Type} {f : α → Option β} {a : α} {r : List α} {ys : List β} (h : mapO f (a :: r) = some ys) : ∃ b bs, f a = some b ∧ mapO f r = some bs ∧ ys = b :: bs := by
  unfold mapO at h
  split at h
  · rename_i b bs e1 e2
    exact ⟨b, bs, e1, e2, (Option.some.inj h).symm⟩
  · cases h
theorem snapAll_ok {K : PySem.W.Frag} {mw : MW} {o : Wd} {f : D → Option PyData} (hf : ∀ d v p, RD K mw o d v → f d = some p → Dp K o.H v p) : ∀ {ds : List D} {vs : List V} {ps : List PyData}, RDs K mw o ds vs → mapO f ds = some ps → DpAll K o.H vs ps
  | _, _, _, .nil, e => by cases e; exact .nil
  | _, _, _, .cons r t, e => by
    obtain ⟨b, bs, e1, e2, rfl⟩ := mapO_cons e
    exact .cons (hf _ _ _ r e1) (snapAll_ok hf t e2)
theorem snap_ok {K : PySem.W.Frag} {mw : MW} {o : Wd} {S : Sto} (rs : RS K mw o S) : ∀ (n : Nat) (d : D) (v : V) (p : PyData), RD K mw o d v → snap S n d = some p → Dp K o.H v p := by
  intro n
  induction n with
  | zero =>
    intro d v p r e
    cases r <;> first | (cases e; constructor) | cases e
  | succ n ih =>
    intro d v p r e
    cases r with
    | non => cases e; constructor
    | bl b => cases e; constructor
    | int i => cases e; constructor
    | str x => cases e; constructor
    | tup h q =>
      obtain ⟨ps, e1, rfl⟩ := Option.map_eq_some_iff.mp (show (mapO (snap S n) _).map PyData.tuple = some p from e)
      exact .tup h (snapAll_ok ih q e1)
    | fz h q =>
      obtain ⟨ps, e1, rfl⟩ := Option.map_eq_some_iff.mp (show (mapO (snap S n) _).map PyData.list = some p from e)
      exact .lst h.sq (snapAll_ok ih q e1)
    | @loc k a hk =>
      have e : (match lstAt S k with | some ds => (mapO (snap S n) ds).map PyData.list | none => none) = some p := e
      split at e
      · rename_i ds hl
        obtain ⟨ps, e1, rfl⟩ := Option.map_eq_some_iff.mp e
        obtain ⟨vs, h1, q⟩ := rs.lst hk hl
        exact .lst (SqL.of h1) (snapAll_ok ih q e1)
      · cases e
    | gl _ => cases e
    | ty _ => cases e
theorem eqO_ok {K : PySem.W.Frag} {mw : MW} {o : Wd} {S : Sto} {d1 d2 : D} {v1 v2 : V} {b : Bool} (rs : RS K mw o S) (r1 : RD K mw o d1 v1) (r2 : RD K mw o d2 v2) (e : eqO S d1 d2 = some b) :
    ∃ p q, Dp K o.H v1 p ∧ Dp K o.H v2 q ∧ SeqAt.shaped p = true ∧ SeqAt.shaped q = true ∧ b = PyData.eqv p q := by
  unfold eqO at e
  split at e
  · rename_i p q e1 e2
    split at e
    · rename_i hs
      exact ⟨p, q, snap_ok rs _ _ _ _ r1 e1, snap_ok rs _ _ _ _ r2 e2, hs.1, hs.2, (Option.some.inj e).symm⟩
    · cases e
  · cases e
theorem opd_eq (hu : X.A.units + 64 < cLine) : OpD X (compareOp .Eq) eqD := by
  intro pins s σ H x y v u Q I rx ry hh
  obtain ⟨o, d1, d2, S, d, S', rfl, r1, r2, rs, e, q⟩ := hh
  obtain ⟨b, e1, e2⟩ := Option.map_eq_some_iff.mp (show (eqO S d1 d2).map (fun b => (D.bl b, S)) = some (d, S') from e)
  cases e2
  obtain ⟨p, p', h1, h2, h3, h4, rfl⟩ := eqO_ok rs r1 r2 e1
  exact op_eqD hu pins s σ _ _ _ v u Q I rx ry ⟨p, p', h1, h2, h3, h4, q o _ .refl rs (.bl _)⟩
theorem opd_ne (hu : X.A.units + 64 < cLine) : OpD X (compareOp .NotEq) neD := by
  intro pins s σ H x y v u Q I rx ry hh
  obtain ⟨o, d1, d2, S, d, S', rfl, r1, r2, rs, e, q⟩ := hh
  obtain ⟨b, e1, e2⟩ := Option.map_eq_some_iff.mp (show (eqO S d1 d2).map (fun b => (D.bl (!b), S)) = some (d, S') from e)
  cases e2
  obtain ⟨p, p', h1, h2, h3, h4, rfl⟩ := eqO_ok rs r1 r2 e1
  exact op_neD hu pins s σ _ _ _ v u Q I rx ry ⟨p, p', h1, h2, h3, h4, q o _ .refl rs (.bl _)⟩
theorem inO_ok {K : PySem.W.Frag} {mw : MW} {o : Wd} {S : Sto} {d1 d2 : D} {v1 v2 : V} {b : Bool} (rs : RS K mw o S) (r1 : RD K mw o d1 v1) (r2 : RD K mw o d2 v2) (e : inO S d1 d2 = some b) :
    ∃ p q, Dp K o.H v1 p ∧ Dp K o.H v2 (.list q) ∧ SeqAt.shaped p = true ∧ SeqAt.shaped (.list q) = true ∧ b = (q.any fun z => PyData.eqv z p) := by
  unfold inO at e
  split at e
  · rename_i p q e1 e2
    split at e
    · rename_i hs
      exact ⟨p, q, snap_ok rs _ _ _ _ r1 e1, snap_ok rs _ _ _ _ r2 e2, hs.1, hs.2, (Option.some.inj e).symm⟩
    · cases e
  · cases e
theorem opd_in (hu : X.A.units + 65 < cLine) : OpD X (compareOp .In) inD := by
  intro pins s σ H x y v u Q I rx ry hh
  obtain ⟨o, d1, d2, S, d, S', rfl, r1, r2, rs, e, q⟩ := hh
  obtain ⟨b, e1, e2⟩ := Option.map_eq_some_iff.mp (show (inO S d1 d2).map (fun b => (D.bl b, S)) = some (d, S') from e)
  cases e2
  obtain ⟨p, p', h1, h2, h3, h4, rfl⟩ := inO_ok rs r1 r2 e1
  exact op_inD hu pins s σ _ _ _ v u Q I rx ry ⟨p, p', h1, h2, h3, h4, q o _ .refl rs (.bl _)⟩
theorem opd_notIn (hu : X.A.units + 65 < cLine) : OpD X (compareOp .NotIn) notInD := by
  intro pins s σ H x y v u Q I rx ry hh
  obtain ⟨o, d1, d2, S, d, S', rfl, r1, r2, rs, e, q⟩ := hh
  obtain ⟨b, e1, e2⟩ := Option.map_eq_some_iff.mp (show (inO S d1 d2).map (fun b => (D.bl (!b), S)) = some (d, S') from e)
  cases e2
  obtain ⟨p, p', h1, h2, h3, h4, rfl⟩ := inO_ok rs r1 r2 e1
  exact op_notInD hu pins s σ _ _ _ v u Q I rx ry ⟨p, p', h1, h2, h3, h4, q o _ .refl rs (.bl _)⟩
theorem opd_is : OpD X (compareOp .Is) isD := by
  intro pins s σ H x y v u Q I rx ry hh
  obtain ⟨o, d1, d2, S, d, S', rfl, r1, r2, rs, e, q⟩ := hh
  unfold isD at e
  split at e
  · cases e
    cases r2
    refine op_isN pins s σ _ _ _ v u Q I rx ry ⟨rfl, ?_⟩
    rw [r1.non_iff]
    exact q o _ .refl rs (.bl _)
  · cases e
theorem opd_isNot : OpD X (compareOp .IsNot) isNotD := by
  intro pins s σ H x y v u Q I rx ry hh
  obtain ⟨o, d1, d2, S, d, S', rfl, r1, r2, rs, e, q⟩ := hh
  unfold isNotD at e
  split at e
  · cases e
    cases r2
    refine op_notN pins s σ _ _ _ v u Q I rx ry ⟨rfl, ?_⟩
    rw [r1.non_iff]
    exact q o _ .refl rs (.bl _)
  · cases e
end
end PV

set_option Elab.async false
set_option linter.all false
set_option maxRecDepth 100000
set_option maxHeartbeats 3999000
namespace PV
open L2 PyProof.Rows PySem PySem.Spec

/-! ### order -/
inductive Oc where
  | lt | le | gt | ge
def Oc.i : Oc → Int → Int → Bool
  | .lt, i, j => decide (i < j)
  | .le, i, j => decide (i ≤ j)
  | .gt, i, j => decide (j < i)
  | .ge, i, j => decide (j ≤ i)
def Oc.n : Oc → Nat → Nat → Bool
  | .lt, i, j => decide (i < j)
  | .le, i, j => decide (i ≤ j)
  | .gt, i, j => decide (i > j)
  | .ge, i, j => decide (i ≥ j)
def Oc.c : Oc → CmpOp
  | .lt => .Lt
  | .le => .LtE
  | .gt => .Gt
  | .ge => .GtE
def ordL (op : Oc) (f : PyData → PyData → Option Bool) : List PyData → List PyData → Option Bool
  | x :: xs, y :: ys => match ordL op f xs ys with
    | none => none
    | some b => if PyData.eqv x y = true then some b else f x y
  | xs, ys => some (op.n xs.length ys.length)
def ordP (op : Oc) : Nat → PyData → PyData → Option Bool
  | _, .int i, .int j => some (op.i i j)
  | n + 1, .tuple xs, .tuple ys => ordL op (ordP op n) xs ys
  | _, _, _ => none
def ordO (op : Oc) (S : Sto) (d1 d2 : D) : Option Bool := match snap S deep d1, snap S deep d2 with
  | some a, some b => if SeqAt.shaped a = true ∧ SeqAt.shaped b = true then ordP op deep a b else none
  | _, _ => none
def ordD (op : Oc) (d1 d2 : D) (S : Sto) : PR := match d1, d2 with
  | .int i, .int j => some (.bl (op.i i j), S)
  | a, b => (ordO op S a b).map fun r => (.bl r, S)
theorem Oc.n_succ (op : Oc) (i j : Nat) : op.n (i + 1) (j + 1) = op.n i j := by
  cases op <;> simp [Oc.n]
theorem lex_ord (op : Oc) (f : PyData → PyData → Option Bool) (e r : Nat → Bool) : ∀ (xs ys : List PyData) (b : Bool) (i : Nat), ordL op f xs ys = some b →
    (∀ j x y, xs[j]? = some x → ys[j]? = some y → e (i + j) = PyData.eqv x y ∧ (PyData.eqv x y = false → r (i + j) = (f x y).getD false)) →
    Ob.lexAt e r (op.n xs.length ys.length) i (min xs.length ys.length) = b
  | [], ys, b, i, h, _ => by
    cases ys with
    | nil => cases h; rfl
    | cons y ys => cases h; simp [Ob.lexAt]
  | x :: xs, [], b, i, h, _ => by cases h; simp [Ob.lexAt]
  | x :: xs, y :: ys, b, i, h, hj => by
    unfold ordL at h
    split at h
    · cases h
    · rename_i c hc
      rw [List.length_cons, List.length_cons, op.n_succ, Nat.add_min_add_right, Ob.lexAt_succ]
      obtain ⟨h1, h2⟩ := hj 0 x y rfl rfl
      rw [Nat.add_zero] at h1 h2
      have ih := lex_ord op f e r xs ys c (i + 1) hc (fun j x y a b => by
        have := hj (j + 1) x y (by simpa using a) (by simpa using b)
        rw [show i + 1 + j = i + (j + 1) by omega]
        exact this)
      rw [h1]
      split at h
      · rename_i he
        rw [if_pos he, ih]
        exact Option.some.inj h
      · rename_i he
        rw [if_neg he, h2 (by simpa using he), h]
        rfl
theorem ordL_all (op : Oc) (f : PyData → PyData → Option Bool) : ∀ (xs ys : List PyData) (b : Bool), ordL op f xs ys = some b → ∀ (j : Nat) (x y : PyData), xs[j]? = some x → ys[j]? = some y → PyData.eqv x y = false → ∃ c, f x y = some c
  | [], ys, b, _, j, x, y, hx, _, _ => by simp at hx
  | _ :: _, [], b, _, j, x, y, _, hy, _ => by simp at hy
  | x :: xs, y :: ys, b, h, j, x', y', hx, hy, he => by
    unfold ordL at h
    split at h
    · cases h
    · rename_i c hc
      cases j with
      | zero =>
        simp at hx hy
        subst hx hy
        rw [if_neg (by rw [he]; exact Bool.false_ne_true)] at h
        exact ⟨b, h⟩
      | succ j => exact ordL_all op f xs ys c hc j x' y' (by simpa using hx) (by simpa using hy) he
theorem depth_get : ∀ {xs : List PyData} {j : Nat} {x : PyData}, xs[j]? = some x → x.depth ≤ PyData.depthAll xs
  | [], j, x, h => by simp at h
  | y :: ys, 0, x, h => by simp at h; subst h; simp only [PyData.depthAll]; omega
  | y :: ys, j + 1, x, h => by
    have := depth_get (xs := ys) (j := j) (x := x) (by simpa using h)
    simp only [PyData.depthAll]; omega
theorem lay_get : ∀ {xs : List PyData} {j : Nat} {x : PyData}, PyData.canLayAll0 xs = true → xs[j]? = some x → x.canLay0 = true
  | [], j, x, _, h => by simp at h
  | y :: ys, 0, x, hl, h => by
    simp at h; subst h
    simp only [PyData.canLayAll0, Bool.and_eq_true] at hl
    exact hl.1
  | y :: ys, j + 1, x, hl, h => by
    simp only [PyData.canLayAll0, Bool.and_eq_true] at hl
    exact lay_get (xs := ys) (j := j) hl.2 (by simpa using h)
theorem DpAll.get {K : PySem.W.Frag} {H : Hp} {vs : List V} {ps : List PyData} {i : Nat} {v : V} (h : DpAll K H vs ps) (e : vs[i]? = some v) : ∃ p, ps[i]? = some p ∧ Dp K H v p := by
  induction i generalizing vs ps with
  | zero =>
    cases h with
    | nil => cases e
    | cons r t => cases e; exact ⟨_, rfl, r⟩
  | succ n ih =>
    cases h with
    | nil => cases e
    | cons r t => exact ih t e
theorem DpAll.length {K : PySem.W.Frag} {H : Hp} : ∀ {vs : List V} {ps : List PyData}, DpAll K H vs ps → vs.length = ps.length
  | _, _, .nil => rfl
  | _, _, .cons _ t => by rw [List.length_cons, List.length_cons, DpAll.length t]
theorem Vals.get2 {xs : List V} {us : List Value} {i : Nat} {u : Value} (h : Vals xs us) (e : us[i]? = some u) : ∃ x, xs[i]? = some x ∧ RelV x u := by
  induction i generalizing xs us with
  | zero =>
    cases h with
    | nil => cases e
    | cons r t => cases e; exact ⟨_, rfl, r⟩
  | succ n ih =>
    cases h with
    | nil => cases e
    | cons r t => exact ih t e
section
variable {X : Cx} {s : Shared} {H : Hp} {σ : L2.St} {pins : List (Addr × Obj)}
theorem rc_int (op : Oc) {A : Around} {i j : Int} {t u : Tok} : Ob.RcOp op.c A s (.int i t) (.int j u) (op.i i j) := by
  cases op
  · exact Ob.RcOp.lt_int _ _ _ _
  · exact Ob.RcOp.le_int _ _ _ _
  · exact Ob.RcOp.gt_int _ _ _ _
  · exact Ob.RcOp.ge_int _ _ _ _
theorem rc_tup (op : Oc) {A : Around} {l b : Addr} {items items2 : Array Value} {e r : Nat → Bool} (hl : s.heap.IsTuple l items) (hb : s.heap.IsTuple b items2) (hu : A.units < cLine)
    (he : ∀ j (h1 : j < items.size) (h2 : j < items2.size), SeqAt.EqAt A.in1 s items[j] items2[j] (e j))
    (hr : ∀ j (h1 : j < items.size) (h2 : j < items2.size), e j = false → Ob.RcOp op.c A.in1 s items[j] items2[j] (r j)) :
    Ob.RcOp op.c A s (.ref l) (.ref b) (Ob.lexAt e r (op.n items.size items2.size) 0 (min items.size items2.size)) := by
  cases op
  · exact Ob.RcOp.tuples_lt hl hb hu he hr
  · exact Ob.RcOp.tuples_le hl hb hu he hr
  · exact Ob.RcOp.tuples_gt hl hb hu he hr
  · exact Ob.RcOp.tuples_ge hl hb hu he hr
theorem ord_ok (I : Inv X pins σ H s) (op : Oc) : ∀ (n : Nat) (p q : PyData) (x y : V) (v u : Value) (b : Bool) (A : Around), Dp X.K H x p → Dp X.K H y q → RelV x v → RelV y u → p.canLay0 = true → q.canLay0 = true → A.units + p.depth < cLine →
    ordP op n p q = some b → Ob.RcOp op.c A s v u b := by
  intro n
  induction n with
  | zero =>
    intro p q x y v u b A hp hq rx ry lp lq hu h
    cases hp with
    | int i =>
      cases hq with
      | int j =>
        obtain ⟨t, rfl⟩ := rx
        obtain ⟨t', rfl⟩ := ry
        cases h
        exact rc_int op
      | _ => simp [ordP] at h
    | _ => cases hq <;> simp [ordP] at h
  | succ n ih =>
    intro p q x y v u b A hp hq rx ry lp lq hu h
    cases hp with
    | int i =>
      cases hq with
      | int j =>
        obtain ⟨t, rfl⟩ := rx
        obtain ⟨t', rfl⟩ := ry
        cases h
        exact rc_int op
      | _ => simp [ordP] at h
    | @tup a vs xs h1 d1 =>
      cases hq with
      | @tup a2 vs2 ys h2 d2 =>
        have h : ordL op (ordP op n) xs ys = some b := h
        cases rx
        cases ry
        obtain ⟨i1, r1, p1, _⟩ := I.tuple h1
        obtain ⟨i2, r2, p2, _⟩ := I.tuple h2
        have l1 : i1.toArray.size = xs.length := by rw [List.size_toArray, ← r1.length, DpAll.length d1]
        have l2 : i2.toArray.size = ys.length := by rw [List.size_toArray, ← r2.length, DpAll.length d2]
        have lp : PyData.canLayAll0 xs = true := by simpa only [PyData.canLay0] using lp
        have lq : PyData.canLayAll0 ys = true := by simpa only [PyData.canLay0] using lq
        have hd : A.units + (PyData.depthAll xs + 1) < cLine := by simpa only [PyData.depth] using hu
        have hit : ∀ j (z1 : j < i1.toArray.size) (z2 : j < i2.toArray.size), ∃ x' y' px py, xs[j]? = some px ∧ ys[j]? = some py ∧ Dp X.K H x' px ∧ Dp X.K H y' py ∧ RelV x' i1.toArray[j] ∧ RelV y' i2.toArray[j] := fun j z1 z2 => by
          obtain ⟨x', e1, rx⟩ := Vals.get2 r1 (show i1[j]? = some i1.toArray[j] by rw [List.getElem_toArray]; exact List.getElem?_eq_getElem _)
          obtain ⟨y', e2, ry⟩ := Vals.get2 r2 (show i2[j]? = some i2.toArray[j] by rw [List.getElem_toArray]; exact List.getElem?_eq_getElem _)
          obtain ⟨px, e3, q3⟩ := DpAll.get d1 e1
          obtain ⟨py, e4, q4⟩ := DpAll.get d2 e2
          exact ⟨x', y', px, py, e3, e4, q3, q4, rx, ry⟩
        have R := rc_tup op (A := A) (e := fun j => PyData.eqv (xs.getD j .none) (ys.getD j .none)) (r := fun j => (ordP op n (xs.getD j .none) (ys.getD j .none)).getD false) p1 p2 (by omega)
          (fun j z1 z2 => by
            obtain ⟨x', y', px, py, e1, e2, q1, q2, rx, ry⟩ := hit j z1 z2
            obtain ⟨as, g1⟩ := Dp.reads I px x' _ q1 rx
            obtain ⟨bs, g2⟩ := Dp.reads I py y' _ q2 ry
            have k1 := depth_get e1
            rw [List.getD_eq_getElem?_getD, List.getD_eq_getElem?_getD, e1, e2]
            refine SeqAt.eqAt_reads px py A.in1 s _ _ as bs g1 g2 (lay_get lp e1) (lay_get lq e2) ?_
            have : min px.depth py.depth ≤ px.depth := Nat.min_le_left _ _
            show A.units + 1 + min px.depth py.depth < cLine
            omega)
          (fun j z1 z2 he => by
            obtain ⟨x', y', px, py, e1, e2, q1, q2, rx, ry⟩ := hit j z1 z2
            have k1 := depth_get e1
            rw [List.getD_eq_getElem?_getD, List.getD_eq_getElem?_getD, e1, e2] at he ⊢
            obtain ⟨c, hc⟩ := ordL_all op _ xs ys b h j px py e1 e2 he
            rw [Option.getD_some, Option.getD_some, hc]
            refine ih px py x' y' _ _ c A.in1 q1 q2 rx ry (lay_get lp e1) (lay_get lq e2) ?_ hc
            show A.units + 1 + px.depth < cLine
            omega)
        rw [l1, l2] at R
        rw [lex_ord op (ordP op n) _ _ xs ys b 0 h (fun j px py e1 e2 => by
          rw [Nat.zero_add, List.getD_eq_getElem?_getD, List.getD_eq_getElem?_getD, e1, e2]
          exact ⟨rfl, fun _ => rfl⟩)] at R
        exact R
      | _ => simp [ordP] at h
    | _ => cases hq <;> simp [ordP] at h
theorem opd_ord (op : Oc) (hu : X.A.units + 64 < cLine) : OpD X (compareOp op.c) (ordD op) := by
  intro pins s σ H x y v u Q I rx ry hh
  obtain ⟨o, d1, d2, S, d, S', rfl, r1, r2, rs, e, q⟩ := hh
  unfold ordD at e
  split at e
  · cases e
    cases r1
    cases r2
    obtain ⟨t, rfl⟩ := rx
    obtain ⟨t', rfl⟩ := ry
    have R := rc_int (s := s) op (A := X.A) (i := _) (j := _) (t := t) (u := t') X.prog X.w X.xe (EP X pins σ Q) ⟨.bl _, o.H, I, rfl, q o _ .refl rs (.bl _)⟩
    cases op <;> exact R
  · obtain ⟨b, e1, e2⟩ := Option.map_eq_some_iff.mp e
    cases e2
    unfold ordO at e1
    split at e1
    · rename_i p p' g1 g2
      split at e1
      · rename_i hs
        have h1 := snap_ok rs _ _ _ _ r1 g1
        have h2 := snap_ok rs _ _ _ _ r2 g2
        have hd := SeqAt.depth_of_shaped hs.1
        have R := ord_ok I op deep p p' x y v u b X.A h1 h2 rx ry (SeqAt.canLay_of_shaped hs.1) (SeqAt.canLay_of_shaped hs.2) (by omega) e1 X.prog X.w X.xe (EP X pins σ Q) ⟨.bl _, o.H, I, rfl, q o _ .refl rs (.bl _)⟩
        cases op <;> exact R
      · cases e1
    · cases e1

/-! ### items -/
def ixD (d1 d2 : D) (S : Sto) : PR := match d2 with
  | .int i => (match seqOf S d1 with
    | some ds => (atI ds i).map fun d => (d, S)
    | none => (match d1 with
      | .str z => if z.length ≤ sizeLine then (atI z.cps.toList i).map fun c => (.str ⟨#[c]⟩, S) else none
      | _ => none))
  | _ => none
def rDI (K : PySem.W.Frag) (mw : MW) (g : D → D → Sto → PR) : R2 := rDD K mw g
theorem atI_rel {K : PySem.W.Frag} {mw : MW} {o : Wd} {ds : List D} {vs : List V} {i : Int} {d : D} (r : RDs K mw o ds vs) (h : atI ds i = some d) : ∃ v, atI vs i = some v ∧ RD K mw o d v := by
  unfold atI at h ⊢
  rw [← r.length]
  cases hx : ixN ds.length i with
  | none => rw [hx] at h; cases h
  | some j => rw [hx] at h; exact r.get h
theorem ixd_seq : IxR X (rDD X.K X.mw ixD) := by
  intro value slice pins s σ H x y v u Q I rx ry hh hsl
  obtain ⟨o, d1, d2, S, d, S', rfl, r1, r2, rs, e, q⟩ := hh
  unfold ixD at e
  split at e
  · cases r2
    split at e
    · rename_i ds hs
      obtain ⟨d', e1, e2⟩ := Option.map_eq_some_iff.mp e
      cases e2
      obtain ⟨a, vs, rfl, p, hsq⟩ := r1.seq rs hs
      obtain ⟨w, hw, rw'⟩ := atI_rel p e1
      rcases hsq with h1 | h1
      · exact ix_list value slice pins s σ _ _ _ v u Q I rx ry ⟨a, vs, _, w, rfl, rfl, h1, hw, q o _ .refl rs rw'⟩ hsl
      · exact ix_tup value slice pins s σ _ _ _ v u Q I rx ry ⟨a, vs, _, w, rfl, rfl, h1, hw, q o _ .refl rs rw'⟩ hsl
    · split at e
      · split at e
        · rename_i hz
          obtain ⟨c, e1, e2⟩ := Option.map_eq_some_iff.mp e
          cases e2
          cases r1
          exact ix_str value slice pins s σ _ _ _ v u Q I rx ry ⟨_, _, c, rfl, rfl, hz, e1, q o _ .refl rs (.str _)⟩ hsl
        · cases e
      · cases e
  · cases e
/-! ### slices -/
def cutD (xs : List D) (lo hi : Option Int) : List D := (xs.drop (HT.sIx xs.length 0 lo)).take (HT.sIx xs.length xs.length hi - HT.sIx xs.length 0 lo)
def slD (d : D) (lo hi : Option Int) (S : Sto) : PR := match d with
  | .tup ds => some (.tup (cutD ds lo hi), S)
  | .str z => none
  | a => (match lisOf S a with
    | some ds => some (.loc S.length, S ++ [.lst (cutD ds lo hi)])
    | none => none)
abbrev FO := Env → Sto → Out (Option Int)
def oNone : FO := fun _ S => .ok none S
def oSome (fe : FE) : FO := fun env S => (fe env S).bind fun d S1 => match d with
  | .int i => .ok (some i) S1
  | _ => .stk
def eSl (fa : FE) (fl fh : FO) : FE := fun env S => (fa env S).bind fun d S1 => (fl env S1).bind fun l S2 => (fh env S2).bind fun h S3 => lift (slD d l h S3)
def tOi (K : PySem.W.Frag) (mw : MW) (W : WX) (f : FO) : TO := fun σ H Q => ∃ env S o, At K mw env S o σ H ∧ Post K mw (wx K mw W σ) (fun i _ o' => Q i o'.H) o (f env S)
theorem cut_rel {K : PySem.W.Frag} {mw : MW} {o : Wd} {ds : List D} {vs : List V} {lo hi : Option Int} (r : RDs K mw o ds vs) : RDs K mw o (cutD ds lo hi) (cutV vs lo hi) := by
  unfold cutD cutV
  rw [← r.length]
  exact (r.drop _).take _
theorem d_onone {W : WX} : PO X none (tOi X.K X.mw W oNone) := by
  refine ⟨fun pins s σ H Q I h => po_none.run pins s σ H Q I ?_⟩
  obtain ⟨env, S, o, ⟨rfl, re, rs⟩, p⟩ := h
  exact p.here rs
theorem d_osome {a : Expr} {fa : FE} {W : WX} (ha : PE X a (tE X.K X.mw W fa)) : PO X (some a) (tOi X.K X.mw W (oSome fa)) := by
  refine ⟨fun pins s σ H Q I h => (po_some ha).run pins s σ H Q I ?_⟩
  obtain ⟨env, S, o, ⟨rfl, re, rs⟩, p⟩ := h
  refine ⟨env, S, o, ⟨rfl, re, rs⟩, (Post.bind p).imp fun d1 S1 o1 l1 rs1 p1 v1 r1 => ?_⟩
  cases r1 with
  | int i => exact ⟨i, rfl, p1.here rs1⟩
  | _ => exact False.elim p1
def rSlD (K : PySem.W.Frag) (mw : MW) : V → Option Int → Option Int → Hp → VK → Prop := fun x lo hi H Q =>
  ∃ o d1 S d S', o.H = H ∧ RD K mw o d1 x ∧ RS K mw o S ∧ slD d1 lo hi S = some (d, S') ∧ ∀ o' v, Le K o o' → RS K mw o' S' → RD K mw o' d v → Q v o'.H
theorem cut_whole {xs : List V} {lo hi : Option Int} (h : HT.sIx xs.length 0 lo = 0 ∧ HT.sIx xs.length xs.length hi = xs.length) : cutV xs lo hi = xs := by
  unfold cutV
  rw [h.1, h.2]
  simp
theorem sld_ok : SlR X (rSlD X.K X.mw) := by
  intro pins s σ H x v vl vu lo hi sl Q I rx hs pl pu hh
  obtain ⟨o, d1, S, d, S', rfl, r1, rs, e, q⟩ := hh
  unfold slD at e
  split at e
  · cases e
    cases r1 with
    | @tup a ds vs h1 p1 =>
    refine sl_tupA pins s σ _ _ v vl vu lo hi sl Q I rx hs pl pu ⟨a, vs, rfl, h1, fun hw => ?_, fun hw p hp => ?_⟩
    · refine q o _ .refl rs (.tup h1 ?_)
      have := cut_rel (lo := lo) (hi := hi) p1
      rw [cut_whole hw] at this
      exact this
    · obtain ⟨a1, a2, a3⟩ := rs.newTup hp (cut_rel (lo := lo) (hi := hi) p1)
      exact q _ _ a1 a2 a3
  · cases e
  · split at e
    · rename_i ds hl
      cases e
      obtain ⟨a, vs, rfl, p1, h1⟩ := r1.lis rs hl
      refine sl_list pins s σ _ _ v vl vu lo hi sl Q I rx hs pl pu ⟨a, vs, rfl, h1, fun p hp => ?_⟩
      obtain ⟨a1, a2, a3⟩ := rs.newLst hp (cut_rel (lo := lo) (hi := hi) p1)
      exact q _ _ a1 a2 a3
    · cases e
theorem d_sl {a : Expr} {lo hi : Option Expr} {fa : FE} {fl fh : FO} {W : WX} {p2 pos : Pos} (ha : PE X a (tE X.K X.mw W fa)) (hl : PO X lo (tOi X.K X.mw W fl)) (hh : PO X hi (tOi X.K X.mw W fh)) :
    PE X (.Subscript a (.Slice lo hi none p2) pos) (tE X.K X.mw W (eSl fa fl fh)) := by
  refine PE.imp (pe_slice sld_ok ha hl hh) fun σ H Q h => ?_
  obtain ⟨env, S, o, ⟨rfl, re, rs⟩, p⟩ := h
  refine ⟨env, S, o, ⟨rfl, re, rs⟩, (Post.bind p).imp fun d1 S1 o1 l1 rs1 p1 v1 r1 => ?_⟩
  refine ⟨env, S1, o1, ⟨rfl, re.up l1, rs1⟩, (Post.bind p1).imp fun i S2 o2 l2 rs2 p2 => ?_⟩
  refine ⟨env, S2, o2, ⟨rfl, re.up (l1.trans l2), rs2⟩, (Post.bind p2).imp fun j S3 o3 l3 rs3 p3 => ?_⟩
  obtain ⟨d, S', e, q⟩ := lift_post p3
  exact ⟨o3, d1, S3, d, S', rfl, r1.up (l2.trans l3), rs3, e, fun o' v l rs r => q o' l rs v r⟩
end
end PV

set_option Elab.async false
set_option linter.all false
set_option maxRecDepth 100000
set_option maxHeartbeats 3999000
namespace PV
open L2 PyProof.Rows PySem PySem.Spec

/-! ### a[::-1] -/
def revD (d : D) (S : Sto) : PR := match d with
  | .tup ds => some (.tup ds.reverse, S)
  | .str z => none
  | a => (match lisOf S a with
    | some ds => some (.loc S.length, S ++ [.lst ds.reverse])
    | none => none)
def kRev2 (d : D) : D → Sto → Out D
  | .int i, S => if i = -1 then lift (revD d S) else .stk
  | _, _ => .stk
def eRev (fa fs : FE) : FE := fun env S => (fa env S).bind fun d S1 => (fs env S1).bind (kRev2 d)
theorem fm_congr {α β : Type} {f g : α → Option β} : ∀ l : List α, (∀ x ∈ l, f x = g x) → l.filterMap f = l.filterMap g
  | [], _ => rfl
  | a :: r, h => by
    rw [List.filterMap_cons, List.filterMap_cons, h a (List.mem_cons_self ..), fm_congr r fun x hx => h x (List.mem_cons_of_mem _ hx)]
section
variable {w : World} {prog : Program} {s : Shared} {A : Around} {E : Value → Shared → Prop}
theorem back_pick {xs : Array Value} : ((List.range xs.size).filterMap fun (m : Nat) => xs[(((xs.size : Int) - 1) + (m : Int) * (-1)).toNat]?).toArray = xs.toList.reverse.toArray := by
  have e : (List.range xs.size).filterMap (fun (m : Nat) => xs[(((xs.size : Int) - 1) + (m : Int) * (-1)).toNat]?) = ((List.range xs.size).map fun k => xs.size - 1 - k).filterMap (xs[·]?) := by
    rw [List.filterMap_map]
    refine fm_congr _ fun m hm => ?_
    have := List.mem_range.mp hm
    rw [show (((xs.size : Int) - 1) + (m : Int) * (-1)).toNat = xs.size - 1 - m by omega]
    rfl
  rw [e, PySem.W.krv_range, List.filterMap_reverse, PySem.W.krv_all]
/-- the places of [::-1] in n items -/
theorem back_places (n : Nat) : (match Builtin.Slice.sliceAdjust none none (-1) (n : Int) with | (lo, hi) => (lo, (-1 : Int), Builtin.Slice.slicePlaces lo hi (-1))) = ((n : Int) - 1, -1, n) := by
  show ((n : Int) - 1, (-1 : Int), Builtin.Slice.slicePlaces ((n : Int) - 1) (-1) (-1)) = _
  have : Builtin.Slice.slicePlaces ((n : Int) - 1) (-1) (-1) = n := by
    simp only [Builtin.Slice.slicePlaces]
    by_cases h : 0 < n <;> simp <;> omega
  rw [this]
theorem back_applied {sl : Addr} {vk : Value} {n : Nat} {Q : Int × Int × Nat → Shared → Prop} (hs : s.heap.IsSliceOf sl .none .none vk) (pk : IsPart vk (some (-1)))
    (h : Q ((n : Int) - 1, -1, n) s) : wpAny (model prog w) A (Builtin.Slice.sliceApplied (.ref sl) (pure (n : Int))) Q E s := by
  have ⟨ob, hob, _, hdb⟩ := hs
  have fld : ∀ {i : Nat} {x : Value} {R : Value → Shared → Prop}, #[Value.none, .none, vk][i]? = some x → R x s → wpAny (model prog w) A (field (.ref sl) i) R E s := fun hx q => wpAny_field hob hdb hx q
  simp only [Builtin.Slice.sliceApplied, Builtin.Slice.sliceFields]
  refine wpAny_bind (wpAny_bind (fld rfl (wpAny_bind (fld rfl (wpAny_bind (fld rfl (wpAny_pure (wpAny_bind (HT.slicePart_ pk ?_))))))))) 
  refine wpAny_bind (HT.slicePart_ .none (wpAny_bind (HT.slicePart_ .none (wpAny_bind (wpAny_pure (wpAny_pure ?_))))))
  exact (show Q (match Builtin.Slice.sliceAdjust none none (-1) (n : Int) with | (lo, hi) => (lo, (-1 : Int), Builtin.Slice.slicePlaces lo hi (-1))) s by rw [back_places]; exact h)
/-- what tuple.__getitem__ does is what t[u] is -/
theorem tup_item {t : Addr} {its : Array Value} {u : Value} {Q : Value → Shared → Prop} (ht : IsTup s.heap t its) (h : wpAny (model prog w) A.in1 (Builtin.«tuple.__getitem__» ⟨[.ref t, u], []⟩) (fun r s' => ∃ x, r = .done (.ret x) ∧ Q x s') E s) :
    wpAny (model prog w) A (getItem (.ref t) u) Q E s := by
  simp only [getItem]
  exact wpAny_holding (wpAny_bind (wpAny_sequenceKey ht.typeIs (by decide) (wpAny_bind (wpAny_callSpecial?_slot ht.typeIs PyProof.Rows.slot_tuple_getitem
    (wpAny_call_entry PyProof.Rows.slot_tuple_getitem ht.typeIs entry_tuple_getitem (wpAny_mono h (fun _ _ ⟨x, e, q⟩ => ⟨x, e, wpAny_pure q⟩) fun _ _ z => z) (args_tuple_getitem _ _))))))
theorem back_tuple {t sl : Addr} {its : Array Value} {vk : Value} {Q : Value → Shared → Prop} (ht : IsTup s.heap t its) (hs : s.heap.IsSliceOf sl .none .none vk) (pk : IsPart vk (some (-1)))
    (h : Q (.ref s.heap.objs.size) { s with heap := s.heap.push { cls := .type "tuple", data := .seq its.toList.reverse.toArray } })
    (hsz : its.size ≤ sizeLine) : wpAny (model prog w) A (getItem (.ref t) (.ref sl)) Q E s := by
  have fits : sizeOk (.seq its.toList.reverse.toArray) := Nat.le_trans (Nat.le_of_eq (by simp)) hsz
  have ⟨ob, hob, hcb, _⟩ := hs
  have isSl : s.TypeIs (.ref sl) "slice" := ⟨ob, hob, hcb⟩
  refine tup_item ht (wpAny_bind (wpAny_of_eq (a := (Value.ref t, [Value.ref sl])) rfl (wpAny_bind (tupleItemsOf_ ht (wpAny_bind (wpAny_typeOf isSl ?_))))))
  rw [if_pos (by decide)]
  refine wpAny_bind (back_applied hs pk ?_)
  have one : (((its.size : Int) - 1) == 0 && (-1 : Int) == 1 && its.size == its.size) = false := by simp
  show wpAny _ _ (if (((its.size : Int) - 1) == 0 && (-1 : Int) == 1 && its.size == its.size) = true then _ else _) _ _ s
  rw [one, back_pick]
  exact wpAny_bind (wpAny_newObj_type (wpAny_pure ⟨_, rfl, h⟩) fits)
end
section
variable {X : Cx}
theorem Vals.back : ∀ {xs : List V} {us : List Value}, Vals xs us → Vals xs.reverse us.reverse
  | _, _, .nil => .nil
  | _, _, .cons r t => by
    simpa using (Vals.back t).append (.cons r .nil)
theorem RDs.back {K : PySem.W.Frag} {mw : MW} {o : Wd} : ∀ {ds : List D} {vs : List V}, RDs K mw o ds vs → RDs K mw o ds.reverse vs.reverse
  | _, _, .nil => .nil
  | _, _, .cons r t => by
    simpa using (RDs.back t).append (.cons r .nil)
/-- what v[::-1] is, once its slice stands at sl -/
def BkR (X : Cx) (r : V → Hp → VK → Prop) : Prop := ∀ {pins s σ H x v vk sl Q} (e ks : Expr) (p2 : Pos), Inv X pins σ H s → RelV x v → s.heap.IsSliceOf sl .none .none vk → IsPart vk (some (-1)) → r x H Q →
  wpAny (model X.prog X.w) X.A (subscriptTail e (.Slice none none (some ks) p2) v (.ref sl)) (EP X pins σ Q) X.xe s
def rBk (K : PySem.W.Frag) (mw : MW) : V → Hp → VK → Prop := fun x H Q =>
  ∃ o d1 S d S', o.H = H ∧ RD K mw o d1 x ∧ RS K mw o S ∧ revD d1 S = some (d, S') ∧ ∀ o' v, Le K o o' → RS K mw o' S' → RD K mw o' d v → Q v o'.H
theorem bk_ok : BkR X (rBk X.K X.mw) := by
  intro pins s σ H x v vk sl Q e' ks p2 I rx hs pk hh
  obtain ⟨o, d1, S, d, S', rfl, r1, rs, e, q⟩ := hh
  unfold revD at e
  split at e
  · cases e
    cases r1 with
    | @tup a ds vs h1 p1 =>
    cases rx
    obtain ⟨its, r, ht, hz⟩ := I.tuple h1
    have hlen : its.toArray.size = vs.length := by rw [List.size_toArray]; exact r.length.symm
    refine tail_any (ops := [.ref a, .ref sl]) ht.typeIs PyProof.Rows.slot_tuple_getitem.lookup (back_tuple ht hs pk ?_ (by rw [hlen]; exact hz)) (by with_unfolding_all rfl)
    obtain ⟨a1, a2, a3⟩ := rs.newTup (I.hok.fresh (Nat.le_refl _)) (RDs.back p1)
    refine ⟨.ref s.heap.objs.size, _, I.laid (t' := s.toks) (o := .tup vs.reverse) (fun b ob q => Heap.get?_push_of_some _ q) (Nat.le_refl _) ?_, rfl, q _ _ a1 a2 a3⟩
    exact ⟨by rw [List.length_reverse]; exact hz, _, Vals.back r, IsTup.new _ _⟩
  · cases e
  · split at e
    · rename_i ds hl
      cases e
      obtain ⟨a, vs, rfl, p1, h1⟩ := r1.lis rs hl
      cases rx
      obtain ⟨its, r, ht, hz⟩ := I.list h1
      have hlen := r.length
      refine tail_any (ops := [.ref a, .ref sl]) ht.isList.typeIs slot_list_getitem.lookup (wpAny_getItem_list_slice ht.isList hs .none .none pk (by decide) ?_ (by rw [List.size_toArray] <;> omega)) (by with_unfolding_all rfl)
      rw [PySem.W.krv_pick]
      obtain ⟨a1, a2, a3⟩ := rs.newLst (I.hok.fresh (Nat.le_refl _)) (RDs.back p1)
      refine ⟨.ref s.heap.objs.size, _, I.laid (t' := s.toks) (o := .lst vs.reverse) (fun b ob q => Heap.get?_push_of_some _ q) (Nat.le_refl _) ?_, rfl, q _ _ a1 a2 a3⟩
      exact ⟨by rw [List.length_reverse]; exact hz, _, 0, Vals.back r, Heap.get?_push_size _ rfl⟩
    · cases e
def tBk (r : V → Hp → VK → Prop) (te : TE) (tk : TO) : TE := fun σ H Q => te σ H fun x H1 => tk σ H1 fun k H2 => k = some (-1) ∧ r x H2 Q
theorem pe_back {r : V → Hp → VK → Prop} {e ks : Expr} {te : TE} {tk : TO} {p2 pos : Pos} (hr : BkR X r) (he : PE X e te) (hk : PO X (some ks) tk) : PE X (.Subscript e (.Slice none none (some ks) p2) pos) (tBk r te tk) := by
  refine ⟨fun pins s σ H Q I h => Subscript_ (thn (he.run pins s σ H _ I h) fun v s1 ⟨x, H1, I1, rx, q1⟩ => wpAny_Slice ?_)⟩
  rw [evalPart_none]
  exact wpAny_pure (wpAny_pure (thn (hk.run pins s1 σ H1 _ I1 q1) fun vk s2 ⟨k, H2, I2, pk, ek, q2⟩ => hr e ks p2 (I2.kept (t' := s2.toks) fun b ob q => Heap.get?_push_of_some _ q) rx (Heap.IsSliceOf.new ..) (ek ▸ pk) q2))
theorem d_rev {a ks : Expr} {fa fs : FE} {W : WX} {p2 pos : Pos} (ha : PE X a (tE X.K X.mw W fa)) (hk : PE X ks (tE X.K X.mw W fs)) : PE X (.Subscript a (.Slice none none (some ks) p2) pos) (tE X.K X.mw W (eRev fa fs)) := by
  refine PE.imp (pe_back bk_ok ha (po_some hk)) fun σ H Q h => ?_
  obtain ⟨env, S, o, ⟨rfl, re, rs⟩, p⟩ := h
  refine ⟨env, S, o, ⟨rfl, re, rs⟩, (Post.bind p).imp fun d1 S1 o1 l1 rs1 p1 v1 r1 => ?_⟩
  refine ⟨env, S1, o1, ⟨rfl, re.up l1, rs1⟩, (Post.bind p1).imp fun d2 S2 o2 l2 rs2 p2 v2 r2 => ?_⟩
  cases r2 with
  | int i =>
    have p2 : Post X.K X.mw _ _ o2 (if i = -1 then lift (revD d1 S2) else .stk) := p2
    split at p2
    · rename_i hi
      subst hi
      obtain ⟨d, S', e, q⟩ := lift_post p2
      exact ⟨-1, rfl, rfl, o2, d1, S2, d, S', rfl, r1.up l2, rs2, e, fun o' v l rs r => q o' l rs v r⟩
    · exact False.elim p2
  | _ => exact False.elim p2
end
end PV

set_option Elab.async false
set_option linter.all false
set_option maxRecDepth 100000
set_option maxHeartbeats 3999000
namespace PV
open L2 PyProof.Rows PySem PySem.Spec

/-! ### keys as data -/
mutual
def pdK : TK → PyData
  | .int i => .int i
  | .str x => .str x
  | .tup ks => .tuple (pdKs ks)
def pdKs : List TK → List PyData
  | [] => []
  | k :: r => pdK k :: pdKs r
end
mutual
theorem pdK_plain : ∀ k : TK, (pdK k).plain = true
  | .int _ => by simp [pdK, PyData.plain]
  | .str _ => by simp [pdK, PyData.plain]
  | .tup ks => by simp [pdK, PyData.plain, pdKs_plain ks]
theorem pdKs_plain : ∀ ks : List TK, PyData.plainAll (pdKs ks) = true
  | [] => by simp [pdKs, PyData.plainAll]
  | k :: r => by simp [pdKs, PyData.plainAll, pdK_plain k, pdKs_plain r]
end
mutual
theorem pdK_inj : ∀ {a b : TK}, pdK a = pdK b → a = b
  | .int i, .int j, h => by simp [pdK] at h; rw [h]
  | .str i, .str j, h => by simp [pdK] at h; rw [h]
  | .tup i, .tup j, h => by simp [pdK] at h; rw [pdKs_inj h]
  | .int _, .str _, h => by simp [pdK] at h
  | .int _, .tup _, h => by simp [pdK] at h
  | .str _, .int _, h => by simp [pdK] at h
  | .str _, .tup _, h => by simp [pdK] at h
  | .tup _, .int _, h => by simp [pdK] at h
  | .tup _, .str _, h => by simp [pdK] at h
theorem pdKs_inj : ∀ {a b : List TK}, pdKs a = pdKs b → a = b
  | [], [], _ => rfl
  | [], _ :: _, h => by simp [pdKs] at h
  | _ :: _, [], h => by simp [pdKs] at h
  | a :: r, b :: s, h => by
    simp [pdKs] at h
    rw [pdK_inj h.1, pdKs_inj h.2]
end
mutual
theorem pdK_eqv : ∀ (a b : TK), PyData.eqv (pdK a) (pdK b) = decide (a = b)
  | .int i, .int j => by
    simp only [pdK, PyData.eqv]
    rw [Bool.eq_iff_iff]
    simp
  | .str i, .str j => by
    simp only [pdK, PyData.eqv]
    rw [Bool.eq_iff_iff]
    simp
  | .tup i, .tup j => by
    simp only [pdK, PyData.eqv, pdKs_eqv i j]
    rw [Bool.eq_iff_iff]
    simp
  | .int _, .str _ => by simp [pdK, PyData.eqv]
  | .int _, .tup _ => by simp [pdK, PyData.eqv]
  | .str _, .int _ => by simp [pdK, PyData.eqv]
  | .str _, .tup _ => by simp [pdK, PyData.eqv]
  | .tup _, .int _ => by simp [pdK, PyData.eqv]
  | .tup _, .str _ => by simp [pdK, PyData.eqv]
theorem pdKs_eqv : ∀ (a b : List TK), PyData.eqvAll (pdKs a) (pdKs b) = decide (a = b)
  | [], [] => by simp [pdKs, PyData.eqvAll]
  | [], _ :: _ => by simp [pdKs, PyData.eqvAll]
  | _ :: _, [] => by simp [pdKs, PyData.eqvAll]
  | a :: r, b :: s => by
    simp only [pdKs, PyData.eqvAll, pdK_eqv a b, pdKs_eqv r s]
    rw [Bool.eq_iff_iff]
    simp
end
mutual
theorem pdK_depth : ∀ k : TK, (pdK k).depth ≤ k.deep
  | .int _ => by simp [pdK, PyData.depth]
  | .str _ => by simp [pdK, PyData.depth]
  | .tup ks => by
    have := pdKs_depth ks
    simp only [pdK, PyData.depth, TK.deep]
    omega
theorem pdKs_depth : ∀ ks : List TK, PyData.depthAll (pdKs ks) ≤ TK.deepAll ks
  | [] => by simp [pdKs, PyData.depthAll]
  | k :: r => by
    have h1 := pdK_depth k
    have h2 := pdKs_depth r
    simp only [pdKs, PyData.depthAll, TK.deepAll]
    omega
end
/-- a value that reads as the key -/
def TkIs (h : Heap) (k : TK) (v : Value) : Prop := ∃ as, Reads h v (pdK k) as
def TksIs (h : Heap) (ks : List TK) (vs : List Value) : Prop := ∃ as, ReadsAll h vs (pdKs ks) as
theorem TkIs.tup {h : Heap} {ks : List TK} {v : Value} (x : TkIs h (.tup ks) v) : ∃ a o items n, v = .ref a ∧ h.get? a = some o ∧ o.cls = .type "tuple" ∧ o.data = .seq items n ∧ TksIs h ks items.toList := by
  obtain ⟨as, r⟩ := x
  simp only [pdK] at r
  cases r with
  | tuple h1 h2 h3 h4 => exact ⟨_, _, _, _, rfl, h1, h2, h3, _, h4⟩
theorem TksIs.cons {h : Heap} {k : TK} {ks : List TK} {vs : List Value} (x : TksIs h (k :: ks) vs) : ∃ v r, vs = v :: r ∧ TkIs h k v ∧ TksIs h ks r := by
  obtain ⟨as, r⟩ := x
  simp only [pdKs] at r
  cases r with
  | cons h1 h2 => exact ⟨_, _, rfl, ⟨_, h1⟩, ⟨_, h2⟩⟩
theorem TksIs.nil {h : Heap} {vs : List Value} (x : TksIs h [] vs) : vs = [] := by
  obtain ⟨as, r⟩ := x
  simp only [pdKs] at r
  cases r
  rfl
mutual
theorem TkIs.keeps {h h' : Heap} {d : Addr} {o : Obj} {es : Array DictEntry} {ep : Nat} (ho : h.get? d = some o) (hd : o.data = .dict es ep) (hs : Heap.SameBut d h h') : ∀ {k : TK} {v : Value}, TkIs h k v → TkIs h' k v
  | .int i, v, ⟨as, r⟩ => by
    simp only [pdK] at r
    cases r
    exact ⟨_, .int _ _⟩
  | .str i, v, ⟨as, r⟩ => by
    simp only [pdK] at r
    cases r
    exact ⟨_, .str _ _⟩
  | .tup ks, v, x => by
    obtain ⟨a, oa, items, n, rfl, h1, h2, h3, h4⟩ := x.tup
    have hne : a ≠ d := by
      rintro rfl
      rw [ho] at h1
      cases h1
      rw [hd] at h3
      exact nomatch h3
    obtain ⟨as, r⟩ := TksIs.keeps ho hd hs h4
    exact ⟨as, .tuple ((hs.2 a hne).trans h1) h2 h3 r⟩
theorem TksIs.keeps {h h' : Heap} {d : Addr} {o : Obj} {es : Array DictEntry} {ep : Nat} (ho : h.get? d = some o) (hd : o.data = .dict es ep) (hs : Heap.SameBut d h h') : ∀ {ks : List TK} {vs : List Value}, TksIs h ks vs → TksIs h' ks vs
  | [], vs, x => by
    rw [x.nil]
    exact ⟨_, .nil⟩
  | k :: ks, vs, x => by
    obtain ⟨v, r, rfl, h1, h2⟩ := x.cons
    obtain ⟨as, q1⟩ := TkIs.keeps ho hd hs h1
    obtain ⟨bs, q2⟩ := TksIs.keeps ho hd hs h2
    exact ⟨_, .cons q1 q2⟩
end
/-! ### the kit's nested keys -/
mutual
def nk : TK → NestedKey
  | .int i => .num i
  | .str x => .text x
  | .tup ks => .tup (nks ks)
def nks : List TK → List NestedKey
  | [] => []
  | k :: r => nk k :: nks r
end
mutual
theorem nk_hash (w : World) : ∀ k : TK, (nk k).hash w = TK.hash w k
  | .int _ => by simp [nk, NestedKey.hash, TK.hash, keyH]
  | .str _ => by simp [nk, NestedKey.hash, TK.hash, keyH]
  | .tup ks => by simp [nk, NestedKey.hash, TK.hash, nks_hash w ks]
theorem nks_hash (w : World) : ∀ ks : List TK, NestedKey.hashes w (nks ks) = TK.hashes w ks
  | [] => by simp [nks, NestedKey.hashes, TK.hashes]
  | k :: r => by simp [nks, NestedKey.hashes, TK.hashes, nk_hash w k, nks_hash w r]
end
mutual
theorem nk_draws : ∀ k : TK, (nk k).draws = k.draws
  | .int _ => by simp [nk, NestedKey.draws, TK.draws]
  | .str _ => by simp [nk, NestedKey.draws, TK.draws]
  | .tup ks => by simp [nk, NestedKey.draws, TK.draws, nks_draws ks]
theorem nks_draws : ∀ ks : List TK, NestedKey.drawsAll (nks ks) = TK.drawsAll ks
  | [] => by simp [nks, NestedKey.drawsAll, TK.drawsAll]
  | k :: r => by simp [nks, NestedKey.drawsAll, TK.drawsAll, nk_draws k, nks_draws r]
end
mutual
theorem nk_depth : ∀ k : TK, (nk k).depth = k.deep
  | .int _ => by simp [nk, NestedKey.depth, TK.deep]
  | .str _ => by simp [nk, NestedKey.depth, TK.deep]
  | .tup ks => by simp [nk, NestedKey.depth, TK.deep, nks_depth ks]
theorem nks_depth : ∀ ks : List TK, NestedKey.depthAll (nks ks) = TK.deepAll ks
  | [] => by simp [nks, NestedKey.depthAll, TK.deepAll]
  | k :: r => by simp [nks, NestedKey.depthAll, TK.deepAll, nk_depth k, nks_depth r]
end
mutual
theorem TkIs.nested {h : Heap} : ∀ {k : TK} {v : Value}, TkIs h k v → NestedIs h (nk k) v
  | .int i, v, ⟨as, r⟩ => by
    simp only [pdK] at r
    cases r
    simpa [nk] using NestedIs.int _ _
  | .str i, v, ⟨as, r⟩ => by
    simp only [pdK] at r
    cases r
    simpa [nk] using NestedIs.text _ _
  | .tup ks, v, x => by
    obtain ⟨a, oa, items, n, rfl, h1, h2, h3, h4⟩ := x.tup
    simpa [nk] using NestedIs.tup h1 h2 h3 (TksIs.nested h4)
theorem TksIs.nested {h : Heap} : ∀ {ks : List TK} {vs : List Value}, TksIs h ks vs → NestedAll h (nks ks) vs
  | [], vs, x => by
    rw [x.nil]
    simpa [nks] using NestedAll.nil
  | k :: ks, vs, x => by
    obtain ⟨v, r, rfl, h1, h2⟩ := x.cons
    simpa [nks] using NestedAll.cons (TkIs.nested h1) (TksIs.nested h2)
end
end PV

set_option Elab.async false
set_option linter.all false
set_option maxRecDepth 100000
set_option maxHeartbeats 3999000
namespace PV
open L2 PyProof.Rows PySem PySem.Spec

/-! ### the kind of keys -/
/-- keys of the store, as a kind: the kit's nested keys, seen through nk -/
def dataKind (prog : Program) (w : World) : HeapKind prog w TK where
  is h k a := TkIs h k (.ref a) ∧ k.deep ≤ 8
  hash := TK.hash w
  draws := TK.draws
  room := (nestedKind prog w).room
  inj := fun ⟨⟨_, r⟩, _⟩ ⟨⟨_, r'⟩, _⟩ => pdK_inj (SeqAt.plain_unique _ _ _ _ _ (pdK_plain _) r r')
  keeps x ho hd hs := ⟨x.1.keeps ho hd hs, x.2⟩
  pyHash {A E s k a Q} hu hk h := (nestedKind prog w).pyHash hu ⟨hk.1.nested, Nat.le_trans (Nat.le_of_eq (nk_depth k)) hk.2⟩ (by
    show Q ((nk k).hash w) { s with toks := s.toks + (nk k).draws }
    rw [nk_hash, nk_draws]
    exact h)
  eqBool {A E s x y a b Q} hu hx hy h := SeqAt.eqAt_plain _ _ A s _ _ _ _ hx.1.choose_spec hy.1.choose_spec (pdK_plain _) (pdK_plain _) (by
    have hu : A.units + 8 < cLine := hu
    have := pdK_depth x
    have := hx.2
    omega) prog w E Q (by rw [pdK_eqv]; exact h)
  quiet {A E s k a Q} hk h := (nestedKind prog w).quiet ⟨hk.1.nested, Nat.le_trans (Nat.le_of_eq (nk_depth k)) hk.2⟩ h

/-! ### dicts of the store -/
mutual
def tkOf : D → Option TK
  | .int i => some (.int i)
  | .str x => some (.str x)
  | .tup ds => (tksOf ds).map .tup
  | _ => none
def tksOf : List D → Option (List TK)
  | [] => some []
  | d :: r => match tkOf d, tksOf r with
    | some k, some ks => some (k :: ks)
    | _, _ => none
end
mutual
theorem tkOf_keyD : ∀ {d : D} {k : TK}, tkOf d = some k → keyD k = d
  | .int i, k, h => by cases h; simp [keyD]
  | .str i, k, h => by cases h; simp [keyD]
  | .tup ds, k, h => by
    simp only [tkOf] at h
    obtain ⟨ks, e, rfl⟩ := Option.map_eq_some_iff.mp h
    simp [keyD, tksOf_keyD e]
  | .non, k, h => by cases h
  | .bl _, k, h => by cases h
  | .loc _, k, h => by cases h
  | .gl _, k, h => by cases h
  | .ty _, k, h => by cases h
  | .fz _, k, h => by cases h
theorem tksOf_keyD : ∀ {ds : List D} {ks : List TK}, tksOf ds = some ks → keyDs ks = ds
  | [], ks, h => by cases h; simp [keyDs]
  | d :: r, ks, h => by
    simp only [tksOf] at h
    split at h
    · rename_i k ks' e1 e2
      cases h
      simp [keyDs, tkOf_keyD e1, tksOf_keyD e2]
    · cases h
end
/-- a key that is a tuple, of few levels -/
def tkT (d : D) : Option TK := match d with
  | .tup ds => (match tkOf (.tup ds) with
    | some k => if k.deep ≤ 8 then some k else none
    | none => none)
  | _ => none
theorem tkT_ok {d : D} {k : TK} (h : tkT d = some k) : keyD k = d ∧ k.deep ≤ 8 ∧ ∃ ds, d = .tup ds := by
  unfold tkT at h
  split at h
  · split at h
    · rename_i k' e
      split at h
      · rename_i hd; cases h; exact ⟨tkOf_keyD e, hd, _, rfl⟩
      · cases h
    · cases h
  · cases h
def keyS : D → Option Key
  | .int i => some (.inl i)
  | .str x => some (.inr x)
  | _ => none
def dval {κ : Type} [DecidableEq κ] (kvs : List (κ × D)) (k : κ) : Option D := (kvs.find? fun p => decide (p.1 = k)).map (·.2)
def dput {κ : Type} [DecidableEq κ] (kvs : List (κ × D)) (k : κ) (d : D) : List (κ × D) := if (dval kvs k).isSome = true then kvs.map (fun p => if p.1 = k then (p.1, d) else p) else kvs ++ [(k, d)]
/-- the dict at n looked into with a key: its value, the store (an empty dict takes the kind of its first key) -/
def dlook (S : Sto) (n : Nat) (d : D) : Option (Option D × Sto) := match S[n]? with
  | some (.dd kvs) => (match tkT d with
    | some k => some (dval kvs k, S)
    | none => none)
  | some (.dk kvs) => (match keyS d with
    | some k => some (dval kvs k, S)
    | none => (match kvs, tkT d with
      | [], some _ => some (none, S.set n (.dd []))
      | _, _ => none))
  | _ => none
def dstore (S : Sto) (n : Nat) (k d : D) : Option Sto := match S[n]? with
  | some (.dd kvs) => (match tkT k with
    | some k => if kvs.length < sizeLine then some (S.set n (.dd (dput kvs k d))) else none
    | none => none)
  | some (.dk kvs) => (match keyS k with
    | some k => if kvs.length < sizeLine then some (S.set n (.dk (dput kvs k d))) else none
    | none => (match kvs, tkT k with
      | [], some k => some (S.set n (.dd (dput [] k d)))
      | _, _ => none))
  | _ => none
def isDc (S : Sto) : D → Option Nat
  | .loc n => (match S[n]? with
    | some (.dd _) => some n
    | some (.dk _) => some n
    | _ => none)
  | _ => none
def inDD (d1 d2 : D) (S : Sto) : PR := match isDc S d2 with
  | some n => (dlook S n d1).map fun p => (.bl p.1.isSome, p.2)
  | none => inD d1 d2 S
def notInDD (d1 d2 : D) (S : Sto) : PR := match isDc S d2 with
  | some n => (dlook S n d1).map fun p => (.bl (!p.1.isSome), p.2)
  | none => notInD d1 d2 S
def ixDD (d1 d2 : D) (S : Sto) : PR := match isDc S d1 with
  | some n => (match dlook S n d2 with
    | some (some d, S') => some (d, S')
    | _ => none)
  | none => ixD d1 d2 S
section
variable {X : Cx} {pins : List (Addr × Obj)} {σ : L2.St} {s : Shared}
theorem isDc_loc {S : Sto} {d : D} {n : Nat} (h : isDc S d = some n) : d = .loc n := by
  unfold isDc at h
  split at h
  · split at h
    · cases h; rfl
    · cases h; rfl
    · cases h
  · cases h
mutual
theorem key_reads {K : PySem.W.Frag} {mw : MW} {o : Wd} : ∀ {k : TK} {v : V}, RD K mw o (keyD k) v → Dp K o.H v (pdK k)
  | .int i, v, r => by
    simp only [keyD] at r
    cases r
    simp only [pdK]
    constructor
  | .str i, v, r => by
    simp only [keyD] at r
    cases r
    simp only [pdK]
    constructor
  | .tup ks, v, r => by
    simp only [keyD] at r
    cases r with
    | tup h p =>
      simp only [pdK]
      exact .tup h (keys_read p)
theorem keys_read {K : PySem.W.Frag} {mw : MW} {o : Wd} : ∀ {ks : List TK} {vs : List V}, RDs K mw o (keyDs ks) vs → DpAll K o.H vs (pdKs ks)
  | [], vs, r => by
    simp only [keyDs] at r
    cases r
    simp only [pdKs]
    exact .nil
  | k :: ks, vs, r => by
    simp only [keyDs] at r
    cases r with
    | cons r t =>
      simp only [pdKs]
      exact .cons (key_reads r) (keys_read t)
end
theorem key_is {o : Wd} {k : TK} {b : Addr} (I : Inv X pins σ o.H s) (r : RD X.K X.mw o (keyD k) (.ref b)) (hd : k.deep ≤ 8) : (dataKind X.prog X.w).is s.heap k b := ⟨Dp.reads I _ _ _ (key_reads r) rfl, hd⟩
/-- the dict as the library has it -/
theorem dict_of {o : Wd} {a : Addr} {kvs : List (TK × D)} (I : Inv X pins σ o.H s) (h : RSO X.K X.mw o a (.dd kvs)) : ∃ xs : List (TK × Addr × Value), o.H a = some (DictO a (xs.map (entT X.w))) ∧ kvs.length ≤ sizeLine ∧ (a == sysModules) = false ∧ s.heap.DictOfH (dataKind X.prog X.w) a xs ∧
    Paired (fun (p : TK × D) (q : TK × Addr × Value) => p.1 = q.1 ∧ q.1.deep ≤ 8 ∧ RD X.K X.mw o (keyD q.1) (.ref q.2.1) ∧ ∃ v, RelV v q.2.2 ∧ RD X.K X.mw o p.2 v) kvs xs := by
  obtain ⟨xs, e, hl, hm, hn, p⟩ := h
  obtain ⟨⟨ob, ea, ep, h1, h2, h3, h4⟩, q1, q2⟩ := I.hok a _ e
  refine ⟨xs, e, hl, hm, ⟨ob, ea, ep, h1, h2, h3, h4, fun x hx => ?_, hn⟩, p⟩
  clear e h4 hl hn q1 q2
  induction p with
  | nil => cases hx
  | cons r t ih =>
    rcases List.mem_cons.mp hx with z | z
    · subst z
      exact key_is I r.2.2.1 r.2.1
    · exact ih z
theorem dval_at {R : D → Value → Prop} {F : TK → TK × Addr × Value → Prop} (k : TK) : ∀ {kvs : List (TK × D)} {xs : List (TK × Addr × Value)}, Paired (fun (p : TK × D) (q : TK × Addr × Value) => p.1 = q.1 ∧ F p.1 q ∧ R p.2 q.2.2) kvs xs →
    (dval kvs k = none ∧ atKey xs k = none) ∨ ∃ d y, dval kvs k = some d ∧ atKey xs k = some y ∧ R d y.2
  | _, _, .nil => .inl ⟨rfl, rfl⟩
  | _, _, .cons (a := p) (b := q) h t => by
    obtain ⟨h1, h2, h3⟩ := h
    by_cases e : p.1 = k
    · refine .inr ⟨p.2, q.2, ?_, ?_, h3⟩
      · simp [dval, e]
      · simp [atKey, ← h1, e]
    · have ih := dval_at (R := R) (F := F) k t
      have e2 : ¬ q.1 = k := by rw [← h1]; exact e
      simpa [dval, atKey, List.find?_cons, e, e2] using ih
end
end PV

set_option Elab.async false
set_option linter.all false
set_option maxRecDepth 100000
set_option maxHeartbeats 3999000
namespace PV
open L2 PyProof.Rows PySem PySem.Spec

/-! ### built-in functions -/
def lenD (ds : List D) (S : Sto) : PR := match ds with
  | [d] => (match seqOf S d with
    | some xs => some (.int xs.length, S)
    | none => (match d with
      | .str z => if z.length ≤ sizeLine then some (.int z.length, S) else none
      | _ => none))
  | _ => none
def absD (ds : List D) (S : Sto) : PR := match ds with
  | [.int i] => some (.int (if i < 0 then -i else i), S)
  | _ => none
def intD (ds : List D) (S : Sto) : PR := match ds with
  | [.int i] => some (.int i, S)
  | [.bl b] => some (.int (if b then 1 else 0), S)
  | _ => none
def listD (ds : List D) (S : Sto) : PR := match ds with
  | [d] => (match seqOf S d with
    | some xs => some (.loc S.length, S ++ [.lst xs])
    | none => none)
  | _ => none
def tupleD (ds : List D) (S : Sto) : PR := match ds with
  | [d] => (match seqOf S d with
    | some xs => some (.tup xs, S)
    | none => none)
  | _ => none
def boolsOf : List D → Option (List Bool) := mapO fun d => match d with
  | .bl b => some b
  | _ => none
def intsOf : List D → Option (List Int) := mapO fun d => match d with
  | .int i => some i
  | _ => none
def allD (ds : List D) (S : Sto) : PR := match ds with
  | [d] => (match (lisOf S d).bind boolsOf with
    | some bs => some (.bl (bs.all id), S)
    | none => none)
  | _ => none
def anyD (ds : List D) (S : Sto) : PR := match ds with
  | [d] => (match (lisOf S d).bind boolsOf with
    | some bs => some (.bl (bs.any id), S)
    | none => none)
  | _ => none
def sumD (ds : List D) (S : Sto) : PR := match ds with
  | [d] => (match (lisOf S d).bind intsOf with
    | some ns => some (.int ns.sum, S)
    | none => none)
  | _ => none
def maxL : Int → List Int → Int
  | m, [] => m
  | m, x :: r => maxL (if x > m then x else m) r
def minL : Int → List Int → Int
  | m, [] => m
  | m, x :: r => minL (if x < m then x else m) r
def maxD (ds : List D) (S : Sto) : PR := match ds with
  | [.int i, .int j] => some (.int (if j > i then j else i), S)
  | [d] => (match (lisOf S d).bind intsOf with
    | some (n :: ns) => some (.int (maxL n ns), S)
    | _ => none)
  | _ => none
def minD (ds : List D) (S : Sto) : PR := match ds with
  | [.int i, .int j] => some (.int (if j < i then j else i), S)
  | [d] => (match (lisOf S d).bind intsOf with
    | some (n :: ns) => some (.int (minL n ns), S)
    | _ => none)
  | _ => none
def reprD (ds : List D) (S : Sto) : PR := match ds with
  | [.non] => some (.str "None", S)
  | [.bl b] => some (.str (if b then "True" else "False"), S)
  | [.int i] => if i.natAbs.log2 < 1920 then some (.str (toString i), S) else none
  | _ => none
/-- what a thing is -/
inductive Kd where
  | non | bool | int | str | tuple | list | dict
def Kd.s : Kd → String
  | .non => "NoneType"
  | .bool => "bool"
  | .int => "int"
  | .str => "str"
  | .tuple => "tuple"
  | .list => "list"
  | .dict => "dict"
def kdOf (S : Sto) : D → Option Kd
  | .non => some .non
  | .bl _ => some .bool
  | .int _ => some .int
  | .str _ => some .str
  | .tup _ => some .tuple
  | .fz _ => some .list
  | .loc n => (match S[n]? with
    | some (.lst _) => some .list
    | some (.dk _) => some .dict
    | _ => none)
  | _ => none
/-- a built-in class that is asked -/
def Kd.ofS (x : String) : Option Kd := if x = "int" then some .int else if x = "bool" then some .bool else if x = "tuple" then some .tuple else if x = "list" then some .list else if x = "str" then some .str else if x = "dict" then some .dict else none
def Kd.isi : Kd → Kd → Bool
  | .non, .non => true
  | .bool, .bool => true
  | .bool, .int => true
  | .int, .int => true
  | .str, .str => true
  | .tuple, .tuple => true
  | .list, .list => true
  | .dict, .dict => true
  | _, _ => false
def tyOf : D → Option Kd
  | .ty n => Kd.ofS n
  | _ => none
def isiD (ds : List D) (S : Sto) : PR := match ds with
  | [d, .tup cs] => (match kdOf S d, mapO tyOf cs with
    | some k, some ks => some (.bl (ks.any k.isi), S)
    | _, _ => none)
  | [d, c] => (match kdOf S d, tyOf c with
    | some k, some c => some (.bl (k.isi c), S)
    | _, _ => none)
  | _ => none

section
variable {X : Cx}
theorem RDs.one {K : PySem.W.Frag} {mw : MW} {o : Wd} {d : D} {vs : List V} (h : RDs K mw o [d] vs) : ∃ v, vs = [v] ∧ RD K mw o d v := by
  cases h with
  | cons r t => cases t; exact ⟨_, rfl, r⟩
theorem RDs.two {K : PySem.W.Frag} {mw : MW} {o : Wd} {d e : D} {vs : List V} (h : RDs K mw o [d, e] vs) : ∃ v w, vs = [v, w] ∧ RD K mw o d v ∧ RD K mw o e w := by
  cases h with
  | cons r t =>
    obtain ⟨w, rfl, q⟩ := RDs.one t
    exact ⟨_, _, rfl, r, q⟩
theorem RDs.boolsR {K : PySem.W.Frag} {mw : MW} {o : Wd} : ∀ {ds : List D} {vs : List V} {bs : List Bool}, RDs K mw o ds vs → PV.boolsOf ds = some bs → vs = bs.map V.bl
  | _, _, _, .nil, e => by cases e; rfl
  | _, _, _, .cons (d := d) r t, e => by
    obtain ⟨b, bs, e1, e2, rfl⟩ := mapO_cons e
    have := RDs.boolsR t e2
    subst this
    cases r <;> first | (cases e1; rfl) | cases e1
theorem RDs.intsR {K : PySem.W.Frag} {mw : MW} {o : Wd} : ∀ {ds : List D} {vs : List V} {ns : List Int}, RDs K mw o ds vs → PV.intsOf ds = some ns → vs = ns.map V.int
  | _, _, _, .nil, e => by cases e; rfl
  | _, _, _, .cons (d := d) r t, e => by
    obtain ⟨b, bs, e1, e2, rfl⟩ := mapO_cons e
    have := RDs.intsR t e2
    subst this
    cases r <;> first | (cases e1; rfl) | cases e1
theorem lis_bind {α : Type} {S : Sto} {d : D} {f : List D → Option α} {y : α} (h : (lisOf S d).bind f = some y) : ∃ ds, lisOf S d = some ds ∧ f ds = some y := Option.bind_eq_some_iff.mp h
theorem cd_len : CallD X (.builtin "len") lenD := by
  intro pins s σ H xs us Q I rx hh
  obtain ⟨o, ds, S, d, S', rfl, r, rs, e, q⟩ := hh
  unfold lenD at e
  split at e
  · obtain ⟨v, rfl, r1⟩ := r.one
    split at e
    · rename_i xs hs
      cases e
      obtain ⟨a, vs, rfl, p, hsq⟩ := r1.seq rs hs
      refine call_len pins s σ _ _ us Q I rx ⟨_, vs.length, rfl, ?_, ?_⟩
      · rcases hsq with h | h
        · exact .inl ⟨vs, h, rfl⟩
        · exact .inr ⟨vs, h, rfl⟩
      · rw [← p.length]
        exact q o _ .refl rs (.int _)
    · split at e
      · split at e
        · rename_i hz
          cases e
          cases r1
          exact call_len pins s σ _ _ us Q I rx ⟨_, _, rfl, ⟨hz, rfl⟩, q o _ .refl rs (.int _)⟩
        · cases e
      · cases e
  · cases e
theorem cd_abs : CallD X (.builtin "abs") absD := by
  intro pins s σ H xs us Q I rx hh
  obtain ⟨o, ds, S, d, S', rfl, r, rs, e, q⟩ := hh
  unfold absD at e
  split at e
  · obtain ⟨v, rfl, r1⟩ := r.one
    cases e
    cases r1
    exact call_abs pins s σ _ _ us Q I rx ⟨_, rfl, q o _ .refl rs (.int _)⟩
  · cases e
theorem cd_int : CallD X (.type "int") intD := by
  intro pins s σ H xs us Q I rx hh
  obtain ⟨o, ds, S, d, S', rfl, r, rs, e, q⟩ := hh
  unfold intD at e
  split at e
  · obtain ⟨v, rfl, r1⟩ := r.one
    cases e
    cases r1
    exact call_int1 pins s σ _ _ us Q I rx (.inl ⟨_, rfl, q o _ .refl rs (.int _)⟩)
  · obtain ⟨v, rfl, r1⟩ := r.one
    cases e
    cases r1
    exact call_int1 pins s σ _ _ us Q I rx (.inr ⟨_, rfl, q o _ .refl rs (.int _)⟩)
  · cases e
theorem cd_list : CallD X (.type "list") listD := by
  intro pins s σ H xs us Q I rx hh
  obtain ⟨o, ds, S, d, S', rfl, r, rs, e, q⟩ := hh
  unfold listD at e
  split at e
  · obtain ⟨v, rfl, r1⟩ := r.one
    split at e
    · rename_i xs hs
      cases e
      obtain ⟨a, vs, rfl, p, hsq⟩ := r1.seq rs hs
      refine call_list_of pins s σ _ _ us Q I rx ⟨a, vs, rfl, hsq, fun l hl => ?_⟩
      obtain ⟨a1, a2, a3⟩ := rs.newLst hl p
      exact q _ _ a1 a2 a3
    · cases e
  · cases e
theorem cd_tuple : CallD X (.type "tuple") tupleD := by
  intro pins s σ H xs us Q I rx hh
  obtain ⟨o, ds, S, d, S', rfl, r, rs, e, q⟩ := hh
  unfold tupleD at e
  split at e
  · obtain ⟨v, rfl, r1⟩ := r.one
    split at e
    · rename_i xs hs
      cases e
      obtain ⟨a, vs, rfl, p, hsq⟩ := r1.seq rs hs
      refine call_tuple_of pins s σ _ _ us Q I rx ⟨a, vs, rfl, ?_⟩
      rcases hsq with h | h
      · refine .inl ⟨h, fun l hl => ?_⟩
        obtain ⟨a1, a2, a3⟩ := rs.newTup hl p
        exact q _ _ a1 a2 a3
      · exact .inr ⟨h, q o _ .refl rs (.tup h p)⟩
    · cases e
  · cases e
theorem cd_all (hc : X.calm = true) : CallD X (.builtin "all") allD := by
  intro pins s σ H xs us Q I rx hh
  obtain ⟨o, ds, S, d, S', rfl, r, rs, e, q⟩ := hh
  unfold allD at e
  split at e
  · obtain ⟨v, rfl, r1⟩ := r.one
    split at e
    · rename_i bs hs
      cases e
      obtain ⟨zs, h1, h2⟩ := lis_bind hs
      obtain ⟨a, vs, rfl, p, hsq⟩ := r1.lis rs h1
      have := p.boolsR h2
      subst this
      exact cr_all hc pins s σ _ _ us Q I rx ⟨a, bs, rfl, hsq, q o _ .refl rs (.bl _)⟩
    · cases e
  · cases e
theorem cd_any (hc : X.calm = true) : CallD X (.builtin "any") anyD := by
  intro pins s σ H xs us Q I rx hh
  obtain ⟨o, ds, S, d, S', rfl, r, rs, e, q⟩ := hh
  unfold anyD at e
  split at e
  · obtain ⟨v, rfl, r1⟩ := r.one
    split at e
    · rename_i bs hs
      cases e
      obtain ⟨zs, h1, h2⟩ := lis_bind hs
      obtain ⟨a, vs, rfl, p, hsq⟩ := r1.lis rs h1
      have := p.boolsR h2
      subst this
      exact cr_any hc pins s σ _ _ us Q I rx ⟨a, bs, rfl, hsq, q o _ .refl rs (.bl _)⟩
    · cases e
  · cases e
theorem cd_sum (hc : X.calm = true) : CallD X (.builtin "sum") sumD := by
  intro pins s σ H xs us Q I rx hh
  obtain ⟨o, ds, S, d, S', rfl, r, rs, e, q⟩ := hh
  unfold sumD at e
  split at e
  · obtain ⟨v, rfl, r1⟩ := r.one
    split at e
    · rename_i bs hs
      cases e
      obtain ⟨zs, h1, h2⟩ := lis_bind hs
      obtain ⟨a, vs, rfl, p, hsq⟩ := r1.lis rs h1
      have := p.intsR h2
      subst this
      exact cr_sum hc pins s σ _ _ us Q I rx ⟨a, bs, rfl, hsq, q o _ .refl rs (.int _)⟩
    · cases e
  · cases e
theorem maxL_mem : ∀ (ns : List Int) (m : Int), maxL m ns = m ∨ maxL m ns ∈ ns
  | [], m => .inl rfl
  | x :: r, m => by
    unfold maxL
    by_cases h : x > m
    · rw [if_pos h]
      rcases maxL_mem r x with e | e
      · exact .inr (by rw [e]; exact List.mem_cons_self)
      · exact .inr (List.mem_cons_of_mem _ e)
    · rw [if_neg h]
      rcases maxL_mem r m with e | e
      · exact .inl e
      · exact .inr (List.mem_cons_of_mem _ e)
theorem maxL_le : ∀ (ns : List Int) (m : Int), m ≤ maxL m ns ∧ ∀ x ∈ ns, x ≤ maxL m ns
  | [], m => ⟨Int.le_refl _, fun _ h => nomatch h⟩
  | y :: r, m => by
    unfold maxL
    obtain ⟨h1, h2⟩ := maxL_le r (if y > m then y else m)
    have h3 : m ≤ (if y > m then y else m) ∧ y ≤ (if y > m then y else m) := by split <;> omega
    refine ⟨Int.le_trans h3.1 h1, fun x hx => ?_⟩
    rcases List.mem_cons.mp hx with rfl | hx
    · exact Int.le_trans h3.2 h1
    · exact h2 x hx
theorem minL_mem : ∀ (ns : List Int) (m : Int), minL m ns = m ∨ minL m ns ∈ ns
  | [], m => .inl rfl
  | x :: r, m => by
    unfold minL
    by_cases h : x < m
    · rw [if_pos h]
      rcases minL_mem r x with e | e
      · exact .inr (by rw [e]; exact List.mem_cons_self)
      · exact .inr (List.mem_cons_of_mem _ e)
    · rw [if_neg h]
      rcases minL_mem r m with e | e
      · exact .inl e
      · exact .inr (List.mem_cons_of_mem _ e)
theorem minL_le : ∀ (ns : List Int) (m : Int), minL m ns ≤ m ∧ ∀ x ∈ ns, minL m ns ≤ x
  | [], m => ⟨Int.le_refl _, fun _ h => nomatch h⟩
  | y :: r, m => by
    unfold minL
    obtain ⟨h1, h2⟩ := minL_le r (if y < m then y else m)
    have h3 : (if y < m then y else m) ≤ m ∧ (if y < m then y else m) ≤ y := by split <;> omega
    refine ⟨Int.le_trans h1 h3.1, fun x hx => ?_⟩
    rcases List.mem_cons.mp hx with rfl | hx
    · exact Int.le_trans h1 h3.2
    · exact h2 x hx
theorem cd_max (hc : X.calm = true) : CallD X (.builtin "max") maxD := by
  intro pins s σ H xs us Q I rx hh
  obtain ⟨o, ds, S, d, S', rfl, r, rs, e, q⟩ := hh
  unfold maxD at e
  split at e
  · obtain ⟨v, w, rfl, r1, r2⟩ := r.two
    cases e
    cases r1
    cases r2
    exact call_max2 hc pins s σ _ _ us Q I rx ⟨_, _, rfl, q o _ .refl rs (.int _)⟩
  · obtain ⟨v, rfl, r1⟩ := r.one
    split at e
    · rename_i n ns hs
      cases e
      obtain ⟨zs, h1, h2⟩ := lis_bind hs
      obtain ⟨a, vs, rfl, p, hsq⟩ := r1.lis rs h1
      have := p.intsR h2
      subst this
      refine cr_max hc pins s σ _ _ us Q I rx ⟨a, n :: ns, rfl, hsq, Nat.succ_pos _, fun m hm hle => ?_⟩
      have e : m = maxL n ns := by
        obtain ⟨k1, k2⟩ := maxL_le ns n
        have : m ≤ maxL n ns := by
          rcases List.mem_cons.mp hm with rfl | hm
          · exact k1
          · exact k2 m hm
        have : maxL n ns ≤ m := by
          rcases maxL_mem ns n with e | e
          · rw [e]; exact hle _ List.mem_cons_self
          · exact hle _ (List.mem_cons_of_mem _ e)
        omega
      rw [e]
      exact q o _ .refl rs (.int _)
    · cases e
  · cases e
theorem cd_min (hc : X.calm = true) : CallD X (.builtin "min") minD := by
  intro pins s σ H xs us Q I rx hh
  obtain ⟨o, ds, S, d, S', rfl, r, rs, e, q⟩ := hh
  unfold minD at e
  split at e
  · obtain ⟨v, w, rfl, r1, r2⟩ := r.two
    cases e
    cases r1
    cases r2
    exact call_min2 hc pins s σ _ _ us Q I rx ⟨_, _, rfl, q o _ .refl rs (.int _)⟩
  · obtain ⟨v, rfl, r1⟩ := r.one
    split at e
    · rename_i n ns hs
      cases e
      obtain ⟨zs, h1, h2⟩ := lis_bind hs
      obtain ⟨a, vs, rfl, p, hsq⟩ := r1.lis rs h1
      have := p.intsR h2
      subst this
      refine cr_min hc pins s σ _ _ us Q I rx ⟨a, n :: ns, rfl, hsq, Nat.succ_pos _, fun m hm hle => ?_⟩
      have e : m = minL n ns := by
        obtain ⟨k1, k2⟩ := minL_le ns n
        have : minL n ns ≤ m := by
          rcases List.mem_cons.mp hm with rfl | hm
          · exact k1
          · exact k2 m hm
        have : m ≤ minL n ns := by
          rcases minL_mem ns n with e | e
          · rw [e]; exact hle _ List.mem_cons_self
          · exact hle _ (List.mem_cons_of_mem _ e)
        omega
      rw [e]
      exact q o _ .refl rs (.int _)
    · cases e
  · cases e
theorem cd_repr : CallD X (.builtin "repr") reprD := by
  intro pins s σ H xs us Q I rx hh
  obtain ⟨o, ds, S, d, S', rfl, r, rs, e, q⟩ := hh
  unfold reprD at e
  split at e
  · obtain ⟨v, rfl, r1⟩ := r.one
    cases e
    cases r1
    obtain ⟨u, rfl, ru⟩ := vals1 rx
    cases ru
    exact PySem.P.repr_of_none ⟨.str _, o.H, I.tok _, ⟨_, rfl⟩, q o _ .refl rs (.str _)⟩
  · obtain ⟨v, rfl, r1⟩ := r.one
    cases e
    cases r1
    obtain ⟨u, rfl, ru⟩ := vals1 rx
    cases ru
    exact PySem.P.repr_of_bool ⟨.str _, o.H, I.tok _, ⟨_, rfl⟩, q o _ .refl rs (.str _)⟩
  · obtain ⟨v, rfl, r1⟩ := r.one
    split at e
    · rename_i hz
      cases e
      cases r1
      obtain ⟨u, rfl, ru⟩ := vals1 rx
      obtain ⟨t, rfl⟩ := ru
      exact PySem.P.repr_of_int hz ⟨.str _, o.H, I.tok _, ⟨_, rfl⟩, q o _ .refl rs (.str _)⟩
    · cases e
  · cases e
theorem ty_of {K : PySem.W.Frag} {mw : MW} {o : Wd} {S : Sto} {d : D} {v : V} {k : Kd} (rs : RS K mw o S) (r : RD K mw o d v) (e : kdOf S d = some k) : TyX K o.H v (.type k.s) := by
  cases r with
  | non => cases e; exact .base .non
  | bl b => cases e; exact .base (.bl b)
  | int i => cases e; exact .base (.int i)
  | str x => cases e; exact .base (.str x)
  | tup h p =>
    cases e
    rcases h with (h | ⟨ob, h⟩) | ⟨ob, its, n, h1, h2, h3, _⟩
    · exact .base (.tup h)
    · exact .fTuple h
    · exact .kTuple h1 h2
  | fz h p =>
    cases e
    rcases h with ⟨ob, h⟩ | ((h | ⟨_, h⟩) | ⟨ob, its, n, h1, h2, h3, _⟩)
    · exact .base (.frz h)
    · cases h
    · cases h
    · exact .kList h1 h2
  | @loc n a hn =>
    unfold kdOf at e
    dsimp only at e
    cases hx : S[n]? with
    | none => rw [hx] at e; cases e
    | some y =>
      rw [hx] at e
      obtain ⟨b, eb, z⟩ := rs.obj n y hx
      rw [hn] at eb; cases eb
      cases y with
      | lst ds => cases e; obtain ⟨vs, h1, _⟩ := z; exact .base (.lst h1)
      | dk ds => cases e; obtain ⟨vs, h1, _⟩ := z; exact .base (.dK h1)
      | dd ds => cases e
      | ins c fs => cases e
  | gl _ => cases e
  | ty _ => cases e
theorem kit_ok : ∀ (k c : Kd), (∃ n, Kd.ofS n = some c) → kitB k.s c.s = some (k.isi c) := by
  intro k c h
  obtain ⟨n, h⟩ := h
  cases c with
  | non =>
    unfold Kd.ofS at h
    repeat' split at h
    all_goals cases h
  | bool => cases k <;> decide +kernel
  | int => cases k <;> decide +kernel
  | str => cases k <;> decide +kernel
  | tuple => cases k <;> decide +kernel
  | list => cases k <;> decide +kernel
  | dict => cases k <;> decide +kernel
theorem ofS_s {n : String} {c : Kd} (h : Kd.ofS n = some c) : n = c.s := by
  unfold Kd.ofS at h
  repeat' split at h
  all_goals first | (cases h; assumption) | cases h
theorem cls_of {K : PySem.W.Frag} {mw : MW} {o : Wd} {d : D} {v : V} {c : Kd} (r : RD K mw o d v) (e : tyOf d = some c) : v = .ty c.s ∧ ∃ n, Kd.ofS n = some c := by
  cases r with
  | ty n => exact ⟨by rw [ofS_s e], n, e⟩
  | _ => cases e
theorem kitAny_ok {K : PySem.W.Frag} {k : Kd} : ∀ {cs : List Kd}, (∀ c ∈ cs, ∃ n, Kd.ofS n = some c) → PySem.W.kitAny K (.type k.s) (cs.map fun c => Value.type c.s) = some (cs.any k.isi)
  | [], _ => rfl
  | c :: cs, h => by
    have h1 := kit_ty (K := K) (kit_ok k c (h c List.mem_cons_self))
    have h2 := kitAny_ok (K := K) (k := k) (cs := cs) fun c' h' => h c' (List.mem_cons_of_mem _ h')
    show PySem.W.kitAny K (.type k.s) (.type c.s :: cs.map fun c => Value.type c.s) = _
    unfold PySem.W.kitAny
    rw [h1, List.any_cons]
    cases k.isi c with
    | true => rfl
    | false => exact h2
theorem tys_of {K : PySem.W.Frag} {mw : MW} {o : Wd} : ∀ {ds : List D} {vs : List V} {cs : List Kd}, RDs K mw o ds vs → mapO tyOf ds = some cs → vs = cs.map (fun c => V.ty c.s) ∧ ∀ c ∈ cs, ∃ n, Kd.ofS n = some c
  | _, _, _, .nil, e => by cases e; exact ⟨rfl, fun _ h => nomatch h⟩
  | _, _, _, .cons r t, e => by
    obtain ⟨b, bs, e1, e2, rfl⟩ := mapO_cons e
    obtain ⟨h1, h2⟩ := tys_of t e2
    obtain ⟨h3, h4⟩ := cls_of r e1
    refine ⟨by rw [h1, h3]; rfl, fun c hc => ?_⟩
    rcases List.mem_cons.mp hc with rfl | hc
    · exact h4
    · exact h2 c hc
theorem vals_ty : ∀ {cs : List Kd} {us : List Value}, Vals (cs.map fun c => V.ty c.s) us → us = cs.map fun c => Value.type c.s
  | [], _, .nil => rfl
  | c :: cs, _, .cons r t => by rw [vals_ty t]; cases r; rfl
theorem cd_isi : CallD X (.builtin "isinstance") isiD := by
  intro pins s σ H xs us Q I rx hh
  obtain ⟨o, ds, S, d, S', rfl, r, rs, e, q⟩ := hh
  unfold isiD at e
  split at e
  · obtain ⟨v, w, rfl, r1, r2⟩ := r.two
    split at e
    · rename_i k ks e1 e2
      cases e
      cases r2 with
      | @tup tp _ cs h p =>
      obtain ⟨h1, h2⟩ := tys_of p e2
      subst h1
      obtain ⟨u1, u2, rfl, q1, q2⟩ := vals2 rx
      cases (show u2 = Value.ref tp from q2)
      obtain ⟨P, Z, pp, hx⟩ := kit_of I q1 (ty_of rs r1 e1)
      obtain ⟨its, rv, ⟨⟨oc, od, dt, sl⟩, ho, hc, n, hd⟩, _⟩ := I.tuple h
      simp only at hc hd
      subst hc hd
      have := vals_ty rv
      subst this
      exact PySem.W.kia_tup Z I.kIn pp ho (kitAny_ok h2) hx fun tk => ⟨.bl _, o.H, I.tok tk, rfl, q o _ .refl rs (.bl _)⟩
    · cases e
  · obtain ⟨v, w, rfl, r1, r2⟩ := r.two
    split at e
    · rename_i k c e1 e2
      cases e
      obtain ⟨rfl, n, hn⟩ := cls_of r2 e2
      exact call_isi pins s σ _ _ us Q I rx ⟨v, _, _, _, k.isi c, rfl, .ty _, ty_of rs r1 e1, kit_ty (kit_ok k c ⟨n, hn⟩), q o _ .refl rs (.bl _)⟩
    · cases e
  · cases e

/-! ### methods of lists -/
def appendD (d : D) (ds : List D) (S : Sto) : PR := match d, ds with
  | .loc n, [y] => (match lstAt S n with
    | some xs => if xs.length < sizeLine then some (.non, S.set n (.lst (xs ++ [y]))) else none
    | none => none)
  | _, _ => none
def extendD (d : D) (ds : List D) (S : Sto) : PR := match d, ds with
  | .loc n, [.loc m] => (match lstAt S n, lstAt S m with
    | some xs, some ys => if xs.length + ys.length ≤ sizeLine then some (.non, S.set n (.lst (xs ++ ys))) else none
    | _, _ => none)
  | _, _ => none
def popD (d : D) (ds : List D) (S : Sto) : PR := match d, ds with
  | .loc n, [] => (match lstAt S n with
    | some xs => (match xs[xs.length - 1]? with
      | some y => some (y, S.set n (.lst xs.dropLast))
      | none => none)
    | none => none)
  | .loc n, [.int i] => (match lstAt S n with
    | some xs => (match (if -(2 ^ 63) ≤ i ∧ i < 2 ^ 63 then seqIndex? i xs.length else none) with
      | some k => (match xs[k]? with
        | some y => some (y, S.set n (.lst (xs.eraseIdx k)))
        | none => none)
      | none => none)
    | none => none)
  | _, _ => none
def eM (g : D → List D → Sto → PR) (fo : FE) (fa : FA) : FE := fun env S => (fo env S).bind fun d S1 => match d with
  | .loc n => (match lstAt S1 n with
    | some _ => (fa env S1).bind fun ds S2 => lift (g (.loc n) ds S2)
    | none => .stk)
  | _ => .stk
def rDM (K : PySem.W.Frag) (mw : MW) (g : D → List D → Sto → PR) : V → List V → Hp → VK → Prop := fun x xs H Q =>
  ∃ o d1 ds S d S', o.H = H ∧ RD K mw o d1 x ∧ RDs K mw o ds xs ∧ RS K mw o S ∧ g d1 ds S = some (d, S') ∧ ∀ o' v, Le K o o' → RS K mw o' S' → RD K mw o' d v → Q v o'.H
def MtD (X : Cx) (id : String) (g : D → List D → Sto → PR) : Prop := MtR X id (rDM X.K X.mw g)
theorem lstAt_get {S : Sto} {n : Nat} {ds : List D} (h : lstAt S n = some ds) : S[n]? = some (.lst ds) := by
  unfold lstAt at h
  split at h
  · rename_i e; cases h; exact e
  · cases h
theorem RDs.dropLast {K : PySem.W.Frag} {mw : MW} {o : Wd} {ds : List D} {vs : List V} (h : RDs K mw o ds vs) : RDs K mw o ds.dropLast vs.dropLast := by
  rw [List.dropLast_eq_take, List.dropLast_eq_take, h.length]
  exact h.take _
theorem md_append : MtD X "list.append" appendD := by
  intro pins s σ H x xs v us Q I rx rxs hh
  obtain ⟨o, d1, ds, S, d, S', rfl, r1, rd, rs, e, q⟩ := hh
  unfold appendD at e
  split at e
  · obtain ⟨y, rfl, ry⟩ := rd.one
    split at e
    · rename_i ys e1
      split at e
      · rename_i hz
        cases e
        cases r1 with
        | @loc n a hn =>
        obtain ⟨vs, h1, p⟩ := rs.lst hn e1
        obtain ⟨a1, a2⟩ := rs.putL hn h1 (p.append (.cons ry .nil))
        exact mt_append pins s σ _ _ _ v us Q I rx rxs ⟨a, vs, y, rfl, rfl, h1, by rw [← p.length]; exact hz, q _ _ a1 a2 .non⟩
      · cases e
    · cases e
  · cases e
theorem md_extend : MtD X "list.extend" extendD := by
  intro pins s σ H x xs v us Q I rx rxs hh
  obtain ⟨o, d1, ds, S, d, S', rfl, r1, rd, rs, e, q⟩ := hh
  unfold extendD at e
  split at e
  · obtain ⟨y, rfl, ry⟩ := rd.one
    split at e
    · rename_i ys zs e1 e2
      split at e
      · rename_i hz
        cases e
        cases r1 with
        | @loc n a hn =>
        cases ry with
        | @loc m b hm =>
        obtain ⟨vs, h1, p⟩ := rs.lst hn e1
        obtain ⟨ws, h2, p2⟩ := rs.lst hm e2
        obtain ⟨a1, a2⟩ := rs.putL hn h1 (p.append p2)
        exact mt_extend pins s σ _ _ _ v us Q I rx rxs ⟨a, b, vs, ws, rfl, rfl, h1, h2, by rw [← p.length, ← p2.length]; exact hz, q _ _ a1 a2 .non⟩
      · cases e
    · cases e
  · cases e
theorem md_pop : MtD X "list.pop" popD := by
  intro pins s σ H x xs v us Q I rx rxs hh
  obtain ⟨o, d1, ds, S, d, S', rfl, r1, rd, rs, e, q⟩ := hh
  unfold popD at e
  split at e
  · cases rd
    split at e
    · rename_i ys e1
      split at e
      · rename_i y ey
        cases e
        cases r1 with
        | @loc n a hn =>
        obtain ⟨vs, h1, p⟩ := rs.lst hn e1
        obtain ⟨w, hw, rw'⟩ := p.get ey
        obtain ⟨a1, a2⟩ := rs.putL hn h1 p.dropLast
        exact mt_pop pins s σ _ _ _ v us Q I rx rxs ⟨a, vs, w, rfl, rfl, h1, by rw [← p.length]; exact hw, q _ _ a1 a2 (rw'.up a1)⟩
      · cases e
    · cases e
  · obtain ⟨y, rfl, ry⟩ := rd.one
    split at e
    · rename_i ys e1
      split at e
      · rename_i k ek
        split at e
        · rename_i y' ey
          cases e
          cases ry
          cases r1 with
          | @loc n a hn =>
          obtain ⟨vs, h1, p⟩ := rs.lst hn e1
          obtain ⟨w, hw, rw'⟩ := p.get ey
          obtain ⟨a1, a2⟩ := rs.putL hn h1 (p.eraseIdx k)
          split at ek
          · rename_i hb
            exact mt_popAt pins s σ _ _ _ v us Q I rx rxs ⟨a, vs, _, k, w, rfl, rfl, h1, hb.1, hb.2, by rw [← p.length]; exact ek, hw, q _ _ a1 a2 (rw'.up a1)⟩
          · cases ek
        · cases e
      · cases e
    · cases e
  · cases e
end
end PV

set_option Elab.async false
set_option linter.all false
set_option maxRecDepth 100000
set_option maxHeartbeats 3999000
namespace PV
open L2 PyProof.Rows PySem PySem.Spec

/-! ### statements: combinators -/
abbrev FG := D → Env → Sto → Out Env
def sNil : FS := fun env S => .ok (.nx env) S
def sSeq (f g : FS) : FS := fun env S => (f env S).bind fun fl S1 => match fl with
  | .nx env1 => g env1 S1
  | .rt d => .ok (.rt d) S1
  | .bk e => .ok (.bk e) S1
  | .ct e => .ok (.ct e) S1
def sBrk : FS := fun env S => .ok (.bk env) S
def sCnt : FS := fun env S => .ok (.ct env) S
def sExpr (fe : FE) : FS := fun env S => (fe env S).bind fun _ S1 => .ok (.nx env) S1
def sRet (fe : FE) : FS := fun env S => (fe env S).bind fun d S1 => .ok (.rt d) S1
def sRetN : FS := fun env S => .ok (.rt .non) S
def sIf (t : FT) (f g : FS) : FS := fun env S => (t env S).bind fun b S1 => if b = true then f env S1 else g env S1
def sAsg (fe : FE) (g : FG) : FS := fun env S => (fe env S).bind fun d S1 => (g d env S1).bind fun env1 S2 => .ok (.nx env1) S2
def gNm (i : Nat) : FG := fun d env S => .ok (env.set i (some d)) S
def gAll : List FG → List D → Env → Sto → Out Env
  | [], [], env, S => .ok env S
  | g :: gs, d :: ds, env, S => (g d env S).bind fun env1 S1 => gAll gs ds env1 S1
  | _, _, _, _ => .stk
def gTp (gs : List FG) : FG := fun d env S => match d with
  | .tup ds => gAll gs ds env S
  | _ => .stk
/-- o[i] = d -/
def setD (o i d : D) (S : Sto) : Option Sto := match o, i with
  | .loc n, .int k => (match lstAt S n with
    | some xs => (match ixN xs.length k with
      | some j => some (S.set n (.lst (xs.set j d)))
      | none => none)
    | none => none)
  | _, _ => none
/-- a, b = x, y -/
def sPar (i j : Nat) (fa : FA) : FS := fun env S => (fa env S).bind fun ds S1 => match ds with
  | [d, e] => .ok (.nx ((env.set i (some d)).set j (some e))) S1
  | _ => .stk
/-- a, b, c = x, y, z -/
def sPar3 (i j l : Nat) (fa : FA) : FS := fun env S => (fa env S).bind fun ds S1 => match ds with
  | [d, e, f] => .ok (.nx (((env.set i (some d)).set j (some e)).set l (some f))) S1
  | _ => .stk
def sAug (i : Nat) (g : D → D → Sto → PR) (fe : FE) : FS := fun env S => match env[i]? with
  | some (some x) => (fe env S).bind fun y S1 => (lift (g x y S1)).bind fun z S2 => .ok (.nx (env.set i (some z))) S2
  | _ => .stk

def iaddD (a b : D) (S : Sto) : PR := match a, b with
  | .int i, .int j => some (.int (i + j), S)
  | _, _ => none
section
variable (K : PySem.W.Frag) (mw : MW)
def FlP (D' : Ends) : Fl → Sto → Wd → Prop := fun fl _ o => match fl with
  | .nx env => ∀ σ, RE K mw o env σ → D'.nx σ o.H
  | .rt d => ∀ v, RD K mw o d v → D'.rt v o.H
  | .bk env => ∀ σ, RE K mw o env σ → D'.bk σ o.H
  | .ct env => ∀ σ, RE K mw o env σ → D'.ct σ o.H
def tS (W : WX) (f : FS) : TS := fun D' σ H => ∃ env S o, At K mw env S o σ H ∧ Post K mw (wx K mw W σ) (FlP K mw D') o (f env S)
def SameBut (ch : List Nat) (σ σ' : L2.St) : Prop := σ'.length = σ.length ∧ ∀ j, j ∉ ch → σ'[j]? = σ[j]?
def tG (W : WX) (ch : List Nat) (g : FG) : TG := fun v σ H Q => ∃ d env S o, At K mw env S o σ H ∧ RD K mw o d v ∧ Post K mw (wx K mw W σ) (fun env' _ o' => ∀ σ', RE K mw o' env' σ' → SameBut ch σ σ' → Q σ' o'.H) o (g d env S)
def tGs (W : WX) (ch : List Nat) (gs : List FG) : TGs := fun vs σ H Q => ∃ ds env S o, At K mw env S o σ H ∧ RDs K mw o ds vs ∧ Post K mw (wx K mw W σ) (fun env' _ o' => ∀ σ', RE K mw o' env' σ' → SameBut ch σ σ' → Q σ' o'.H) o (gAll gs ds env S)
end
theorem SameBut.refl {ch : List Nat} {σ : L2.St} : SameBut ch σ σ := ⟨rfl, fun _ _ => rfl⟩
theorem SameBut.set {σ : L2.St} {i : Nat} {v : Option V} : SameBut [i] σ (σ.set i v) := ⟨by simp, fun j h => List.getElem?_set_ne (fun e => h (by simp [e]))⟩
theorem SameBut.trans {c1 c2 : List Nat} {s1 s2 s3 : L2.St} (a : SameBut c1 s1 s2) (b : SameBut c2 s2 s3) : SameBut (c1 ++ c2) s1 s3 := ⟨b.1.trans a.1, fun j h => (b.2 j fun z => h (List.mem_append_right _ z)).trans (a.2 j fun z => h (List.mem_append_left _ z))⟩
/-- the wish does not hang on the names -/
def Flat (W : WX) : Prop := ∀ c d σ σ' H, W c d σ H → W c d σ' H
section
variable {X : Cx} {W : WX} {a b c : Expr} {es : List Expr} {fa fb fc : FE} {fr : FA} {pos : Pos} {ft fu : FT} {st : Stmt} {rest : List Stmt} {f g : FS}
theorem PS.imp {t t' : TS} (h : PS X st t) (q : ∀ D' σ H, t' D' σ H → t D' σ H) : PS X st t' := ⟨fun pins s σ H D' I z => h.run pins s σ H D' I (q D' σ H z)⟩
theorem PSs.imp {t t' : TS} (h : PSs X rest t) (q : ∀ D' σ H, t' D' σ H → t D' σ H) : PSs X rest t' := ⟨fun pins s σ H D' I z => h.run pins s σ H D' I (q D' σ H z)⟩
theorem PG.imp {tg : Expr} {t t' : TG} (h : PG X tg t) (q : ∀ v σ H Q, t' v σ H Q → t v σ H Q) : PG X tg t' := ⟨fun pins s σ H v u Q I r z => h.run pins s σ H v u Q I r (q v σ H Q z)⟩
theorem PGs.imp {ts : List Expr} {t t' : TGs} (h : PGs X ts t) (q : ∀ v σ H Q, t' v σ H Q → t v σ H Q) : PGs X ts t' := ⟨fun pins s σ H v u Q I r z => h.run pins s σ H v u Q I r (q v σ H Q z)⟩
theorem Post.wish {K : PySem.W.Frag} {mw : MW} {α : Type} {Wx Wx' : Ex → Wd → Prop} {R : α → Sto → Wd → Prop} {o : Wd} {r : Out α} (h : Post K mw Wx R o r) (f : ∀ x o', Wx x o' → Wx' x o') : Post K mw Wx' R o r := by
  cases r with
  | ok a S => exact h
  | exc x S => exact fun o' l rs => f x o' (h o' l rs)
  | stk => exact h
theorem wx_flat {K : PySem.W.Frag} {mw : MW} (hW : Flat W) {σ σ' : L2.St} {x : Ex} {o : Wd} (h : wx K mw W σ x o) : wx K mw W σ' x o := fun c od q => hW _ _ _ _ _ (h c od q)
theorem d_snil : PSs X [] (tS X.K X.mw W sNil) := by
  refine PSs.imp pss_nil fun D' σ H h => ?_
  obtain ⟨env, S, o, ⟨rfl, re, rs⟩, p⟩ := h
  exact p.here rs σ re
theorem d_scons (hW : Flat W) (h1 : PS X st (tS X.K X.mw W f)) (h2 : PSs X rest (tS X.K X.mw W g)) : PSs X (st :: rest) (tS X.K X.mw W (sSeq f g)) := by
  refine PSs.imp (pss_cons h1 h2) fun D' σ H h => ?_
  obtain ⟨env, S, o, ⟨rfl, re, rs⟩, p⟩ := h
  refine ⟨env, S, o, ⟨rfl, re, rs⟩, (Post.bind p).imp fun fl S1 o1 l1 rs1 p1 => ?_⟩
  cases fl with
  | nx env1 => exact fun σ1 re1 => ⟨env1, S1, o1, ⟨rfl, re1, rs1⟩, p1.wish fun x o' h => wx_flat hW h⟩
  | rt d => exact fun v r => p1.here rs1 v r
  | bk e => exact fun σ1 re1 => p1.here rs1 σ1 re1
  | ct e => exact fun σ1 re1 => p1.here rs1 σ1 re1
theorem d_pass : PS X (.Pass pos) (tS X.K X.mw W sNil) := by
  refine PS.imp ps_pass fun D' σ H h => ?_
  obtain ⟨env, S, o, ⟨rfl, re, rs⟩, p⟩ := h
  exact p.here rs σ re
theorem d_brk : PS X (.Break pos) (tS X.K X.mw W sBrk) := by
  refine PS.imp ps_break fun D' σ H h => ?_
  obtain ⟨env, S, o, ⟨rfl, re, rs⟩, p⟩ := h
  exact p.here rs σ re
theorem d_cnt : PS X (.Continue pos) (tS X.K X.mw W sCnt) := by
  refine PS.imp ps_continue fun D' σ H h => ?_
  obtain ⟨env, S, o, ⟨rfl, re, rs⟩, p⟩ := h
  exact p.here rs σ re
theorem d_expr (ha : PE X a (tE X.K X.mw W fa)) (hs : swapsWith a none pos.line X.env = pure false) : PS X (.Expr a pos) (tS X.K X.mw W (sExpr fa)) := by
  refine PS.imp (ps_expr ha hs) fun D' σ H h => ?_
  obtain ⟨env, S, o, ⟨rfl, re, rs⟩, p⟩ := h
  exact ⟨env, S, o, ⟨rfl, re, rs⟩, (Post.bind p).imp fun d S1 o1 l1 rs1 p1 v r => p1.here rs1 σ (re.up l1)⟩
theorem d_ret (ha : PE X a (tE X.K X.mw W fa)) : PS X (.Return (some a) pos) (tS X.K X.mw W (sRet fa)) := by
  refine PS.imp (ps_ret ha) fun D' σ H h => ?_
  obtain ⟨env, S, o, ⟨rfl, re, rs⟩, p⟩ := h
  exact ⟨env, S, o, ⟨rfl, re, rs⟩, (Post.bind p).imp fun d S1 o1 l1 rs1 p1 v r => p1.here rs1 v r⟩
theorem d_retN : PS X (.Return none pos) (tS X.K X.mw W sRetN) := by
  refine PS.imp ps_retN fun D' σ H h => ?_
  obtain ⟨env, S, o, ⟨rfl, re, rs⟩, p⟩ := h
  exact p.here rs _ .non
theorem d_if {p q : List Stmt} (hc : PT X c (tT X.K X.mw W ft)) (ha : PSs X p (tS X.K X.mw W f)) (hb : PSs X q (tS X.K X.mw W g)) : PS X (.If c p q pos) (tS X.K X.mw W (sIf ft f g)) := by
  refine PS.imp (ps_if hc ha hb) fun D' σ H h => ?_
  obtain ⟨env, S, o, ⟨rfl, re, rs⟩, p⟩ := h
  refine ⟨env, S, o, ⟨rfl, re, rs⟩, (Post.bind p).imp fun k S1 o1 l1 rs1 p1 => ?_⟩
  cases k with
  | true => exact ⟨env, S1, o1, ⟨rfl, re.up l1, rs1⟩, p1⟩
  | false => exact ⟨env, S1, o1, ⟨rfl, re.up l1, rs1⟩, p1⟩
/-! ### targets -/
theorem d_gnm {i : Nat} {x : Str} (hN : X.N.Nodup) (hi : X.N[i]? = some x) (hx : Loc X.env.scope x) (hf : X.fn x = true ∨ X.env.scope.names.lookup x = some .local) : PG X (.Name x pos) (tG X.K X.mw W [i] (gNm i)) := by
  refine PG.imp (pg_name hN hi hx hf) fun v σ H Q h => ?_
  obtain ⟨d, env, S, o, ⟨rfl, re, rs⟩, r, p⟩ := h
  exact p.here rs _ (re.set i r) SameBut.set
theorem d_gnil : PGs X [] (tGs X.K X.mw W [] []) := by
  refine PGs.imp pgs_nil fun vs σ H Q h => ?_
  obtain ⟨ds, env, S, o, ⟨rfl, re, rs⟩, r, p⟩ := h
  cases r with
  | nil => exact ⟨rfl, p.here rs σ re SameBut.refl⟩
  | cons r t => exact False.elim p
theorem d_gcons {g : FG} {gs : List FG} {c1 c2 : List Nat} (hW : Flat W) (h1 : PG X a (tG X.K X.mw W c1 g)) (h2 : PGs X es (tGs X.K X.mw W c2 gs)) (hs : (assignEach (a :: es) X.env).map (·.2) = assign a X.env :: (assignEach es X.env).map (·.2)) : PGs X (a :: es) (tGs X.K X.mw W (c1 ++ c2) (g :: gs)) := by
  refine PGs.imp (pgs_cons h1 h2 hs) fun vs σ H Q h => ?_
  obtain ⟨ds, env, S, o, ⟨rfl, re, rs⟩, r, p⟩ := h
  cases r with
  | nil => exact False.elim p
  | @cons d ds v vs r t =>
    refine ⟨v, vs, rfl, d, env, S, o, ⟨rfl, re, rs⟩, r, (Post.bind p).imp fun env1 S1 o1 l1 rs1 p1 σ1 re1 b1 => ?_⟩
    exact ⟨ds, env1, S1, o1, ⟨rfl, re1, rs1⟩, t.up l1, (p1.wish fun x o' h => wx_flat hW h).imp fun env2 S2 o2 l2 rs2 p2 σ2 re2 b2 => p2 σ2 re2 (b1.trans b2)⟩
theorem gAll_len {gs : List FG} : ∀ {ds : List D} {env : Env} {S : Sto}, gs.length ≠ ds.length → gAll gs ds env S = .stk ∨ ∃ x S', gAll gs ds env S = .exc x S' := by
  induction gs with
  | nil => intro ds env S h; cases ds with | nil => exact absurd rfl h | cons d ds => exact .inl rfl
  | cons g gs ih =>
    intro ds env S h
    cases ds with
    | nil => exact .inl rfl
    | cons d ds =>
      unfold gAll
      cases g d env S with
      | ok env1 S1 => exact ih fun e => h (by rw [List.length_cons, List.length_cons, e])
      | exc x S1 => exact .inr ⟨x, S1, rfl⟩
      | stk => exact .inl rfl
/-- plain names alone: no step of the targets raises -/
def Tame (g : FG) : Prop := ∀ d env S x S', g d env S ≠ .exc x S'
theorem tame_nm {i : Nat} : Tame (gNm i) := fun d env S x S' e => by cases e
theorem gAll_tame : ∀ {gs : List FG}, (∀ g ∈ gs, Tame g) → ∀ {ds : List D} {env : Env} {S : Sto} {x : Ex} {S' : Sto}, gAll gs ds env S ≠ .exc x S'
  | [], _, [], _, _, _, _ => fun e => by cases e
  | [], _, _ :: _, _, _, _, _ => fun e => by cases e
  | _ :: _, _, [], _, _, _, _ => fun e => by cases e
  | g :: gs, h, d :: ds, env, S, x, S' => fun e => by
    unfold gAll at e
    cases hg : g d env S with
    | ok env1 S1 => rw [hg] at e; exact gAll_tame (fun g' h' => h g' (List.mem_cons_of_mem _ h')) e
    | exc x1 S1 => exact h g List.mem_cons_self _ _ _ _ _ hg
    | stk => rw [hg] at e; cases e
theorem tame_tp {gs : List FG} (h : ∀ g ∈ gs, Tame g) : Tame (gTp gs) := fun d env S x S' e => by
  unfold gTp at e
  split at e
  · exact gAll_tame h e
  · cases e
theorem d_gtp {k : Nat} {gs : List FG} {ch : List Nat} (hc : X.calm = true) (ht : ∀ g ∈ gs, Tame g) (h : PGs X es (tGs X.K X.mw W ch gs)) (hn : (assignEach es X.env).length = gs.length) (hst : (assignEach es X.env).findIdx? (·.1) = none) : PG X (.Tuple es k pos) (tG X.K X.mw W ch (gTp gs)) := by
  refine PG.imp (pg_tup hc h hn hst) fun v σ H Q h => ?_
  obtain ⟨d, env, S, o, ⟨rfl, re, rs⟩, r, p⟩ := h
  cases r with
  | @tup a ds vs h1 p1 =>
    have hl : gs.length = ds.length := by
      by_cases e : gs.length = ds.length
      · exact e
      · have p : Post X.K X.mw _ _ o (gAll gs ds env S) := p
        rcases gAll_len (env := env) (S := S) e with z | ⟨x, S', z⟩
        · rw [z] at p; exact False.elim p
        · exact absurd z (gAll_tame ht)
    exact ⟨a, vs, rfl, h1, by rw [← p1.length, hl], ds, env, S, o, ⟨rfl, re, rs⟩, p1, p⟩
  | _ => exact False.elim p
def rSetD (K : PySem.W.Frag) (mw : MW) : TSet := fun x y v H Q => ∃ o d1 d2 d3 S S', o.H = H ∧ RD K mw o d1 x ∧ RD K mw o d2 y ∧ RD K mw o d3 v ∧ RS K mw o S ∧ setD d1 d2 d3 S = some S' ∧ ∀ o', Le K o o' → RS K mw o' S' → Q o'.H
theorem setd_ok : PSet X (rSetD X.K X.mw) := by
  intro pins s σ H x y z ov iv u Q I r1 r2 r3 hh
  obtain ⟨o, d1, d2, d3, S, S', rfl, q1, q2, q3, rs, e, q⟩ := hh
  unfold setD at e
  split at e
  · split at e
    · rename_i xs e1
      split at e
      · rename_i j ej
        cases e
        cases q2
        cases q1 with
        | @loc n a hn =>
        obtain ⟨vs, h1, p⟩ := rs.lst hn e1
        obtain ⟨a1, a2⟩ := rs.putL hn h1 (p.set q3 j)
        exact set_list pins s σ _ _ _ _ ov iv u Q I r1 r2 r3 ⟨a, vs, _, j, rfl, rfl, h1, by rw [← p.length]; exact ej, q _ a1 a2⟩
      · cases e
    · cases e
  · cases e
theorem d_asg {g : FG} {ch : List Nat} (ha : PE X a (tE X.K X.mw W fa)) (hg : PG X b (tG X.K X.mw W ch g)) (hs : swapsWithSole [b] a pos.line X.env = pure false) (hw : swappedStores [b] a X.env = pure none)
    (h1 : (assignEach [b] X.env).map (·.2) = [assign b X.env]) : PS X (.Assign [b] a pos) (tS X.K X.mw W (sAsg fa g)) := by
  refine PS.imp (ps_asg ha hg hs hw h1) fun D' σ H h => ?_
  obtain ⟨env, S, o, ⟨rfl, re, rs⟩, p⟩ := h
  refine ⟨env, S, o, ⟨rfl, re, rs⟩, (Post.bind p).imp fun d S1 o1 l1 rs1 p1 v r => ?_⟩
  exact ⟨d, env, S1, o1, ⟨rfl, re.up l1, rs1⟩, r, (Post.bind p1).imp fun env2 S2 o2 l2 rs2 p2 σ2 re2 _ => p2.here rs2 σ2 re2⟩
theorem d_par {i j : Nat} {x y : Str} {px py pt : Pos} {kt k2 : Nat} {pt2 : Pos} (hc : X.calm = true) (hN : X.N.Nodup) (hi : X.N[i]? = some x) (hj : X.N[j]? = some y) (hij : i ≠ j)
    (hx : X.env.scope.names.lookup x = some .local) (hy : X.env.scope.names.lookup y = some .local) (ha : PA X [a, b] (tA X.K X.mw W fr))
    (hw : swappedStores [.Tuple [.Name x px, .Name y py] kt pt] (.Tuple [a, b] k2 pt2) X.env = pure (some [x, y]))
    (hs : swapsWithSole [.Tuple [.Name x px, .Name y py] kt pt] (.Tuple [a, b] k2 pt2) pos.line X.env = pure false) :
    PS X (.Assign [.Tuple [.Name x px, .Name y py] kt pt] (.Tuple [a, b] k2 pt2) pos) (tS X.K X.mw W (sPar i j fr)) := by
  refine PS.imp (ps_par hc hN hi hj hij hx hy ha hw hs) fun D' σ H h => ?_
  obtain ⟨env, S, o, ⟨rfl, re, rs⟩, p⟩ := h
  refine ⟨env, S, o, ⟨rfl, re, rs⟩, (Post.bind p).imp fun ds S1 o1 l1 rs1 p1 vs r => ?_⟩
  split at p1
  · obtain ⟨v, w, rfl, r1, r2⟩ := r.two
    exact ⟨v, w, rfl, p1.here rs1 _ (((re.up l1).set i r1).set j r2)⟩
  · exact False.elim p1
theorem RDs.three {K : PySem.W.Frag} {mw : MW} {o : Wd} {d e f : D} {vs : List V} (h : RDs K mw o [d, e, f] vs) : ∃ u v w, vs = [u, v, w] ∧ RD K mw o d u ∧ RD K mw o e v ∧ RD K mw o f w := by
  cases h with
  | cons r t =>
    obtain ⟨v, w, rfl, r1, r2⟩ := t.two
    exact ⟨_, _, _, rfl, r, r1, r2⟩
theorem d_par3 {c : Expr} {i j l : Nat} {x y z : Str} {px py pz pt : Pos} {kt k2 : Nat} {pt2 : Pos} (hc : X.calm = true) (hN : X.N.Nodup) (hi : X.N[i]? = some x) (hj : X.N[j]? = some y) (hl : X.N[l]? = some z) (hij : i ≠ j) (hil : i ≠ l) (hjl : j ≠ l)
    (hx : X.env.scope.names.lookup x = some .local) (hy : X.env.scope.names.lookup y = some .local) (hz : X.env.scope.names.lookup z = some .local) (ha : PA X [a, b, c] (tA X.K X.mw W fr))
    (hw : swappedStores [.Tuple [.Name x px, .Name y py, .Name z pz] kt pt] (.Tuple [a, b, c] k2 pt2) X.env = pure (some [x, y, z])) :
    PS X (.Assign [.Tuple [.Name x px, .Name y py, .Name z pz] kt pt] (.Tuple [a, b, c] k2 pt2) pos) (tS X.K X.mw W (sPar3 i j l fr)) := by
  refine PS.imp (ps_par3 hc hN hi hj hl hij hil hjl hx hy hz ha hw rfl) fun D' σ H h => ?_
  obtain ⟨env, S, o, ⟨rfl, re, rs⟩, p⟩ := h
  refine ⟨env, S, o, ⟨rfl, re, rs⟩, (Post.bind p).imp fun ds S1 o1 l1 rs1 p1 vs r => ?_⟩
  split at p1
  · obtain ⟨u, v, w, rfl, r1, r2, r3⟩ := r.three
    exact ⟨u, v, w, rfl, p1.here rs1 _ ((((re.up l1).set i r1).set j r2).set l r3)⟩
  · exact False.elim p1
/-! ### name op= e -/
theorem d_aug {i : Nat} {x : Str} {op : Operator} {g : D → D → Sto → PR} {pos' : Pos} (hN : X.N.Nodup) (hi : X.N[i]? = some x) (hx : Loc X.env.scope x) (ha : PE X a (tE X.K X.mw W fa)) (ho : OpD X (inplaceOp op) g)
    (hf : X.fn x = true ∨ X.env.scope.names.lookup x = some .local) : PS X (.AugAssign (.Name x pos') op a pos) (tS X.K X.mw W (sAug i g fa)) := by
  refine PS.imp (ps_aug (ti := rDD X.K X.mw g) hN hi hx ha (fun pins s σ H x y v u Q I r1 r2 q => ho pins s σ H x y v u Q I r1 r2 q) hf) fun D' σ H h => ?_
  obtain ⟨env, S, o, ⟨rfl, re, rs⟩, p⟩ := h
  unfold sAug at p
  split at p
  · rename_i d e
    obtain ⟨v, hv, r⟩ := re.val i d e
    refine ⟨v, hv, env, S, o, ⟨rfl, re, rs⟩, (Post.bind p).imp fun d2 S1 o1 l1 rs1 p1 v2 r2 => ?_⟩
    obtain ⟨d3, S', e3, q⟩ := lift_post (Post.bind p1)
    exact ⟨o1, d, d2, S1, d3, S', rfl, r.up l1, r2, rs1, e3, fun o' z l rs rz => (q o' l rs).here rs _ ((re.up (l1.trans l)).set i rz)⟩
  · exact False.elim p
theorem iop_add : OpD X (inplaceOp .Add) iaddD := opd_int0 L2.iop_add fun d1 d2 S d S' e => by
  unfold iaddD at e
  split at e
  · cases e; exact ⟨_, _, rfl, rfl, rfl, rfl⟩
  · cases e
theorem iop_sub : OpD X (inplaceOp .Sub) subD := opd_int0 L2.iop_sub fun d1 d2 S d S' e => by
  unfold subD at e
  split at e
  · cases e; exact ⟨_, _, rfl, rfl, rfl, rfl⟩
  · cases e
end
end PV

set_option Elab.async false
set_option linter.all false
set_option maxRecDepth 100000
set_option maxHeartbeats 3999000
namespace PV
open L2 PyProof.Rows PySem PySem.Spec
section
variable {X : Cx} {pins : List (Addr × Obj)} {σ : L2.St} {s : Shared}
/-- an empty dict may be read as one with tuples for keys -/
theorem relabel {o : Wd} {a : Addr} (I : Inv X pins σ o.H s) (e : o.H a = some (.dK [])) : Inv X pins σ (upd o.H a (DictO a [])) s ∧ (a == sysModules) = false := by
  obtain ⟨z, hm, vs, rel, ob, es, ep, h1, h2, h3, h4⟩ := dk_of I.hok e
  cases rel
  refine ⟨?_, hm⟩
  have := d_write (t' := s.toks) (ob := DictO a []) I (by rw [e]; exact True.intro) (Heap.SameBut.refl a s.heap) ⟨ob, h1⟩ ⟨⟨ob, es, ep, h1, h2, h3, by have z := h4.2.1.length; simpa using z⟩, ⟨ob, h1⟩, fun g1 g2 ⟨o', ea, e', k1, k2⟩ k => ⟨o', ea, e', k _ k1, k2⟩⟩
  exact this
theorem RS.toDD {o : Wd} {S : Sto} {n : Nat} {a : Addr} (rs : RS X.K X.mw o S) (hn : o.rho[n]? = some a) (h : o.H a = some (.dK [])) (hm : (a == sysModules) = false) :
    Le X.K o ⟨o.rho, upd o.H a (DictO a [])⟩ ∧ RS X.K X.mw ⟨o.rho, upd o.H a (DictO a [])⟩ (S.set n (.dd [])) ∧ RSO X.K X.mw ⟨o.rho, upd o.H a (DictO a [])⟩ a (.dd []) := by
  have q : RSO X.K X.mw ⟨o.rho, upd o.H a (DictO a [])⟩ a (.dd []) := ⟨[], upd_same, by simp, hm, List.nodup_nil, .nil⟩
  exact ⟨Le.write hn h (fun _ z => nomatch z) (fun _ _ z => nomatch z), rs.write hn h (fun _ z => nomatch z) (fun _ _ z => nomatch z) q, q⟩
theorem dval_kv {K : PySem.W.Frag} {mw : MW} {o : Wd} {κ : Type} [DecidableEq κ] (k : κ) : ∀ {kvs : List (κ × D)} {ks : List (κ × V)}, RKs K mw o kvs ks → (dval kvs k = none ∧ valV ks k = none) ∨ ∃ d v, dval kvs k = some d ∧ valV ks k = some v ∧ RD K mw o d v
  | _, _, .nil => .inl ⟨rfl, rfl⟩
  | _, _, .cons (a := p) (b := q) h t => by
    by_cases e : p.1 = k
    · refine .inr ⟨p.2, q.2, ?_, valV_pos (by rw [← h.1]; exact e), h.2⟩
      simp [dval, e]
    · have ih := dval_kv k t
      have e2 : ¬ q.1 = k := by rw [← h.1]; exact e
      rw [valV_neg e2]
      simpa [dval, List.find?_cons, e] using ih
theorem keyS_v {K : PySem.W.Frag} {mw : MW} {o : Wd} {d : D} {v : V} {k : Key} (r : RD K mw o d v) (h : keyS d = some k) : v = kV k := by
  cases r <;> cases h <;> rfl
/-- what a look gives: how each way of looking goes -/
inductive Look (X : Cx) (pins : List (Addr × Obj)) (σ : L2.St) (s : Shared) (o : Wd) (a : Addr) (v : V) : Option D → Wd → Prop
  | k {kvs : List (Key × V)} {k : Key} {r : Option D} : o.H a = some (.dK kvs) → v = kV k → ((r = none ∧ valV kvs k = none) ∨ ∃ d z, r = some d ∧ valV kvs k = some z ∧ RD X.K X.mw o d z) → Look X pins σ s o a v r o
  | t {o' : Wd} {xs : List (TK × Addr × Value)} {k : TK} {b : Addr} {r : Option D} : v = .ref b → Inv X pins σ o'.H s → (a == sysModules) = false → (dataKind X.prog X.w).is s.heap k b → s.heap.DictOfH (dataKind X.prog X.w) a xs →
      ((r = none ∧ atKey xs k = none) ∨ ∃ d y, r = some d ∧ atKey xs k = some y ∧ ∃ z, RelV z y.2 ∧ RD X.K X.mw o' d z) → Look X pins σ s o a v r o'
theorem look_ok {o : Wd} {S S' : Sto} {n : Nat} {d : D} {v : V} {a : Addr} {r : Option D} (I : Inv X pins σ o.H s) (rs : RS X.K X.mw o S) (hn : o.rho[n]? = some a) (rd : RD X.K X.mw o d v) (h : dlook S n d = some (r, S')) :
    ∃ o', Le X.K o o' ∧ RS X.K X.mw o' S' ∧ Inv X pins σ o'.H s ∧ Look X pins σ s o a v r o' := by
  unfold dlook at h
  split at h
  · rename_i kvs e
    obtain ⟨b, eb, q⟩ := rs.obj n _ e
    rw [hn] at eb
    cases eb
    split at h
    · rename_i k ek
      cases h
      obtain ⟨h1, h2, ds, rfl⟩ := tkT_ok ek
      obtain ⟨xs, e1, e2, e3, e4, e5⟩ := dict_of I q
      cases rd with
      | @tup c _ vs hc pc =>
        refine ⟨o, .refl, rs, I, .t (k := k) (b := c) rfl I e3 (key_is I (by rw [h1]; exact .tup hc pc) h2) e4 ?_⟩
        exact dval_at (R := fun d y => ∃ z, RelV z y ∧ RD X.K X.mw o d z) (F := fun _ q => q.1.deep ≤ 8 ∧ RD X.K X.mw o (keyD q.1) (.ref q.2.1)) k (Paired.mapP e5 fun p q ⟨a1, a2, a3, a4⟩ => ⟨a1, ⟨a2, a3⟩, a4⟩)
    · cases h
  · rename_i kvs e
    obtain ⟨b, eb, q⟩ := rs.obj n _ e
    rw [hn] at eb
    cases eb
    obtain ⟨ks, e1, e2⟩ := q
    split at h
    · rename_i k ek
      cases h
      exact ⟨o, .refl, rs, I, .k e1 (keyS_v rd ek) (dval_kv k e2)⟩
    · split at h
      · rename_i k ek
        cases h
        cases e2
        obtain ⟨h1, h2, ds, rfl⟩ := tkT_ok ek
        obtain ⟨I2, hm⟩ := relabel I e1
        obtain ⟨l, rs2, q2⟩ := rs.toDD hn e1 hm
        obtain ⟨xs, f1, f2, f3, f4, f5⟩ := dict_of (o := ⟨o.rho, upd o.H a (DictO a [])⟩) I2 q2
        cases f5
        cases rd with
        | @tup c _ vs hc pc =>
          refine ⟨_, l, rs2, I2, .t (k := k) (b := c) rfl I2 f3 (key_is (o := ⟨o.rho, upd o.H a (DictO a [])⟩) I2 ?_ h2) f4 (.inl ⟨rfl, rfl⟩)⟩
          rw [h1]
          exact RD.up l (.tup hc pc)
      · cases h
  · cases h
theorem room8 {A : Around} (hu : A.units + 64 < cLine) : (dataKind X.prog X.w).room A.in1 := by
  show A.units + 1 + 8 < cLine
  omega
theorem opd_inDD (hu : X.A.units + 65 < cLine) : OpD X (compareOp .In) inDD := by
  intro pins s σ H x y v u Q I rx ry hh
  obtain ⟨o, d1, d2, S, d, S', rfl, r1, r2, rs, e, q⟩ := hh
  unfold inDD at e
  split at e
  · rename_i n hn
    have := isDc_loc hn
    subst this
    obtain ⟨⟨r, S1⟩, e1, e2⟩ := Option.map_eq_some_iff.mp e
    cases e2
    cases r2 with
    | @loc _ a hr =>
      cases ry
      obtain ⟨o', l, rs', I', L⟩ := look_ok I rs hr r1 e1
      have fin : ∀ s', Inv X pins σ o'.H s' → EP X pins σ Q (.bool r.isSome) s' := fun s' J => ⟨.bl _, o'.H, J, rfl, q o' _ l rs' (.bl _)⟩
      cases L with
      | @k kvs k _ g1 g2 g3 =>
        subst g2
        refine d_in (by omega) I (DGet.k g1) rx fun s' J => ?_
        have : (valV kvs k).isSome = r.isSome := by
          rcases g3 with ⟨z1, z2⟩ | ⟨d, z, z1, z2, _⟩ <;> rw [z1, z2] <;> rfl
        rw [this]
        exact fin s' J
      | @t _ xs k b _ g1 g2 g3 g4 g5 g6 =>
        subst g1
        cases (show v = Value.ref b from rx)
        refine wpAny_in_heap (room8 (by omega)) g4 g3 g5 ?_
        have : (atKey xs k).isSome = r.isSome := by
          rcases g6 with ⟨z1, z2⟩ | ⟨d, z, z1, z2, _⟩ <;> rw [z1, z2] <;> rfl
        rw [this]
        exact fin _ (I'.tok _)
  · exact opd_in hu pins s σ _ _ _ v u Q I rx ry ⟨o, d1, d2, S, d, S', rfl, r1, r2, rs, e, q⟩
theorem opd_notInDD (hu : X.A.units + 65 < cLine) : OpD X (compareOp .NotIn) notInDD := by
  intro pins s σ H x y v u Q I rx ry hh
  obtain ⟨o, d1, d2, S, d, S', rfl, r1, r2, rs, e, q⟩ := hh
  unfold notInDD at e
  split at e
  · rename_i n hn
    have := isDc_loc hn
    subst this
    obtain ⟨⟨r, S1⟩, e1, e2⟩ := Option.map_eq_some_iff.mp e
    cases e2
    cases r2 with
    | @loc _ a hr =>
      cases ry
      obtain ⟨o', l, rs', I', L⟩ := look_ok I rs hr r1 e1
      have fin : ∀ s', Inv X pins σ o'.H s' → EP X pins σ Q (.bool (!r.isSome)) s' := fun s' J => ⟨.bl _, o'.H, J, rfl, q o' _ l rs' (.bl _)⟩
      cases L with
      | @k kvs k _ g1 g2 g3 =>
        subst g2
        refine d_notIn (by omega) I (DGet.k g1) rx fun s' J => ?_
        have : (valV kvs k).isSome = r.isSome := by
          rcases g3 with ⟨z1, z2⟩ | ⟨d, z, z1, z2, _⟩ <;> rw [z1, z2] <;> rfl
        rw [this]
        exact fin s' J
      | @t _ xs k b _ g1 g2 g3 g4 g5 g6 =>
        subst g1
        cases (show v = Value.ref b from rx)
        refine wpAny_notIn_heap (room8 (by omega)) g4 g3 g5 ?_
        have : (atKey xs k).isSome = r.isSome := by
          rcases g6 with ⟨z1, z2⟩ | ⟨d, z, z1, z2, _⟩ <;> rw [z1, z2] <;> rfl
        rw [this]
        exact fin _ (I'.tok _)
  · exact opd_notIn hu pins s σ _ _ _ v u Q I rx ry ⟨o, d1, d2, S, d, S', rfl, r1, r2, rs, e, q⟩
theorem ixdd_ok (hu : X.A.units + 65 < cLine) : IxR X (rDD X.K X.mw ixDD) := by
  intro value slice pins s σ H x y v u Q I rx ry hh hsl
  obtain ⟨o, d1, d2, S, d, S', rfl, r1, r2, rs, e, q⟩ := hh
  unfold ixDD at e
  split at e
  · rename_i n hn
    have := isDc_loc hn
    subst this
    split at e
    · rename_i d' S1 e1
      cases e
      cases r1 with
      | @loc _ a hr =>
        cases rx
        obtain ⟨o', l, rs', I', L⟩ := look_ok I rs hr r2 e1
        cases L with
        | @k kvs k _ g1 g2 g3 =>
          rcases g3 with ⟨z1, z2⟩ | ⟨d, z, z1, z2, z3⟩
          · cases z1
          cases z1
          subst g2
          refine tail_any (dict_typeIs I (DGet.k (k := k) g1)) PySem.F.slot_dict_getitem.lookup (d_getItem (by omega) I (v := z) (by rw [← z2]; exact DGet.k g1) ry fun w' s' J rw' => ⟨z, o.H, J, rw', q o _ l rs' z3⟩) hsl
        | @t _ xs k b _ g1 g2 g3 g4 g5 g6 =>
          rcases g6 with ⟨z1, z2⟩ | ⟨d, yy, z1, z2, z, z3, z4⟩
          · cases z1
          cases z1
          subst g1
          obtain rfl : u = Value.ref b := ry
          exact tail_any g5.typeIs PySem.F.slot_dict_getitem.lookup (wpAny_getItem_heap (room8 (by omega)) g4 g5 z2 ⟨z, o'.H, I'.tok _, z3, q o' _ l rs' z4⟩) hsl
    · cases e
  · exact ixd_seq value slice pins s σ _ _ _ v u Q I rx ry ⟨o, d1, d2, S, d, S', rfl, r1, r2, rs, e, q⟩ hsl
/-! d[k] = v -/
theorem paired_map {α β γ δ : Type} {F : α → β → Prop} {G : γ → δ → Prop} {f : α → γ} {g : β → δ} (hf : ∀ a b, F a b → G (f a) (g b)) : ∀ {l : List α} {m : List β}, Paired F l m → Paired G (l.map f) (m.map g)
  | _, _, .nil => .nil
  | _, _, .cons r t => .cons (hf _ _ r) (paired_map hf t)
theorem paired_snoc {α β : Type} {F : α → β → Prop} {a : α} {b : β} (h : F a b) : ∀ {l : List α} {m : List β}, Paired F l m → Paired F (l ++ [a]) (m ++ [b])
  | _, _, .nil => .cons h .nil
  | _, _, .cons r t => .cons r (paired_snoc h t)
theorem dput_kv {K : PySem.W.Frag} {mw : MW} {o : Wd} {κ : Type} [DecidableEq κ] (k : κ) {d : D} {v : V} (rv : RD K mw o d v) {kvs : List (κ × D)} {ks : List (κ × V)} (h : RKs K mw o kvs ks) : RKs K mw o (dput kvs k d) (putK ks k v) := by
  have h1 : (dval kvs k).isSome = (ks.any fun kv => decide (kv.1 = k)) := by
    rw [valV_any]
    rcases dval_kv k h with ⟨a, b⟩ | ⟨d, z, a, b, _⟩ <;> rw [a, b] <;> rfl
  unfold dput putK
  rw [h1]
  split
  · refine paired_map (fun a b r => ?_) h
    by_cases e : a.1 = k
    · simp only [if_pos e, if_pos (show b.1 = k by rw [← r.1]; exact e)]
      exact ⟨r.1, rv⟩
    · simp only [if_neg e, if_neg (show ¬ b.1 = k by rw [← r.1]; exact e)]
      exact r
  · exact paired_snoc ⟨rfl, rv⟩ h
abbrev PrT (K : PySem.W.Frag) (mw : MW) (o : Wd) : List (TK × D) → List (TK × Addr × Value) → Prop := Paired (fun (p : TK × D) (q : TK × Addr × Value) => p.1 = q.1 ∧ q.1.deep ≤ 8 ∧ RD K mw o (keyD q.1) (.ref q.2.1) ∧ ∃ v, RelV v q.2.2 ∧ RD K mw o p.2 v)
theorem prT_look {K : PySem.W.Frag} {mw : MW} {o : Wd} (k : TK) {kvs : List (TK × D)} {xs : List (TK × Addr × Value)} (h : PrT K mw o kvs xs) : (dval kvs k).isSome = (atKey xs k).isSome := by
  rcases dval_at (R := fun d y => ∃ z, RelV z y ∧ RD K mw o d z) (F := fun _ q => q.1.deep ≤ 8 ∧ RD K mw o (keyD q.1) (.ref q.2.1)) k (Paired.mapP h fun p q ⟨a1, a2, a3, a4⟩ => ⟨a1, ⟨a2, a3⟩, a4⟩) with ⟨a, b⟩ | ⟨d, z, a, b, _⟩ <;> rw [a, b] <;> rfl
theorem dput_t {K : PySem.W.Frag} {mw : MW} {o : Wd} {k : TK} {b : Addr} {d : D} {v : V} {u : Value} (hk : RD K mw o (keyD k) (.ref b)) (hd : k.deep ≤ 8) (rv : RD K mw o d v) (ru : RelV v u) {kvs : List (TK × D)} {xs : List (TK × Addr × Value)} (h : PrT K mw o kvs xs) :
    PrT K mw o (dput kvs k d) (storedH xs k b u) := by
  have h1 := prT_look k h
  unfold dput storedH
  rw [h1]
  split
  · refine paired_map (fun a c r => ?_) h
    unfold putAt
    by_cases e : a.1 = k
    · simp only [if_pos e, if_pos (show c.1 = k by rw [← r.1]; exact e)]
      exact ⟨r.1, r.2.1, r.2.2.1, v, ru, rv⟩
    · simp only [if_neg e, if_neg (show ¬ c.1 = k by rw [← r.1]; exact e)]
      exact r
  · exact paired_snoc ⟨rfl, hd, hk, v, ru, rv⟩ h
theorem dput_len {κ : Type} [DecidableEq κ] (kvs : List (κ × D)) (k : κ) (d : D) : (dput kvs k d).length ≤ kvs.length + 1 := by
  unfold dput
  split <;> simp
def setDD (o i d : D) (S : Sto) : Option Sto := match isDc S o with
  | some n => dstore S n i d
  | none => setD o i d S
def rSetDD (K : PySem.W.Frag) (mw : MW) : TSet := fun x y v H Q => ∃ o d1 d2 d3 S S', o.H = H ∧ RD K mw o d1 x ∧ RD K mw o d2 y ∧ RD K mw o d3 v ∧ RS K mw o S ∧ setDD d1 d2 d3 S = some S' ∧ ∀ o', Le K o o' → RS K mw o' S' → Q o'.H
/-- a dict with tuples for keys is written -/
theorem set_t {o : Wd} {S : Sto} {n : Nat} {a b : Addr} {kvs : List (TK × D)} {k : TK} {d : D} {v : V} {u : Value} {Q : Hp → Prop} (hu : X.A.units + 65 < cLine) (I : Inv X pins σ o.H s) (rs : RS X.K X.mw o S) (hn : o.rho[n]? = some a) (hS : S[n]? = some (.dd kvs)) (hk : RD X.K X.mw o (keyD k) (.ref b)) (hd : k.deep ≤ 8)
    (rv : RD X.K X.mw o d v) (ru : RelV v u) (hl : kvs.length < sizeLine) (q : ∀ o', Le X.K o o' → RS X.K X.mw o' (S.set n (.dd (dput kvs k d))) → Q o'.H) :
    wpAny (model X.prog X.w) X.A (setItem (.ref a) (.ref b) u) (fun _ s' => ∃ H', Inv X pins σ H' s' ∧ Q H') X.xe s := by
  obtain ⟨a', ea, qo⟩ := rs.obj n _ hS
  rw [hn] at ea
  cases ea
  obtain ⟨xs, e1, e2, e3, e4, e5⟩ := dict_of I qo
  have hz : xs.length ≤ sizeLine := by rw [← Paired.length e5]; exact e2
  refine wpAny_setItem_heap (hsz := hz) (room8 (by omega)) (key_is I hk hd) e4 fun h' dd' hs => ?_
  obtain ⟨ob, es, ep, g1, g2, g3, g4, _, g5⟩ := dd'
  have I2 : Inv X pins σ (upd o.H a (DictO a ((storedH xs k b u).map (entT X.w)))) { s with heap := h', toks := s.toks + (dataKind X.prog X.w).draws k } :=
    d_write I (by rw [e1]; exact True.intro) hs ⟨ob, g1⟩ ⟨⟨ob, es, ep, g1, g2, g3, g4⟩, ⟨ob, g1⟩, fun m1 m2 ⟨o', ea, e', k1, k2⟩ k => ⟨o', ea, e', k _ k1, k2⟩⟩
  have l : Le X.K o ⟨o.rho, upd o.H a (DictO a ((storedH xs k b u).map (entT X.w)))⟩ := Le.write hn e1 (fun _ z => nomatch z) (fun _ _ z => nomatch z)
  refine ⟨_, I2, q ⟨o.rho, upd o.H a (DictO a ((storedH xs k b u).map (entT X.w)))⟩ l (rs.write hn e1 (fun _ z => nomatch z) (fun _ _ z => nomatch z) ⟨_, upd_same, ?_, e3, g5, ?_⟩)⟩
  · have := dput_len kvs k d
    omega
  · exact Paired.mapP (dput_t hk hd rv ru e5) fun p q ⟨a1, a2, a3, z, a4, a5⟩ => ⟨a1, a2, a3.up l, z, a4, a5.up l⟩
theorem setdd_ok (hu : X.A.units + 65 < cLine) : PSet X (rSetDD X.K X.mw) := by
  intro pins s σ H x y z ov iv u Q I r1 r2 r3 hh
  obtain ⟨o, d1, d2, d3, S, S', rfl, q1, q2, q3, rs, e, q⟩ := hh
  unfold setDD at e
  split at e
  · rename_i n hn
    have := isDc_loc hn
    subst this
    cases q1 with
    | @loc _ a hr =>
    cases r1
    unfold dstore at e
    split at e
    · rename_i kvs hS
      split at e
      · rename_i k ek
        split at e
        · rename_i hl
          cases e
          obtain ⟨h1, h2, ds, rfl⟩ := tkT_ok ek
          cases q2 with
          | @tup c _ vs hc pc =>
            cases (show iv = Value.ref c from r2)
            exact set_t hu I rs hr hS (by rw [h1]; exact .tup hc pc) h2 q3 r3 hl q
        · cases e
      · cases e
    · rename_i kvs hS
      obtain ⟨a', ea, ks, g1, g2⟩ := rs.obj n _ hS
      rw [hr] at ea
      cases ea
      split at e
      · rename_i k ek
        split at e
        · rename_i hl
          cases e
          have := keyS_v q2 ek
          subst this
          have hl2 : ks.length < sizeLine := by rw [← Paired.length g2]; exact hl
          refine d_setItem (by omega) I (DPut.k g1 hl2) r2 r3 fun s' J => ⟨_, J, ?_⟩
          have l : Le X.K o ⟨o.rho, upd o.H a (.dK (putK ks k z))⟩ := Le.write hr g1 (fun _ z => nomatch z) (fun _ _ z => nomatch z)
          exact q ⟨o.rho, upd o.H a (.dK (putK ks k z))⟩ l (rs.write hr g1 (fun _ z => nomatch z) (fun _ _ z => nomatch z) ⟨_, upd_same, (dput_kv k q3 g2).upV l.toLeV⟩)
        · cases e
      · split at e
        · rename_i k ek
          cases e
          cases g2
          obtain ⟨h1, h2, ds, rfl⟩ := tkT_ok ek
          obtain ⟨I2, hm⟩ := relabel I g1
          obtain ⟨l, rs2, q2'⟩ := rs.toDD hr g1 hm
          have hlt : n < S.length := (List.getElem?_eq_some_iff.mp hS).1
          cases q2 with
          | @tup c _ vs hc pc =>
            cases (show iv = Value.ref c from r2)
            refine set_t (o := ⟨o.rho, upd o.H a (DictO a [])⟩) (kvs := []) hu I2 rs2 hr (by rw [List.getElem?_set_self hlt]) (k := k) (by rw [h1]; exact RD.up l (.tup hc pc)) h2 (q3.up l) r3 (by decide) fun o' l' rs' => ?_
            refine q o' (l.trans l') ?_
            rw [List.set_set] at rs'
            exact rs'
        · cases e
    · cases e
  · exact setd_ok pins s σ _ _ _ _ ov iv u Q I r1 r2 r3 ⟨o, d1, d2, d3, S, S', rfl, q1, q2, q3, rs, e, q⟩
theorem d_ix {a b : Expr} {fa fb : FE} {W : WX} {pos : Pos} (ha : PE X a (tE X.K X.mw W fa)) (hb : PE X b (tE X.K X.mw W fb)) (hs : PlainIx b) (hu : X.A.units + 65 < cLine) : PE X (.Subscript a b pos) (tE X.K X.mw W (eBin ixDD fa fb)) := by
  refine PE.imp (pe_ix (ixdd_ok hu) ha hb hs) fun σ H Q h => ?_
  obtain ⟨env, S, o, ⟨rfl, re, rs⟩, p⟩ := h
  refine ⟨env, S, o, ⟨rfl, re, rs⟩, (Post.bind p).imp fun d1 S1 o1 l1 rs1 p1 v1 r1 => ?_⟩
  refine ⟨env, S1, o1, ⟨rfl, re.up l1, rs1⟩, (Post.bind p1).imp fun d2 S2 o2 l2 rs2 p2 v2 r2 => ?_⟩
  obtain ⟨d, S', e, q⟩ := lift_post p2
  exact ⟨o2, d1, d2, S2, d, S', rfl, r1.up l2, r2, rs2, e, fun o' v l rs r => q o' l rs v r⟩

def gSb (fo fi : FE) : FG := fun d env S => (fo env S).bind fun o S1 => (fi env S1).bind fun i S2 => match setDD o i d S2 with
  | some S3 => .ok env S3
  | none => .stk
theorem d_gsb {W : WX} {a b : Expr} {fa fb : FE} {pos : Pos} (hu : X.A.units + 65 < cLine) (ha : PE X a (tE X.K X.mw W fa)) (hb : PE X b (tE X.K X.mw W fb)) (hp : ∀ {ta tb : TE} {t : TSet}, PE X a ta → PE X b tb → PSet X t → PG X (.Subscript a b pos) (gSub ta tb t))
    : PG X (.Subscript a b pos) (tG X.K X.mw W [] (gSb fa fb)) := by
  refine PG.imp (hp ha hb (setdd_ok hu)) fun v σ H Q h => ?_
  obtain ⟨d, env, S, o, ⟨rfl, re, rs⟩, r, p⟩ := h
  refine ⟨env, S, o, ⟨rfl, re, rs⟩, (Post.bind p).imp fun d1 S1 o1 l1 rs1 p1 v1 r1 => ?_⟩
  refine ⟨env, S1, o1, ⟨rfl, re.up l1, rs1⟩, (Post.bind p1).imp fun d2 S2 o2 l2 rs2 p2 v2 r2 => ?_⟩
  split at p2
  · rename_i S3 e
    exact ⟨o2, d1, d2, d, S2, S3, rfl, r1.up l2, r2, r.up (l1.trans l2), rs2, e, fun o' l rs => p2 o' l rs σ (re.up ((l1.trans l2).trans l)) SameBut.refl⟩
  · exact False.elim p2
/-! {} -/
def eDn : FE := fun _ S => .ok (.loc S.length) (S ++ [.dk []])
theorem d_dnew {W : WX} {pos : Pos} : PE X (.Dict [] [] pos) (tE X.K X.mw W eDn) := by
  refine PE.imp pe_dnewK fun σ H Q h => ?_
  obtain ⟨env, S, o, ⟨rfl, re, rs⟩, p⟩ := h
  intro q hq
  have l : Le X.K o ⟨o.rho ++ [q], upd o.H q (.dK [])⟩ := Le.alloc hq
  exact p _ l (rs.alloc hq ⟨[], upd_same, .nil⟩) _ (alloc_loc rs)
end
end PV

set_option Elab.async false
set_option linter.all false
set_option maxRecDepth 100000
set_option maxHeartbeats 3999000
/-! ### enumerate(v), one argument, v told by how it begins -/
namespace PySem
/-- a new enumerate over the iterator at it -/
def pvEnum (it : Addr) : Obj := { cls := .type "enumerate", data := .fields #[.none, .bool false, .ref it, rawInt 0, .none, .none] }
theorem pv_new_enum {v : Value} {o : Obj} {H : Heap → Prop} (B : Begins v o H) : Meets (Builtin.«enumerate.__new__» ⟨[.type "enumerate", v], []⟩)
    (fun _ R s => H s.heap ∧ R (.ok (.ret (.ref (s.heap.push o).objs.size))) { s with heap := (s.heap.push o).push (pvEnum s.heap.objs.size) }) :=
  .of_wp fun prog w A R ⟨hp, g, d, tk, os⟩ ⟨h1, h2⟩ => by
    have sub := sub_enumerate
    have go : ∀ {A' E Q}, Q (.ref hp.objs.size) ⟨hp.push o, g, d, tk, os⟩ → wpAny (model prog w) A' (pyIter v) Q E ⟨hp, g, d, tk, os⟩ := fun q => B.iter prog w _ _ _ _ h1 q
    wp_walk using go
    exact wpAny_stack_any fun st => wpAny_pure (by
      split
      case h_1 c _ _ _ _ _ => cases c == Value.type "enumerate" <;> (wp_walk using go; exact ⟨_, rfl, h2⟩)
      all_goals (wp_walk using go; exact ⟨_, rfl, h2⟩))
theorem pv_call_enum {prog : Program} {w : World} {A : Around} {E : Value → Shared → Prop} {s : Shared} {v : Value} {o : Obj} {H : Heap → Prop} {Q : Value → Shared → Prop} (B : Begins v o H) (h1 : H s.heap)
    (h : ∀ h', IsEnum h' (s.heap.objs.size + 1) s.heap.objs.size 0 .none → h'.get? s.heap.objs.size = some o → (∀ b x, s.heap.get? b = some x → h'.get? b = some x) → Q (.ref (s.heap.objs.size + 1)) { s with heap := h' }) :
    wpAny (model prog w) A (call (.type "enumerate") [v]) Q E s := by
  have sz : (s.heap.push o).objs.size = s.heap.objs.size + 1 := Heap.size_push ..
  have he : IsEnum ((s.heap.push o).push (pvEnum s.heap.objs.size)) (s.heap.objs.size + 1) s.heap.objs.size 0 .none := sz ▸ Heap.get?_push_size (s.heap.push o) (o := pvEnum s.heap.objs.size) rfl
  exact callType_new F.called_enumerate (by decide) (F.typeCall_enumerate_1 v) (F.newCall_enumerate_1 v) (fun obj => F.args_object_init_2 obj v) F.entry_enumerate_new (pv_new_enum B)
    ⟨h1, sz.symm ▸ ⟨⟨_, he, rfl⟩, h _ he (Heap.get?_push_of_some _ (Heap.get?_push_size _ B.free)) fun b x q => Heap.get?_push_of_some _ (Heap.get?_push_of_some _ q)⟩⟩
end PySem
namespace PV
open PySem PySem.Spec
open PyProof.Rows L2
/-- the tuple at a, of n items, each item in a new pair -/
def IteT (K : PySem.W.Frag) (a : Addr) (n : Nat) : It where
  go i H := ∃ (xs : List V) (x : V), SqT K H a xs ∧ xs.length = n ∧ xs[i]? = some x
  yld i H v H' := ∃ T x, v = .ref T ∧ H T = none ∧ H' = upd H T (.tup [.int (i : Nat), x]) ∧ ∀ xs, SqT K H a xs → xs[i]? = some x
  stop i H := ∃ xs : List V, SqT K H a xs ∧ xs.length = n ∧ n ≤ i
/-- where such a walk stands -/
structure EnT (a e it : Addr) (n i : Nat) (h : Heap) : Prop where
  en : ∃ old, IsEnum h e it ((i : Nat) : Int) old
  ti : h.IsTupleIter it a i
  le : i ≤ n
/-- the kit's walk over pairs, here -/
theorem en_walk {P : Program} {w : World} {A : Around} {a e it : Addr} (hd : A.handled = none) (hai : a ≠ it) (hae : a ≠ e) (hei : e ≠ it) (items : Array Value) :
    WalksT P w A e [e, it, a] [e, it] items.size (fun i vals => ∃ t x, items[i]? = some x ∧ vals = #[.int i t, x]) (fun i h => (∃ old, IsEnum h e it i old) ∧ h.IsTupleIter it a i ∧ h.IsTuple a items)
      (fun i T h => (∃ x, IsEnumOut h e it ((i : Int) + 1) x T) ∧ (h.IsTupleIter it a (i + 1) ∧ h.IsTuple a items) ∧ T ≠ e ∧ T ≠ it) :=
  WalksT.enumerateD (Draws.tuple (A := A.in1) hd it a hai items) e hei (by simp [hei, Ne.symm hae]) (by simp)
theorem turn_enumT {P : Program} {w : World} {K : PySem.W.Frag} {elts : List Expr} {kk n : Nat} {tpos : Pos} (a e it : Addr) (hai : a ≠ it) (hae : a ≠ e) (hei : e ≠ it) :
    Turn P w K (.Tuple elts kk tpos) (IteT K a n) [e, it] e (EnT a e it n) where
  mem := List.mem_cons_self ..
  obj i h st b hb := by
    match List.mem_cons.mp hb with
    | .inl z => have ⟨_, q⟩ := st.en; exact z ▸ ⟨_, q, fun _ z => nomatch z⟩
    | .inr z => have ⟨o, q, _, d⟩ := st.ti; exact (List.mem_singleton.mp z) ▸ ⟨o, q, fun _ z => nomatch d.symm.trans z⟩
  keep i h h' st k := ⟨st.en.imp fun _ q => k e (by simp) _ q, st.ti.at (k it (by simp)), st.le⟩
  self A i s Q E st h := st.en.elim fun _ q => wpAny_pyIter_enum q h
  item X hP hw hK hc i pins s σ H E I hf st hg := by
    obtain ⟨xs, x, hq, hn, hx⟩ := hg
    subst hP hw hK
    have ⟨its, rv, p, _⟩ := I.tuple hq
    have ⟨u, hu, ru⟩ := rv.get hx
    have hlt := (List.getElem?_eq_some_iff.mp hu).1
    have W := en_walk (P := X.prog) (w := X.w) (I.ok.hd hc) hai hae hei its.toArray
    refine W.item i s _ E hlt ⟨st.en, st.ti, p⟩ fun T vals h' tk hv hT tup mid k1 => ⟨_, rfl, W.go elts kk tpos i T _ _ E mid fun h'' st2 k2 => ?_⟩
    obtain ⟨t, y, hy, rfl⟩ := hv
    obtain rfl : y = u := Option.some.inj (hy.symm.trans (List.getElem?_toArray ▸ hu))
    have new : ObjOk X.prog X.w (upd H T (.tup [.int (i : Nat), x])) h'' T (.tup [.int (i : Nat), x]) :=
      ⟨by show 2 ≤ sizeLine; decide, _, .cons ⟨t, rfl⟩ (.cons ru .nil), tup.at fun o q => k2 T o (W.apart i T h' mid) q⟩
    refine ⟨.ref T, _, I.turnedNew (fun b o hb q => k2 b o hb (k1 b o hb q)) hf hT new, rfl, ⟨T, x, rfl, I.hok.fresh hT, rfl, fun ys hy => (I.tuple_inj hy hq) ▸ hx⟩, ⟨st2.1, st2.2.1, ?_⟩, fun b hb => ?_⟩
    · have := rv.length; omega
    · have ⟨o, q, _⟩ : ∃ o, s.heap.get? b = some o ∧ True := by
        match List.mem_cons.mp hb with
        | .inl z => have ⟨_, q⟩ := st.en; exact z ▸ ⟨_, q, trivial⟩
        | .inr z => have ⟨o, q, _⟩ := st.ti; exact (List.mem_singleton.mp z) ▸ ⟨o, q, trivial⟩
      have lb := Heap.lt_size q
      rw [upd_ne (Nat.ne_of_lt (Nat.lt_of_lt_of_le lb hT))]
      exact (hf b hb).1
  done X hP hw hK hc i pins s σ H E I hf st hg := by
    obtain ⟨xs, hq, hn, hx⟩ := hg
    subst hP hw hK
    have ⟨its, rv, p, _⟩ := I.tuple hq
    have ei : i = its.toArray.size := by have := rv.length; have := st.le; simp; omega
    have ⟨s1, s2, _⟩ := st
    subst ei
    exact (en_walk (I.ok.hd hc) hai hae hei its.toArray).done s _ E ⟨s1, s2, p⟩ fun h' tk k => ⟨rfl, I.turnedL k hf⟩
def iEnumA (K : PySem.W.Frag) (ta : TA) : TI := fun σ H R => ta σ H fun vs H1 => ∃ a xs, vs = [.ref a] ∧ ((SqL K H1 a xs ∧ R (Ite K a) H1) ∨ (SqT K H1 a xs ∧ R (IteT K a xs.length) H1))
theorem pi_enumA {X : Cx} {e : Expr} {ta : TA} {p pos tpos : Pos} {elts : List Expr} {kk : Nat} (hg : Gl X "enumerate") (hm : X.mg "enumerate" = none) (ha : PA X [e] ta) (hs : starEach [e] X.env = [(false, eval e X.env)]) :
    PI X (.Tuple elts kk tpos) (.Call (.Name "enumerate" p) [e] [] pos) (iEnumA X.K ta) := by
  refine ⟨fun pins s σ H R I h => Call_ (ld_blt I hg hm boot_enumerate (PyProof.Rows.callWith_type1 (thn (ha.run pos pins s σ H _ I h) fun us s1 ⟨vs, H1, I1, r1, a, xs, ex, q1⟩ => ?_) hs rfl))⟩
  subst ex
  obtain ⟨u, eu, ru⟩ : ∃ u, us = [u] ∧ u = Value.ref a := by
    cases r1 with
    | cons r z => cases z; exact ⟨_, rfl, r⟩
  subst ru eu
  have young : ∀ b, b ∈ [s1.heap.objs.size + 1, s1.heap.objs.size] → FpOk X pins H1 b := fun b hb => by
    have le : s1.heap.objs.size ≤ b := by
      match List.mem_cons.mp hb with
      | .inl z => exact z ▸ Nat.le_succ _
      | .inr z => exact Nat.le_of_eq (List.mem_singleton.mp z).symm
    exact I1.fpOk le (I1.hok.fresh le)
  match q1 with
  | .inl ⟨hq, q⟩ =>
      have ⟨its, _, p', _⟩ := I1.list hq
      exact pv_call_enum (begins_list _ its.toArray) p'.isList fun h' he hit hk => wpAny_pyIter_enum he ⟨_, _, _, _, H1, rfl, I1.kept (t' := s1.toks) hk, turn_enum a _ _, ⟨⟨.none, he⟩, ⟨_, hit, rfl, rfl⟩, Nat.succ_ne_self _⟩, young, q⟩
  | .inr ⟨hq, q⟩ =>
      have ⟨its, _, p', _⟩ := I1.tuple hq
      have la : a < s1.heap.objs.size := by have ⟨_, z, _⟩ := p'; exact Heap.lt_size z
      exact pv_call_enum (begins_tuple _ its.toArray) p' fun h' he hit hk => wpAny_pyIter_enum he ⟨_, _, _, _, H1, rfl, I1.kept (t' := s1.toks) hk, turn_enumT a _ _ (Nat.ne_of_lt la) (Nat.ne_of_lt (Nat.lt_succ_of_lt la)) (Nat.succ_ne_self _), ⟨⟨.none, he⟩, ⟨_, hit, rfl, rfl⟩, Nat.zero_le _⟩, young, q⟩
end PV

set_option Elab.async false
set_option linter.all false
set_option maxRecDepth 100000
set_option maxHeartbeats 3999000
namespace PV
open L2 PyProof.Rows PySem PySem.Spec

/-! ### what is walked -/
inductive IT where
  | items (ds : List D) | live (n : Nat) | enum (ds : List D) | enumL (n : Nat) | zipL (n m : Nat)
def nxt : IT → Nat → Sto → Option (Option D)
  | .items ds, i, _ => some ds[i]?
  | .live n, i, S => (match lstAt S n with
    | some ds => some ds[i]?
    | none => none)
  | .enum ds, i, _ => some (ds[i]?.map fun d => .tup [.int (i : Nat), d])
  | .enumL n, i, S => (match lstAt S n with
    | some ds => some (ds[i]?.map fun d => .tup [.int (i : Nat), d])
    | none => none)
  | .zipL n m, i, S => (match lstAt S n, lstAt S m with
    | some ds, some es => some (match ds[i]?, es[i]? with
      | some d, some e => some (.tup [d, e])
      | _, _ => none)
    | _, _ => none)
def turns : IT → Sto → Nat
  | .items ds, _ => ds.length
  | .live n, S => ((lstAt S n).getD []).length
  | .enum ds, _ => ds.length
  | .enumL n, S => ((lstAt S n).getD []).length
  | .zipL n _, S => ((lstAt S n).getD []).length
abbrev FI := Env → Sto → Out IT
def itOf (d : D) (S : Sto) : Option IT := match d with
  | .tup ds => some (.items ds)
  | .fz ds => some (.items ds)
  | .loc n => (match lstAt S n with
    | some _ => some (.live n)
    | none => none)
  | _ => none
def iSeq (fe : FE) : FI := fun env S => (fe env S).bind fun d S1 => match itOf d S1 with
  | some it => .ok it S1
  | none => .stk
/-- lo, lo + 1, .. -/
def upTo (lo : Int) : Nat → List D
  | 0 => []
  | n + 1 => .int lo :: upTo (lo + 1) n
def small62 (i : Int) : Bool := decide (-(2 ^ 62) ≤ i ∧ i < 2 ^ 62)
def iRg (fa : FA) : FI := fun env S => (fa env S).bind fun ds S1 => match ds with
  | [.int j] => if small62 j = true then .ok (.items (upTo 0 j.toNat)) S1 else .stk
  | [.int i, .int j] => if small62 i = true ∧ small62 j = true then .ok (.items (upTo i (j - i).toNat)) S1 else .stk
  | _ => .stk
def iEn (fa : FA) : FI := fun env S => (fa env S).bind fun ds S1 => match ds with
  | [.loc n] => (match lstAt S1 n with
    | some _ => .ok (.enumL n) S1
    | none => .stk)
  | [.fz ds] => .ok (.enum ds) S1
  | [.tup ds] => .ok (.enum ds) S1
  | _ => .stk
def iZp (fa : FA) : FI := fun env S => (fa env S).bind fun ds S1 => match ds with
  | [.loc n, .loc m] => (match lstAt S1 n, lstAt S1 m with
    | some _, some _ => .ok (.zipL n m) S1
    | _, _ => .stk)
  | _ => .stk
theorem upTo_length : ∀ (n : Nat) (lo : Int), (upTo lo n).length = n
  | 0, _ => rfl
  | n + 1, lo => by rw [upTo, List.length_cons, upTo_length n]
theorem upTo_get : ∀ (n : Nat) (lo : Int) (i : Nat), i < n → (upTo lo n)[i]? = some (.int (lo + i))
  | 0, _, _, h => absurd h (Nat.not_lt_zero _)
  | n + 1, lo, 0, _ => by simp [upTo]
  | n + 1, lo, i + 1, h => by
    rw [upTo, List.getElem?_cons_succ, upTo_get n (lo + 1) i (Nat.lt_of_succ_lt_succ h)]
    congr 2
    omega
section
variable (K : PySem.W.Frag) (mw : MW)
def RIt (o : Wd) (it : IT) (J : It) : Prop := ∀ (o' : Wd) (S : Sto) (i : Nat), Le K o o' → RS K mw o' S →
  (nxt it i S = some none → J.stop i o'.H) ∧ ∀ d, nxt it i S = some (some d) → J.go i o'.H ∧ ∀ x H', J.yld i o'.H x H' → ∃ o2 : Wd, o2.H = H' ∧ Le K o' o2 ∧ RS K mw o2 S ∧ RD K mw o2 d x
def tI (W : WX) (fi : FI) : TI := fun σ H R => ∃ env S o, At K mw env S o σ H ∧ Post K mw (wx K mw W σ) (fun it _ o' => ∀ J, RIt K mw o' it J → R J o'.H) o (fi env S)
end
section
variable {K : PySem.W.Frag} {mw : MW} {o : Wd}
theorem RDs.none' {ds : List D} {vs : List V} {i : Nat} (r : RDs K mw o ds vs) (h : ds[i]? = none) : vs.length ≤ i := by
  rw [← r.length]
  exact List.getElem?_eq_none_iff.mp h
theorem rit_tup {a : Addr} {ds : List D} {vs : List V} (h : SqT K o.H a vs) (r : RDs K mw o ds vs) : RIt K mw o (.items ds) (Itt K a) := by
  intro o' S i l rs
  have h' := l.tup a vs h
  have r' := r.up l
  refine ⟨fun e => ⟨vs, h', r'.none' (Option.some.inj e)⟩, fun d e => ?_⟩
  obtain ⟨v, hv, rv⟩ := r'.get (Option.some.inj e)
  refine ⟨⟨vs, v, h', hv⟩, fun x H' hy => ?_⟩
  obtain ⟨rfl, hy⟩ := hy
  have := hy vs h'
  rw [hv] at this
  cases this
  exact ⟨o', rfl, .refl, rs, rv⟩
theorem rit_fz {a : Addr} {ds : List D} {vs : List V} (h : SqF K o.H a vs) (r : RDs K mw o ds vs) : RIt K mw o (.items ds) (Itl K a) := by
  intro o' S i l rs
  have h' := (l.toLeV.fz h).sq
  have r' := r.up l
  refine ⟨fun e => ⟨vs, h', r'.none' (Option.some.inj e)⟩, fun d e => ?_⟩
  obtain ⟨v, hv, rv⟩ := r'.get (Option.some.inj e)
  refine ⟨⟨vs, v, h', hv⟩, fun x H' hy => ?_⟩
  obtain ⟨rfl, hy⟩ := hy
  have := hy vs h'
  rw [hv] at this
  cases this
  exact ⟨o', rfl, .refl, rs, rv⟩
theorem rit_live {a : Addr} {n : Nat} (h : o.rho[n]? = some a) : RIt K mw o (.live n) (Itl K a) := by
  intro o' S i l rs
  have h' := l.rho n a h
  refine ⟨fun e => ?_, fun d e => ?_⟩
  · dsimp only [nxt] at e
    split at e
    · rename_i ds hl
      obtain ⟨vs, q, p⟩ := rs.lst h' hl
      exact ⟨vs, SqL.of q, p.none' (Option.some.inj e)⟩
    · cases e
  · dsimp only [nxt] at e
    split at e
    · rename_i ds hl
      obtain ⟨vs, q, p⟩ := rs.lst h' hl
      obtain ⟨v, hv, rv⟩ := p.get (Option.some.inj e)
      refine ⟨⟨vs, v, SqL.of q, hv⟩, fun x H' hy => ?_⟩
      obtain ⟨rfl, hy⟩ := hy
      have := hy vs (SqL.of q)
      rw [hv] at this
      cases this
      exact ⟨o', rfl, .refl, rs, rv⟩
    · cases e
theorem rit_range {lo : Int} {n : Nat} : RIt K mw o (.items (upTo lo n)) (Itr lo n) := by
  intro o' S i l rs
  refine ⟨fun e => ?_, fun d e => ?_⟩
  · have := List.getElem?_eq_none_iff.mp (Option.some.inj e)
    rw [upTo_length] at this
    exact this
  · have hi : i < n := by
      have := (List.getElem?_eq_some_iff.mp (Option.some.inj e)).1
      rw [upTo_length] at this
      exact this
    have e2 : (upTo lo n)[i]? = some d := Option.some.inj e
    rw [upTo_get n lo i hi] at e2
    cases e2
    refine ⟨hi, fun x H' hy => ?_⟩
    obtain ⟨rfl, rfl⟩ := hy
    exact ⟨o', rfl, .refl, rs, .int _⟩
theorem rit_enum {a : Addr} {ds : List D} {vs : List V} (h : SqF K o.H a vs) (r : RDs K mw o ds vs) : RIt K mw o (.enum ds) (Ite K a) := by
  intro o' S i l rs
  have h' := (l.toLeV.fz h).sq
  have r' := r.up l
  refine ⟨fun e => ⟨vs, h', r'.none' ?_⟩, fun d e => ?_⟩
  · have : ds[i]?.map (fun d => D.tup [.int (i : Nat), d]) = none := Option.some.inj e
    simpa using this
  · obtain ⟨d', e1, rfl⟩ := Option.map_eq_some_iff.mp (Option.some.inj e)
    obtain ⟨v, hv, rv⟩ := r'.get e1
    refine ⟨⟨vs, v, h', hv⟩, fun x H' hy => ?_⟩
    obtain ⟨T, x', rfl, hT, rfl, hy⟩ := hy
    have := hy vs h'
    rw [hv] at this
    cases this
    obtain ⟨a1, a2, a3⟩ := rs.newTup hT (.cons (.int ((i : Nat) : Int)) (.cons rv .nil))
    exact ⟨_, rfl, a1, a2, a3⟩
theorem rit_enumT {a : Addr} {ds : List D} {vs : List V} (h : SqT K o.H a vs) (r : RDs K mw o ds vs) : RIt K mw o (.enum ds) (IteT K a vs.length) := by
  intro o' S i l rs
  have h' := l.tup a vs h
  have r' := r.up l
  refine ⟨fun e => ⟨vs, h', rfl, r'.none' ?_⟩, fun d e => ?_⟩
  · have : ds[i]?.map (fun d => D.tup [.int (i : Nat), d]) = none := Option.some.inj e
    simpa using this
  · obtain ⟨d', e1, rfl⟩ := Option.map_eq_some_iff.mp (Option.some.inj e)
    obtain ⟨v, hv, rv⟩ := r'.get e1
    refine ⟨⟨vs, v, h', rfl, hv⟩, fun x H' hy => ?_⟩
    obtain ⟨T, x', rfl, hT, rfl, hy⟩ := hy
    have := hy vs h'
    rw [hv] at this
    cases this
    obtain ⟨a1, a2, a3⟩ := rs.newTup hT (.cons (.int ((i : Nat) : Int)) (.cons rv .nil))
    exact ⟨_, rfl, a1, a2, a3⟩
theorem rit_enumL {a : Addr} {n : Nat} (h : o.rho[n]? = some a) : RIt K mw o (.enumL n) (Ite K a) := by
  intro o' S i l rs
  have h' := l.rho n a h
  refine ⟨fun e => ?_, fun d e => ?_⟩
  · dsimp only [nxt] at e
    split at e
    · rename_i ds hl
      obtain ⟨vs, q, p⟩ := rs.lst h' hl
      have : ds[i]?.map (fun d => D.tup [.int (i : Nat), d]) = none := Option.some.inj e
      exact ⟨vs, SqL.of q, p.none' (by simpa using this)⟩
    · cases e
  · dsimp only [nxt] at e
    split at e
    · rename_i ds hl
      obtain ⟨vs, q, p⟩ := rs.lst h' hl
      obtain ⟨d', e1, rfl⟩ := Option.map_eq_some_iff.mp (Option.some.inj e)
      obtain ⟨v, hv, rv⟩ := p.get e1
      refine ⟨⟨vs, v, SqL.of q, hv⟩, fun x H' hy => ?_⟩
      obtain ⟨T, x', rfl, hT, rfl, hy⟩ := hy
      have := hy vs (SqL.of q)
      rw [hv] at this
      cases this
      obtain ⟨a1, a2, a3⟩ := rs.newTup hT (.cons (.int ((i : Nat) : Int)) (.cons rv .nil))
      exact ⟨_, rfl, a1, a2, a3⟩
    · cases e
theorem rit_zipL {a b : Addr} {n m : Nat} (h : o.rho[n]? = some a) (h2 : o.rho[m]? = some b) : RIt K mw o (.zipL n m) (Itz K a b) := by
  intro o' S i l rs
  have h' := l.rho n a h
  have h2' := l.rho m b h2
  refine ⟨fun e => ?_, fun d e => ?_⟩
  · dsimp only [nxt] at e
    split at e
    · rename_i ds es hl hl2
      obtain ⟨vs, q, p⟩ := rs.lst h' hl
      obtain ⟨ws, q2, p2⟩ := rs.lst h2' hl2
      refine ⟨vs, ws, SqL.of q, SqL.of q2, ?_⟩
      have e := Option.some.inj e
      split at e
      · cases e
      · rename_i hn
        cases e1 : ds[i]? with
        | none => exact .inl (p.none' e1)
        | some d =>
          cases e2 : es[i]? with
          | none => exact .inr (p2.none' e2)
          | some e => exact absurd e2 (hn d e e1)
    · cases e
  · dsimp only [nxt] at e
    split at e
    · rename_i ds es hl hl2
      obtain ⟨vs, q, p⟩ := rs.lst h' hl
      obtain ⟨ws, q2, p2⟩ := rs.lst h2' hl2
      have e := Option.some.inj e
      split at e
      · rename_i d1 d2 e1 e2
        cases e
        obtain ⟨v, hv, rv⟩ := p.get e1
        obtain ⟨w, hw, rw'⟩ := p2.get e2
        refine ⟨⟨vs, ws, v, w, SqL.of q, SqL.of q2, hv, hw⟩, fun x H' hy => ?_⟩
        obtain ⟨T, x', y', rfl, hT, rfl, hy, hy2⟩ := hy
        have := hy vs (SqL.of q)
        rw [hv] at this
        cases this
        have := hy2 ws (SqL.of q2)
        rw [hw] at this
        cases this
        obtain ⟨a1, a2, a3⟩ := rs.newTup hT (.cons rv (.cons rw' .nil))
        exact ⟨_, rfl, a1, a2, a3⟩
      · cases e
    · cases e
end
section
variable {X : Cx} {W : WX} {tg a b c : Expr} {es : List Expr} {fa fb fc : FE} {fr : FA} {pos : Pos} {ft fu : FT} {f g : FS}
theorem PI.imp {wi wi' : TI} (h : PI X tg a wi) (q : ∀ σ H R, wi' σ H R → wi σ H R) : PI X tg a wi' := ⟨fun pins s σ H R I z => h.run pins s σ H R I (q σ H R z)⟩
/-- a list or a tuple is walked -/
theorem pi_seq {tl : TE} (hl : PE X a tl) : PI X tg a (fun σ H R => tl σ H fun x H1 => ∃ p xs, x = .ref p ∧ ((SqL X.K H1 p xs ∧ R (Itl X.K p) H1) ∨ (SqT X.K H1 p xs ∧ R (Itt X.K p) H1))) := by
  refine ⟨fun pins s σ H R I h => ?_⟩
  refine thn (hl.run pins s σ H _ I h) fun v s1 ⟨x, H1, I1, r1, p, xs, ex, q1⟩ => ?_
  subst ex
  cases r1
  have new : ∀ b ∈ [s1.heap.objs.size], FpOk X pins H1 b := fun b hb => by
    rw [List.mem_singleton.mp hb]
    exact I1.fpOk (Nat.le_refl _) (I1.hok.fresh (Nat.le_refl _))
  rcases q1 with ⟨hq, q⟩ | ⟨hq, q⟩
  · obtain ⟨its, rv, pl, hz⟩ := I1.list hq
    exact wpAny_pyIter_list pl.isList ⟨s1.heap.objs.size, [s1.heap.objs.size], _, _, H1, rfl, I1.kept (t' := s1.toks) fun b o e => Heap.get?_push_of_some _ e, turn_list p _, ⟨_, Heap.get?_push_size _ rfl, rfl, rfl⟩, new, q⟩
  · obtain ⟨its, rv, pl, hz⟩ := I1.tuple hq
    exact wpAny_pyIter_tuple (show s1.heap.IsTuple p its.toArray from pl) ⟨s1.heap.objs.size, [s1.heap.objs.size], _, _, H1, rfl, I1.kept (t' := s1.toks) fun b o e => Heap.get?_push_of_some _ e, turn_tuple p _, ⟨_, Heap.get?_push_size _ rfl, rfl, rfl⟩, new, q⟩
theorem d_iseq (ha : PE X a (tE X.K X.mw W fa)) : PI X tg a (tI X.K X.mw W (iSeq fa)) := by
  refine PI.imp (pi_seq ha) fun σ H R h => ?_
  obtain ⟨env, S, o, ⟨rfl, re, rs⟩, p⟩ := h
  refine ⟨env, S, o, ⟨rfl, re, rs⟩, (Post.bind p).imp fun d S1 o1 l1 rs1 p1 v r => ?_⟩
  split at p1
  · rename_i it e
    have p1 := p1.here rs1
    cases r with
    | @tup q ds vs h1 r1 => cases e; exact ⟨q, vs, rfl, .inr ⟨h1, p1 _ (rit_tup h1 r1)⟩⟩
    | @fz q ds vs h1 r1 => cases e; exact ⟨q, vs, rfl, .inl ⟨h1.sq, p1 _ (rit_fz h1 r1)⟩⟩
    | @loc n q hn =>
      unfold itOf at e
      dsimp only at e
      split at e
      · rename_i ds hl
        cases e
        obtain ⟨vs, h1, r1⟩ := rs1.lst hn hl
        exact ⟨q, vs, rfl, .inl ⟨SqL.of h1, p1 _ (rit_live hn)⟩⟩
      · cases e
    | _ => cases e
  · exact False.elim p1
theorem small62_ok {i : Int} (h : small62 i = true) : -(2 ^ 62) ≤ i ∧ i < 2 ^ 62 := of_decide_eq_true h
theorem d_irg1 {p : Pos} (hg : Gl X "range") (hm : X.mg "range" = none) (ha : PA X [a] (tA X.K X.mw W fr)) (hl : LenA fr 1) (hs : starEach [a] X.env = [(false, eval a X.env)]) : PI X tg (.Call (.Name "range" p) [a] [] pos) (tI X.K X.mw W (iRg fr)) := by
  refine PI.imp (pi_range1 hg hm ha hs) fun σ H R h => ?_
  obtain ⟨env, S, o, ⟨rfl, re, rs⟩, p⟩ := h
  refine ⟨env, S, o, ⟨rfl, re, rs⟩, (postLen (Post.bind p) (hl env S)).imp fun ds S1 o1 l1 rs1 p1 vs r => ?_⟩
  obtain ⟨hn, p1⟩ := p1
  split at p1
  · obtain ⟨v, rfl, r1⟩ := r.one
    split at p1
    · rename_i hz
      cases r1
      exact ⟨_, rfl, (small62_ok hz).1, (small62_ok hz).2, p1.here rs1 _ rit_range⟩
    · exact False.elim p1
  · cases hn
  · exact False.elim p1
theorem d_irg2 {p : Pos} (hg : Gl X "range") (hm : X.mg "range" = none) (ha : PA X [a, b] (tA X.K X.mw W fr)) (hl : LenA fr 2) (hs : starEach [a, b] X.env = [(false, eval a X.env), (false, eval b X.env)]) (hs2 : starEach [b] X.env = [(false, eval b X.env)]) :
    PI X tg (.Call (.Name "range" p) [a, b] [] pos) (tI X.K X.mw W (iRg fr)) := by
  refine PI.imp (pi_range2 hg hm ha hs hs2) fun σ H R h => ?_
  obtain ⟨env, S, o, ⟨rfl, re, rs⟩, p⟩ := h
  refine ⟨env, S, o, ⟨rfl, re, rs⟩, (postLen (Post.bind p) (hl env S)).imp fun ds S1 o1 l1 rs1 p1 vs r => ?_⟩
  obtain ⟨hn, p1⟩ := p1
  split at p1
  · cases hn
  · obtain ⟨v, w, rfl, r1, r2⟩ := r.two
    split at p1
    · rename_i hz
      cases r1
      cases r2
      exact ⟨_, _, rfl, ⟨(small62_ok hz.1).1, (small62_ok hz.1).2, (small62_ok hz.2).1, (small62_ok hz.2).2⟩, p1.here rs1 _ rit_range⟩
    · exact False.elim p1
  · exact False.elim p1
theorem d_ien {p tpos : Pos} {elts : List Expr} {kk : Nat} (hg : Gl X "enumerate") (hm : X.mg "enumerate" = none) (ha : PA X [a] (tA X.K X.mw W fr)) (hs : starEach [a] X.env = [(false, eval a X.env)]) : PI X (.Tuple elts kk tpos) (.Call (.Name "enumerate" p) [a] [] pos) (tI X.K X.mw W (iEn fr)) := by
  refine PI.imp (pi_enumA hg hm ha hs) fun σ H R h => ?_
  obtain ⟨env, S, o, ⟨rfl, re, rs⟩, p⟩ := h
  refine ⟨env, S, o, ⟨rfl, re, rs⟩, (Post.bind p).imp fun ds S1 o1 l1 rs1 p1 vs r => ?_⟩
  split at p1
  · obtain ⟨v, rfl, r1⟩ := r.one
    split at p1
    · rename_i ds hl
      cases r1 with
      | @loc n q hn =>
      obtain ⟨vs, h1, r2⟩ := rs1.lst hn hl
      exact ⟨q, vs, rfl, .inl ⟨SqL.of h1, p1.here rs1 _ (rit_enumL hn)⟩⟩
    · exact False.elim p1
  · obtain ⟨v, rfl, r1⟩ := r.one
    cases r1 with
    | @fz q ds vs h1 r1 => exact ⟨q, vs, rfl, .inl ⟨h1.sq, p1.here rs1 _ (rit_enum h1 r1)⟩⟩
  · obtain ⟨v, rfl, r1⟩ := r.one
    cases r1 with
    | @tup q ds vs h1 r1 => exact ⟨q, vs, rfl, .inr ⟨h1, p1.here rs1 _ (rit_enumT h1 r1)⟩⟩
  · exact False.elim p1
theorem d_izp {p tpos : Pos} {elts : List Expr} {kk : Nat} (hg : Gl X "zip") (hm : X.mg "zip" = none) (ha : PA X [a, b] (tA X.K X.mw W fr)) (hs : starEach [a, b] X.env = (false, eval a X.env) :: starEach [b] X.env) (hpl : (backTo pos (starEach [b] X.env)).any (·.1) = false) :
    PI X (.Tuple elts kk tpos) (.Call (.Name "zip" p) [a, b] [] pos) (tI X.K X.mw W (iZp fr)) := by
  refine PI.imp (pi_zip hg hm ha hs hpl) fun σ H R h => ?_
  obtain ⟨env, S, o, ⟨rfl, re, rs⟩, p⟩ := h
  refine ⟨env, S, o, ⟨rfl, re, rs⟩, (Post.bind p).imp fun ds S1 o1 l1 rs1 p1 vs r => ?_⟩
  split at p1
  · obtain ⟨v, w, rfl, r1, r2⟩ := r.two
    split at p1
    · rename_i ds es hl hl2
      cases r1 with
      | @loc n q hn =>
      cases r2 with
      | @loc m q2 hm2 =>
      obtain ⟨vs, h1, _⟩ := rs1.lst hn hl
      obtain ⟨ws, h2, _⟩ := rs1.lst hm2 hl2
      exact ⟨q, q2, vs, ws, rfl, SqL.of h1, SqL.of h2, p1.here rs1 _ (rit_zipL hn hm2)⟩
    · exact False.elim p1
  · exact False.elim p1

/-! ### for, while -/
def forF (it : IT) (g : FG) (b : FS) : Nat → Nat → Env → Sto → Out Fl
  | 0, _, _, _ => .stk
  | k + 1, i, env, S => match nxt it i S with
    | none => .stk
    | some none => .ok (.nx env) S
    | some (some d) => (g d env S).bind fun env1 S1 => (b env1 S1).bind fun fl S2 => match fl with
      | .nx e => forF it g b k (i + 1) e S2
      | .ct e => forF it g b k (i + 1) e S2
      | .bk e => .ok (.nx e) S2
      | .rt d => .ok (.rt d) S2
def sFor (fi : FI) (g : FG) (b : FS) : FS := fun env S => (fi env S).bind fun it S1 => forF it g b (turns it S1 + 1) 0 env S1
def whF (t : FT) (b : FS) : Nat → Env → Sto → Out Fl
  | 0, _, _ => .stk
  | k + 1, env, S => (t env S).bind fun c S1 => if c = true then (b env S1).bind fun fl S2 => match fl with
      | .nx e => whF t b k e S2
      | .ct e => whF t b k e S2
      | .bk e => .ok (.nx e) S2
      | .rt d => .ok (.rt d) S2
    else .ok (.nx env) S1
def wTurns : Nat := 1000000000000000000000000000000000000000000000000000000000000
def sWhile (t : FT) (b : FS) : FS := fun env S => whF t b wTurns env S
theorem d_for {fi : FI} {g : FG} {ch : List Nat} {body : List Stmt} (hW : Flat W) (hp : PassesOwn (model X.prog X.w) X.A X.env X.xe) (hc : X.calm = true) (hi : PI X tg a (tI X.K X.mw W fi)) (hg : PG X tg (tG X.K X.mw W ch g)) (hb : PSs X body (tS X.K X.mw W f))
    (hs : ∀ x, foldedSetIterable a X.env x = pure x) : PS X (.For tg a body [] pos) (tS X.K X.mw W (sFor fi g f)) := by
  refine PS.imp (ps_for hp hc hi hg hb hs) fun D' σ H h => ?_
  obtain ⟨env, S, o, ⟨rfl, re, rs⟩, p⟩ := h
  refine ⟨env, S, o, ⟨rfl, re, rs⟩, (Post.bind p).imp fun it S1 o1 l1 rs1 p1 J hJ => ?_⟩
  refine ⟨fun i m σ' H' => ∃ env' S' o', At X.K X.mw env' S' o' σ' H' ∧ Le X.K o1 o' ∧ Post X.K X.mw (wx X.K X.mw W σ) (FlP X.K X.mw D') o' (forF it g f m i env' S'),
    ⟨turns it S1 + 1, env, S1, o1, ⟨rfl, re.up l1, rs1⟩, .refl, p1⟩, ?_⟩
  rintro i m σ' H' ⟨env', S', o', ⟨rfl, re', rs'⟩, l', p'⟩
  cases m with
  | zero => exact False.elim p'
  | succ k =>
    unfold forF at p'
    obtain ⟨hJ1, hJ2⟩ := hJ o' S' i l' rs'
    split at p'
    · exact False.elim p'
    · rename_i e
      exact .inl ⟨hJ1 e, p'.here rs' σ' re'⟩
    · rename_i d e
      obtain ⟨hgo, hy⟩ := hJ2 d e
      refine .inr ⟨hgo, fun σ2 H2 => ∃ env2 S2 o2, At X.K X.mw env2 S2 o2 σ2 H2 ∧ Le X.K o1 o2 ∧ Post X.K X.mw (wx X.K X.mw W σ) (FlP X.K X.mw D') o2 (forF it g f k (i + 1) env2 S2), fun σ2 H2 h2 => ⟨k, Nat.lt_succ_self k, h2⟩, fun x H2 hyld => ?_⟩
      obtain ⟨o2, rfl, l2, rs2, r2⟩ := hy x H2 hyld
      have q2 : Post X.K X.mw (wx X.K X.mw W σ) (fun env1 S3 o3 => Post X.K X.mw (wx X.K X.mw W σ) (FlP X.K X.mw D') o3 ((f env1 S3).bind fun fl S2 => match fl with
        | .nx e => forF it g f k (i + 1) e S2
        | .ct e => forF it g f k (i + 1) e S2
        | .bk e => .ok (.nx e) S2
        | .rt d => .ok (.rt d) S2)) o2 (g d env' S') := by
        have z := Post.bind p'
        revert z
        cases g d env' S' with
        | ok env1 S3 => exact fun z o3 l3 rs3 => z o3 (l2.trans l3) rs3
        | exc x S3 => exact fun z o3 l3 rs3 => z o3 (l2.trans l3) rs3
        | stk => exact fun z => z
      refine ⟨d, env', S', o2, ⟨rfl, re'.up l2, rs2⟩, r2, (q2.wish fun x o' h => wx_flat hW h).imp fun env1 S3 o3 l3 rs3 p3 σ3 re3 _ => ?_⟩
      refine ⟨env1, S3, o3, ⟨rfl, re3, rs3⟩, ((Post.bind p3).wish fun x o' h => wx_flat hW h).imp fun fl S4 o4 l4 rs4 p4 => ?_⟩
      have ll : Le X.K o1 o4 := l'.trans (l2.trans (l3.trans l4))
      cases fl with
      | nx e4 => exact fun σ4 re4 => ⟨e4, S4, o4, ⟨rfl, re4, rs4⟩, ll, p4⟩
      | ct e4 => exact fun σ4 re4 => ⟨e4, S4, o4, ⟨rfl, re4, rs4⟩, ll, p4⟩
      | bk e4 => exact fun σ4 re4 => p4.here rs4 σ4 re4
      | rt d4 => exact fun v r => p4.here rs4 v r
theorem d_while {body : List Stmt} (hW : Flat W) (hp : PassesOwn (model X.prog X.w) X.A X.env X.xe) (hc : PT X c (tT X.K X.mw W ft)) (hb : PSs X body (tS X.K X.mw W f)) : PS X (.While c body [] pos) (tS X.K X.mw W (sWhile ft f)) := by
  refine PS.imp (ps_while hp hc hb) fun D' σ H h => ?_
  obtain ⟨env, S, o, ⟨rfl, re, rs⟩, p⟩ := h
  refine ⟨fun m σ' H' => ∃ env' S' o', At X.K X.mw env' S' o' σ' H' ∧ Post X.K X.mw (wx X.K X.mw W σ) (FlP X.K X.mw D') o' (whF ft f m env' S'), ⟨wTurns, env, S, o, ⟨rfl, re, rs⟩, p⟩, ?_⟩
  rintro m σ' H' ⟨env', S', o', ⟨rfl, re', rs'⟩, p'⟩
  cases m with
  | zero => exact False.elim p'
  | succ k =>
    unfold whF at p'
    refine ⟨env', S', o', ⟨rfl, re', rs'⟩, ((Post.bind p').wish fun x o' h => wx_flat hW h).imp fun b S1 o1 l1 rs1 p1 => ?_⟩
    cases b with
    | false => exact p1.here rs1 σ' (re'.up l1)
    | true =>
      refine ⟨fun σ2 H2 => ∃ env2 S2 o2, At X.K X.mw env2 S2 o2 σ2 H2 ∧ Post X.K X.mw (wx X.K X.mw W σ) (FlP X.K X.mw D') o2 (whF ft f k env2 S2), fun σ2 H2 h2 => ⟨k, Nat.lt_succ_self k, h2⟩, ?_⟩
      refine ⟨env', S1, o1, ⟨rfl, re'.up l1, rs1⟩, ((Post.bind p1).wish fun x o' h => wx_flat hW h).imp fun fl S2 o2 l2 rs2 p2 => ?_⟩
      cases fl with
      | nx e => exact fun σ4 re4 => ⟨e, S2, o2, ⟨rfl, re4, rs2⟩, p2⟩
      | ct e => exact fun σ4 re4 => ⟨e, S2, o2, ⟨rfl, re4, rs2⟩, p2⟩
      | bk e => exact fun σ4 re4 => p2.here rs2 σ4 re4
      | rt d => exact fun v r => p2.here rs2 v r

/-! ### list comprehensions -/
def wipeE (env : Env) : List Nat → Env
  | [] => env
  | v :: vs => (wipeE env vs).set v none
def lcF (it : IT) (g : FG) (t : FT) (e : FE) (env0 : Env) : Nat → Nat → List D → Sto → Out (List D)
  | 0, _, _, _ => .stk
  | k + 1, i, acc, S => match nxt it i S with
    | none => .stk
    | some none => .ok acc S
    | some (some d) => (g d env0 S).bind fun env1 S1 => (t env1 S1).bind fun b S2 => if b = true then (e env1 S2).bind fun y S3 => if acc.length < sizeLine then lcF it g t e env0 k (i + 1) (acc ++ [y]) S3 else .stk
      else lcF it g t e env0 k (i + 1) acc S2
/-- no exception leaves a comprehension -/
def nox {α : Type} : Out α → Out α
  | .exc _ _ => .stk
  | r => r
def tYes' : FT := fun _ S => .ok true S
def eLc (vs : List Nat) (fi : FI) (g : FG) (t : FT) (e : FE) : FE := fun env S => (fi env S).bind fun it S1 => (nox (lcF it g t e (wipeE env vs) (turns it S1 + 1) 0 [] S1)).bind fun ds S2 => .ok (.loc S2.length) (S2 ++ [.lst ds])
theorem wipe_re {K : PySem.W.Frag} {mw : MW} {o : Wd} {env : Env} {σ : L2.St} (r : RE K mw o env σ) : ∀ vs : List Nat, RE K mw o (wipeE env vs) (wipe σ vs)
  | [] => r
  | v :: vs => by
    have ih := wipe_re r vs
    refine ⟨by unfold wipeE wipe; rw [List.length_set, List.length_set, ih.len], fun j d hj => ?_⟩
    unfold wipeE at hj
    unfold wipe
    by_cases e : v = j
    · subst e
      by_cases hl : v < (wipeE env vs).length
      · rw [List.getElem?_set_self hl] at hj; cases hj
      · rw [List.getElem?_eq_none (by simpa using hl)] at hj; cases hj
    · rw [List.getElem?_set_ne e] at hj ⊢
      exact ih.val j d hj
theorem wipe_in {σ : L2.St} {j : Nat} : ∀ {vs : List Nat}, j ∈ vs → j < σ.length → (wipe σ vs)[j]? = some none
  | [], h, _ => nomatch h
  | v :: vs, h, hl => by
    unfold wipe
    by_cases e : v = j
    · subst e
      exact List.getElem?_set_self (by rw [wipe_length]; exact hl)
    · rw [List.getElem?_set_ne e]
      rcases List.mem_cons.mp h with h | h
      · exact absurd h.symm e
      · exact wipe_in h hl
theorem wipe_same {σ σ2 : L2.St} {ch vs : List Nat} (h : SameBut ch (wipe σ vs) σ2) (hc : ∀ j ∈ ch, j ∈ vs) : wipe σ2 vs = wipe σ vs := by
  have hlen : σ2.length = σ.length := by rw [h.1, wipe_length]
  apply List.ext_getElem?
  intro j
  by_cases hj : j ∈ vs
  · by_cases hl : j < σ.length
    · rw [wipe_in hj (by rw [hlen]; exact hl), wipe_in hj hl]
    · rw [List.getElem?_eq_none (by rw [wipe_length, hlen]; omega), List.getElem?_eq_none (by rw [wipe_length]; omega)]
  · rw [wipe_out hj, h.2 j fun z => hj (hc j z)]
/-- no exception is wanted -/
def W0 : WX := fun _ _ _ _ => False
theorem flat0 : Flat W0 := fun _ _ _ _ _ h => h
def LcP (K : PySem.W.Frag) (mw : MW) (Q : VK) (o1 : Wd) : Out (List D) → Prop
  | .ok ds S2 => ∀ o3, Le K o1 o3 → RS K mw o3 (S2 ++ [.lst ds]) → ∀ v, RD K mw o3 (.loc S2.length) v → Q v o3.H
  | _ => False
theorem LcP.bind {α : Type} {K : PySem.W.Frag} {mw : MW} {Q : VK} {o1 : Wd} {r : Out α} {k : α → Sto → Out (List D)} (h : LcP K mw Q o1 (r.bind k)) (Wx : Ex → Wd → Prop) (o : Wd) : Post K mw Wx (fun a S _ => LcP K mw Q o1 (k a S)) o r := by
  cases r with
  | ok a S => exact fun _ _ _ => h
  | exc x S => exact False.elim h
  | stk => exact False.elim h
/-- an object that is no place yet becomes the next one -/
theorem RS.adopt {K : PySem.W.Frag} {mw : MW} {o : Wd} {S : Sto} {p : Addr} {vs : List V} {ds : List D} (r : RS K mw o S) (hn : p ∉ o.rho) (h : o.H p = some (.lst vs)) (q : RDs K mw o ds vs) :
    RS K mw ⟨o.rho ++ [p], o.H⟩ (S ++ [.lst ds]) ∧ RD K mw ⟨o.rho ++ [p], o.H⟩ (.loc S.length) (.ref p) := by
  have l : LeV K o ⟨o.rho ++ [p], o.H⟩ := ⟨fun n a e => by
    show (o.rho ++ [p])[n]? = some a
    rw [List.getElem?_append_left (List.getElem?_eq_some_iff.mp e).1]; exact e, fun _ _ q => q, fun _ _ _ q => q⟩
  have hp : (o.rho ++ [p])[S.length]? = some p := by rw [← r.len]; simp
  refine ⟨⟨by simp [r.len], ?_, fun n y e => ?_⟩, .loc hp⟩
  · refine List.nodup_append.mpr ⟨r.nd, by simp, fun a ha b hb => ?_⟩
    have e : b = p := by simpa using hb
    subst e
    intro e2
    subst e2
    exact hn ha
  · by_cases hl : n < S.length
    · rw [List.getElem?_append_left hl] at e
      obtain ⟨a, ea, q2⟩ := r.obj n y e
      exact ⟨a, l.rho n a ea, q2.upV l rfl⟩
    · have hl2 : n < (S ++ [SO.lst ds]).length := (List.getElem?_eq_some_iff.mp e).1
      have en : n = S.length := by simp at hl2; omega
      subst en
      simp at e
      subst e
      exact ⟨p, hp, vs, h, q.upV l⟩
theorem lc_ok {it : IT} {J : It} {g : FG} {ch vs : List Nat} {t : FT} {e : FE} {σ : L2.St} {env : Env} {o1 : Wd} {Dn : Addr} {S1 : Sto} {Q : VK} {k : Nat} (hch : ∀ j ∈ ch, j ∈ vs)
    (hJ : RIt X.K X.mw o1 it J) (re : RE X.K X.mw o1 env σ) (rs1 : RS X.K X.mw o1 S1) (hD : o1.H Dn = none) (p : LcP X.K X.mw Q o1 (lcF it g t e (wipeE env vs) k 0 [] S1)) :
    ∃ W : Nat → Nat → Hp → Prop, (∃ m, W 0 m (upd o1.H Dn (.lst []))) ∧ ∀ i m H, W i m H →
      (J.stop i H ∧ Q (.ref Dn) H) ∨ (J.go i H ∧ ∃ Nx : Hp → Prop, (∀ H', Nx H' → ∃ m', m' < m ∧ W (i + 1) m' H') ∧ ∀ x H', J.yld i H x H' → tG X.K X.mw W0 ch g x (wipe σ vs) H' fun σ2 H2 => wipe σ2 vs = wipe σ vs ∧ tT X.K X.mw W0 t σ2 H2 fun b H3 =>
        if b = true then tE X.K X.mw W0 e σ2 H3 fun y H4 => ∃ acc, H4 Dn = some (.lst acc) ∧ acc.length < sizeLine ∧ Nx (upd H4 Dn (.lst (acc ++ [y]))) else Nx H3) := by
  have nt : ∀ xs ys : List V, (HO.lst xs) ≠ .tup ys := fun _ _ z => nomatch z
  have nf : ∀ (xs : List V) (ob : Obj) (y : HO), (HO.lst xs) ≠ .frz ob y := fun _ _ _ z => nomatch z
  refine ⟨fun i m H => ∃ S o acc vacc, o.H = H ∧ Le X.K o1 o ∧ RS X.K X.mw o S ∧ Dn ∉ o.rho ∧ o.H Dn = some (.lst vacc) ∧ RDs X.K X.mw o acc vacc ∧ LcP X.K X.mw Q o1 (lcF it g t e (wipeE env vs) m i acc S), ?_, ?_⟩
  · exact ⟨k, S1, ⟨o1.rho, upd o1.H Dn (.lst [])⟩, [], [], rfl, Le.new hD, rs1.new hD, rs1.fresh hD, upd_same, .nil, p⟩
  · rintro i m H ⟨S, o, acc, vacc, rfl, l, rs, hDn, hDH, racc, q⟩
    cases m with
    | zero => exact False.elim q
    | succ m =>
      unfold lcF at q
      obtain ⟨hJ1, hJ2⟩ := hJ o S i l rs
      split at q
      · exact False.elim q
      · rename_i en
        refine .inl ⟨hJ1 en, ?_⟩
        obtain ⟨a1, a2⟩ := rs.adopt hDn hDH racc
        refine q ⟨o.rho ++ [Dn], o.H⟩ ⟨l.toLeV.trans ⟨fun n a e => ?_, fun _ _ q => q, fun _ _ _ q => q⟩, fun b u hb eb => ?_⟩ a1 _ a2
        · show (o.rho ++ [Dn])[n]? = some a
          rw [List.getElem?_append_left (List.getElem?_eq_some_iff.mp e).1]; exact e
        · obtain ⟨e1, h1⟩ := l.rest b u hb eb
          refine ⟨e1, fun z => ?_⟩
          rcases List.mem_append.mp z with z | z
          · exact h1 z
          · exact ne_of_none eb hD (by simpa using z)
      · rename_i d en
        obtain ⟨hgo, hy⟩ := hJ2 d en
        refine .inr ⟨hgo, fun H' => ∃ S o acc vacc, o.H = H' ∧ Le X.K o1 o ∧ RS X.K X.mw o S ∧ Dn ∉ o.rho ∧ o.H Dn = some (.lst vacc) ∧ RDs X.K X.mw o acc vacc ∧ LcP X.K X.mw Q o1 (lcF it g t e (wipeE env vs) m (i + 1) acc S),
          fun H' h' => ⟨m, Nat.lt_succ_self m, h'⟩, fun x H' hyld => ?_⟩
        obtain ⟨o2, rfl, l2, rs2, r2⟩ := hy x H' hyld
        refine ⟨d, wipeE env vs, S, o2, ⟨rfl, (wipe_re ((re.up l).up l2) vs), rs2⟩, r2, (q.bind _ _).imp fun env1 S3 o3 l3 rs3 q3 σ3 re3 b3 => ⟨wipe_same b3 hch, ?_⟩⟩
        refine ⟨env1, S3, o3, ⟨rfl, re3, rs3⟩, (q3.bind _ _).imp fun b S4 o4 l4 rs4 q4 => ?_⟩
        cases b with
        | false =>
          have ll := l2.trans (l3.trans l4)
          obtain ⟨e5, h5⟩ := ll.rest Dn _ hDn hDH
          exact ⟨S4, o4, acc, vacc, rfl, l.trans ll, rs4, h5, e5, racc.up ll, q4⟩
        | true =>
          refine ⟨env1, S4, o4, ⟨rfl, re3.up l4, rs4⟩, (LcP.bind q4 _ _).imp fun y S5 o5 l5 rs5 q5 v rv => ?_⟩
          have ll := l2.trans (l3.trans (l4.trans l5))
          obtain ⟨e5, h5⟩ := ll.rest Dn _ hDn hDH
          split at q5
          · rename_i hz
            refine ⟨vacc, e5, by rw [← racc.length]; exact hz, S5, ⟨o5.rho, upd o5.H Dn (.lst (vacc ++ [v]))⟩, acc ++ [y], vacc ++ [v], rfl, (l.trans ll).other hD e5 (nt _) (nf _), rs5.other h5 e5 (nt _) (nf _), h5, upd_same, ?_, q5⟩
            have lv : LeV X.K o5 ⟨o5.rho, upd o5.H Dn (.lst (vacc ++ [v]))⟩ := LeV.write e5 (nt _) (nf _)
            exact ((racc.up ll).append (.cons rv .nil)).upV lv
          · exact False.elim q5
theorem lc_read {fi : FI} {g : FG} {ch vs : List Nat} {t : FT} {e : FE} {σ : L2.St} {H : Hp} {Q : VK} (hch : ∀ j ∈ ch, j ∈ vs) (h : tE X.K X.mw W (eLc vs fi g t e) σ H Q) : tLc (tI X.K X.mw W fi) (tG X.K X.mw W0 ch g) (tT X.K X.mw W0 t) (tE X.K X.mw W0 e) vs σ H Q := by
  obtain ⟨env, S, o, ⟨rfl, re, rs⟩, p⟩ := h
  refine ⟨env, S, o, ⟨rfl, re, rs⟩, (Post.bind p).imp fun it S1 o1 l1 rs1 p1 J hJ Dn hD => ?_⟩
  refine lc_ok (k := turns it S1 + 1) hch hJ (re.up l1) rs1 hD ?_
  revert p1
  cases lcF it g t e (wipeE env vs) (turns it S1 + 1) 0 [] S1 with
  | ok ds S2 => exact fun p1 => p1
  | exc x S2 => exact fun p1 => False.elim p1
  | stk => exact fun p1 => False.elim p1
end
end PV

set_option Elab.async false
set_option linter.all false
set_option maxRecDepth 100000
set_option maxHeartbeats 3999000
namespace PV
open L2 PyProof.Rows PySem PySem.Spec

/-! ### an order on keys -/
mutual
def TK.cmp : TK → TK → Ordering
  | .int i, .int j => if i < j then .lt else if j < i then .gt else .eq
  | .int _, .str _ => .lt
  | .int _, .tup _ => .lt
  | .str _, .int _ => .gt
  | .str _, .str _ => .eq
  | .str _, .tup _ => .lt
  | .tup _, .int _ => .gt
  | .tup _, .str _ => .gt
  | .tup a, .tup b => TK.cmps a b
def TK.cmps : List TK → List TK → Ordering
  | [], [] => .eq
  | [], _ :: _ => .lt
  | _ :: _, [] => .gt
  | a :: r, b :: s => match TK.cmp a b with
    | .eq => TK.cmps r s
    | o => o
end
mutual
def TK.cok : TK → TK → Bool
  | .int _, .int _ => true
  | .tup a, .tup b => TK.coks a b
  | _, _ => false
def TK.coks : List TK → List TK → Bool
  | a :: r, b :: s => (decide (a = b) || TK.cok a b) && TK.coks r s
  | _, _ => true
end
mutual
theorem cmp_refl : ∀ a : TK, TK.cmp a a = .eq
  | .int i => by simp [TK.cmp]
  | .str _ => by simp [TK.cmp]
  | .tup a => by simp [TK.cmp, cmps_refl a]
theorem cmps_refl : ∀ a : List TK, TK.cmps a a = .eq
  | [] => by simp [TK.cmps]
  | a :: r => by simp [TK.cmps, cmp_refl a, cmps_refl r]
end
mutual
theorem cmp_swap : ∀ a b : TK, TK.cmp b a = (TK.cmp a b).swap
  | .int i, .int j => by
    simp only [TK.cmp]
    split
    · rw [if_neg (by omega)]; rfl
    · split <;> rfl
  | .int _, .str _ => by simp [TK.cmp]
  | .int _, .tup _ => by simp [TK.cmp]
  | .str _, .int _ => by simp [TK.cmp]
  | .str _, .str _ => by simp [TK.cmp]
  | .str _, .tup _ => by simp [TK.cmp]
  | .tup _, .int _ => by simp [TK.cmp]
  | .tup _, .str _ => by simp [TK.cmp]
  | .tup a, .tup b => by simp [TK.cmp, cmps_swap a b]
theorem cmps_swap : ∀ a b : List TK, TK.cmps b a = (TK.cmps a b).swap
  | [], [] => by simp [TK.cmps]
  | [], _ :: _ => by simp [TK.cmps]
  | _ :: _, [] => by simp [TK.cmps]
  | a :: r, b :: s => by
    simp only [TK.cmps]
    rw [cmp_swap a b, cmps_swap r s]
    cases TK.cmp a b <;> rfl
end
mutual
theorem cmp_tr : ∀ a b c : TK, (TK.cmp a b = .eq → TK.cmp a c = TK.cmp b c) ∧ (TK.cmp b c = .eq → TK.cmp a c = TK.cmp a b) ∧ (TK.cmp a b = .lt → TK.cmp b c = .lt → TK.cmp a c = .lt)
  | .int i, .int j, .int k => by
    simp only [TK.cmp]
    refine ⟨?_, ?_, ?_⟩
    · intro h
      have : i = j := by
        split at h
        · cases h
        · split at h
          · cases h
          · omega
      rw [this]
    · intro h
      have : j = k := by
        split at h
        · cases h
        · split at h
          · cases h
          · omega
      rw [this]
    · intro h1 h2
      have a : i < j := by
        split at h1
        · assumption
        · split at h1 <;> cases h1
      have b : j < k := by
        split at h2
        · assumption
        · split at h2 <;> cases h2
      rw [if_pos (by omega)]
  | .tup a, .tup b, .tup c => by
    simp only [TK.cmp]
    exact cmps_tr a b c
  | .int _, .int _, .str _ => by simp [TK.cmp]
  | .int _, .int _, .tup _ => by simp [TK.cmp]
  | .int _, .str _, .int _ => by simp [TK.cmp]
  | .int _, .str _, .str _ => by simp [TK.cmp]
  | .int _, .str _, .tup _ => by simp [TK.cmp]
  | .int _, .tup _, .int _ => by simp [TK.cmp]
  | .int _, .tup _, .str _ => by simp [TK.cmp]
  | .int _, .tup _, .tup _ => by simp [TK.cmp]
  | .str _, .int _, .int _ => by simp [TK.cmp]
  | .str _, .int _, .str _ => by simp [TK.cmp]
  | .str _, .int _, .tup _ => by simp [TK.cmp]
  | .str _, .str _, .int _ => by simp [TK.cmp]
  | .str _, .str _, .str _ => by simp [TK.cmp]
  | .str _, .str _, .tup _ => by simp [TK.cmp]
  | .str _, .tup _, .int _ => by simp [TK.cmp]
  | .str _, .tup _, .str _ => by simp [TK.cmp]
  | .str _, .tup _, .tup _ => by simp [TK.cmp]
  | .tup _, .int _, .int _ => by simp [TK.cmp]
  | .tup _, .int _, .str _ => by simp [TK.cmp]
  | .tup _, .int _, .tup _ => by simp [TK.cmp]
  | .tup _, .str _, .int _ => by simp [TK.cmp]
  | .tup _, .str _, .str _ => by simp [TK.cmp]
  | .tup _, .str _, .tup _ => by simp [TK.cmp]
  | .tup _, .tup _, .int _ => by simp [TK.cmp]
  | .tup _, .tup _, .str _ => by simp [TK.cmp]
theorem cmps_tr : ∀ a b c : List TK, (TK.cmps a b = .eq → TK.cmps a c = TK.cmps b c) ∧ (TK.cmps b c = .eq → TK.cmps a c = TK.cmps a b) ∧ (TK.cmps a b = .lt → TK.cmps b c = .lt → TK.cmps a c = .lt)
  | [], [], [] => by simp [TK.cmps]
  | [], [], _ :: _ => by simp [TK.cmps]
  | [], _ :: _, [] => by simp [TK.cmps]
  | [], _ :: _, _ :: _ => by simp [TK.cmps]
  | _ :: _, [], [] => by simp [TK.cmps]
  | _ :: _, [], _ :: _ => by simp [TK.cmps]
  | _ :: _, _ :: _, [] => by simp [TK.cmps]
  | a :: r, b :: s, c :: t => by
    obtain ⟨h1, h2, h3⟩ := cmp_tr a b c
    obtain ⟨k1, k2, k3⟩ := cmps_tr r s t
    simp only [TK.cmps]
    cases e1 : TK.cmp a b <;> cases e2 : TK.cmp b c <;> simp only [e1, e2, reduceCtorEq, false_implies, true_implies, forall_const] at h1 h2 h3 ⊢ <;> simp_all
end
def TK.lt (a b : TK) : Bool := TK.cmp a b == .lt
theorem lt_iff {a b : TK} : TK.lt a b = true ↔ TK.cmp a b = .lt := by simp [TK.lt]
theorem lt_no {a b : TK} : TK.lt a b = false ↔ TK.cmp a b ≠ .lt := by simp [TK.lt]
theorem lt_swo : SrtO.Swo TK.lt := by
  refine ⟨fun x y h => ?_, fun x y z h1 h2 => ?_⟩
  · rw [lt_iff] at h
    rw [lt_no, cmp_swap x y, h]
    simp
  · rw [lt_no] at h1 h2 ⊢
    obtain ⟨t1, t2, t3⟩ := cmp_tr x y z
    have s1 := cmp_swap x y
    have s2 := cmp_swap y z
    have s3 := cmp_swap x z
    rw [s3]
    rw [s1] at h1
    rw [s2] at h2
    cases e1 : TK.cmp x y <;> cases e2 : TK.cmp y z <;> simp_all [Ordering.swap]
mutual
theorem cok_ne : ∀ {a b : TK}, TK.cok a b = true → a ≠ b → TK.cmp a b ≠ .eq
  | .int i, .int j, _, h => by
    simp only [TK.cmp]
    have : i ≠ j := fun e => h (by rw [e])
    split
    · simp
    · rw [if_pos (by omega)]
      simp
  | .tup a, .tup b, h, hn => by
    simp only [TK.cmp]
    exact coks_ne (by simpa [TK.cok] using h) fun e => hn (by rw [e])
  | .int _, .str _, h, _ => by simp [TK.cok] at h
  | .int _, .tup _, h, _ => by simp [TK.cok] at h
  | .str _, .int _, h, _ => by simp [TK.cok] at h
  | .str _, .str _, h, _ => by simp [TK.cok] at h
  | .str _, .tup _, h, _ => by simp [TK.cok] at h
  | .tup _, .int _, h, _ => by simp [TK.cok] at h
  | .tup _, .str _, h, _ => by simp [TK.cok] at h
theorem coks_ne : ∀ {a b : List TK}, TK.coks a b = true → a ≠ b → TK.cmps a b ≠ .eq
  | [], [], _, h => absurd rfl h
  | [], _ :: _, _, _ => by simp [TK.cmps]
  | _ :: _, [], _, _ => by simp [TK.cmps]
  | a :: r, b :: s, h, hn => by
    simp only [TK.coks, Bool.and_eq_true, Bool.or_eq_true, decide_eq_true_eq] at h
    simp only [TK.cmps]
    by_cases e : a = b
    · subst e
      rw [cmp_refl]
      exact coks_ne h.2 fun e => hn (by rw [e])
    · have := cok_ne (h.1.resolve_left e) e
      cases q : TK.cmp a b <;> simp_all
end

/-! ### sorting by insertion -/
def ins {α : Type} (lt : α → α → Bool) (x : α) : List α → List α
  | [] => [x]
  | y :: r => if lt y x = true then y :: ins lt x r else x :: y :: r
def isort {α : Type} (lt : α → α → Bool) : List α → List α
  | [] => []
  | x :: r => ins lt x (isort lt r)
section
variable {α β : Type} {lt lt' : α → α → Bool}
theorem ins_perm (x : α) : ∀ l : List α, (ins lt x l).Perm (x :: l)
  | [] => .refl _
  | y :: r => by
    unfold ins
    split
    · exact ((ins_perm x r).cons y).trans (.swap x y r)
    · exact .refl _
theorem isort_perm : ∀ l : List α, (isort lt l).Perm l
  | [] => .refl _
  | x :: r => (ins_perm x _).trans ((isort_perm r).cons x)
theorem ins_srtd (O : SrtO.Swo lt) (x : α) : ∀ {l : List α}, SrtO.Srtd lt l → SrtO.Srtd lt (ins lt x l)
  | [], _ => List.pairwise_singleton _ _
  | y :: r, h => by
    obtain ⟨h1, h2⟩ := List.pairwise_cons.mp h
    unfold ins
    split
    · rename_i e
      refine List.pairwise_cons.mpr ⟨fun z hz => ?_, ins_srtd O x h2⟩
      rcases List.mem_cons.mp ((ins_perm x r).mem_iff.mp hz) with q | q
      · rw [q]; exact O.asym _ _ e
      · exact h1 z q
    · rename_i e
      have e : lt y x = false := by simpa using e
      refine List.pairwise_cons.mpr ⟨fun z hz => ?_, h⟩
      rcases List.mem_cons.mp hz with q | q
      · rw [q]; exact e
      · exact O.tr x y z e (h1 z q)
theorem isort_srtd (O : SrtO.Swo lt) : ∀ l : List α, SrtO.Srtd lt (isort lt l)
  | [] => List.Pairwise.nil
  | x :: r => ins_srtd O x (isort_srtd O r)
theorem ins_cls (O : SrtO.Swo lt) (x z : α) : ∀ {l : List α}, SrtO.Srtd lt l → (ins lt x l).filter (SrtO.eqv lt z) = (x :: l).filter (SrtO.eqv lt z)
  | [], _ => rfl
  | y :: r, h => by
    obtain ⟨h1, h2⟩ := List.pairwise_cons.mp h
    unfold ins
    split
    · rename_i e
      rw [List.filter_cons, ins_cls O x z h2]
      by_cases hx : SrtO.eqv lt z x = true
      · have hy : ¬ SrtO.eqv lt z y = true := fun hy => by
          obtain ⟨a1, a2⟩ := SrtO.eqv_iff.mp hx
          obtain ⟨b1, b2⟩ := SrtO.eqv_iff.mp hy
          have := O.tr x z y a1 b2
          rw [e] at this
          cases this
          
        rw [if_neg hy, List.filter_cons_of_pos hx, List.filter_cons_of_pos hx, List.filter_cons_of_neg hy]
      · rw [List.filter_cons_of_neg hx, List.filter_cons_of_neg hx, ← List.filter_cons]
    · rfl
theorem isort_stb (O : SrtO.Swo lt) : ∀ l : List α, SrtO.Stb lt (isort lt l) l
  | [] => .refl _
  | x :: r => by
    have ih := isort_stb O r
    refine ⟨isort_perm _, fun z => ?_⟩
    show (ins lt x (isort lt r)).filter _ = _
    rw [ins_cls O x z (isort_srtd O r), List.filter_cons, List.filter_cons, ih.cls z]
theorem ins_congr {x : α} : ∀ {l : List α}, (∀ y ∈ l, lt y x = lt' y x) → ins lt x l = ins lt' x l
  | [], _ => rfl
  | y :: r, h => by
    unfold ins
    rw [h y List.mem_cons_self, ins_congr fun z hz => h z (List.mem_cons_of_mem _ hz)]
theorem isort_congr : ∀ {l : List α}, (∀ x ∈ l, ∀ y ∈ l, lt x y = lt' x y) → isort lt l = isort lt' l
  | [], _ => rfl
  | x :: r, h => by
    show ins lt x (isort lt r) = ins lt' x (isort lt' r)
    rw [← isort_congr (l := r) fun a ha b hb => h a (List.mem_cons_of_mem _ ha) b (List.mem_cons_of_mem _ hb)]
    refine ins_congr fun y hy => ?_
    exact h y (List.mem_cons_of_mem _ ((isort_perm r).mem_iff.mp hy)) x List.mem_cons_self
theorem ins_map {f : β → α} (x : β) : ∀ l : List β, (ins (fun a b => lt (f a) (f b)) x l).map f = ins lt (f x) (l.map f)
  | [] => rfl
  | y :: r => by
    simp only [ins, List.map_cons]
    split
    · rw [List.map_cons, ins_map x r]
    · rfl
theorem isort_map {f : β → α} : ∀ l : List β, (isort (fun a b => lt (f a) (f b)) l).map f = isort lt (l.map f)
  | [] => rfl
  | x :: r => by
    show (ins _ x _).map f = ins lt (f x) (isort lt (r.map f))
    rw [ins_map, isort_map r]
theorem swo_by {f : β → α} (O : SrtO.Swo lt) : SrtO.Swo fun a b => lt (f a) (f b) := ⟨fun x y => O.asym _ _, fun x y z => O.tr _ _ _⟩
end
/-- how a datum is sorted -/
def skey (d : D) : TK := (tkOf d).getD (.int 0)
def ltD (d e : D) : Bool := TK.lt (skey d) (skey e)
theorem ltD_swo : SrtO.Swo ltD := ⟨fun x y => lt_swo.asym _ _, fun x y z => lt_swo.tr _ _ _⟩
inductive Fk where
  | int | tup
/-- the kind of a key: an int (a tuple whose first is an int, or a tuple) -/
def isI : TK → Bool
  | .int _ => true
  | _ => false
def isTI : TK → Bool
  | .tup (.int _ :: _) => true
  | _ => false
def isTT : TK → Bool
  | .tup (.tup _ :: _) => true
  | _ => false
def kindOk (ks : List TK) : Bool := ks.all isI || ks.all isTI || ks.all isTT
def cokAll (ks : List TK) : Bool := ks.all fun a => ks.all fun b => a.deep ≤ 8 && (decide (a = b) || TK.cok a b)
def sortOk (ds : List D) : Bool := match mapO tkOf ds with
  | some ks => kindOk ks && cokAll ks
  | none => false
end PV

set_option Elab.async false
set_option linter.all false
set_option maxRecDepth 100000
set_option maxHeartbeats 3999000
namespace PV
open L2 PyProof.Rows PySem PySem.Spec
theorem deepAll_mem : ∀ {ks : List TK} {k : TK}, k ∈ ks → k.deep ≤ TK.deepAll ks
  | [], _, h => nomatch h
  | a :: r, k, h => by
    simp only [TK.deepAll]
    rcases List.mem_cons.mp h with e | e
    · rw [e]; omega
    · have := deepAll_mem e; omega
theorem TksIs.get {h : Heap} : ∀ {ks : List TK} {vs : List Value} {j : Nat} {v : Value}, TksIs h ks vs → vs[j]? = some v → ∃ k, ks[j]? = some k ∧ TkIs h k v
  | [], vs, j, v, x, e => by rw [x.nil] at e; simp at e
  | k :: ks, vs, j, v, x, e => by
    obtain ⟨v', r, rfl, h1, h2⟩ := x.cons
    cases j with
    | zero => simp at e; subst e; exact ⟨k, rfl, h1⟩
    | succ j => exact TksIs.get (j := j) h2 (by simpa using e)
theorem TksIs.length {h : Heap} : ∀ {ks : List TK} {vs : List Value}, TksIs h ks vs → ks.length = vs.length
  | [], vs, x => by rw [x.nil]; rfl
  | k :: ks, vs, x => by
    obtain ⟨v', r, rfl, h1, h2⟩ := x.cons
    rw [List.length_cons, List.length_cons, TksIs.length h2]
theorem coks_get : ∀ {a b : List TK} {j : Nat} {x y : TK}, TK.coks a b = true → a[j]? = some x → b[j]? = some y → x = y ∨ TK.cok x y = true
  | [], b, j, x, y, _, e, _ => by simp at e
  | _ :: _, [], j, x, y, _, _, e => by simp at e
  | a :: r, b :: s, 0, x, y, h, e1, e2 => by
    simp at e1 e2
    subst e1 e2
    simp only [TK.coks, Bool.and_eq_true, Bool.or_eq_true, decide_eq_true_eq] at h
    exact h.1
  | a :: r, b :: s, j + 1, x, y, h, e1, e2 => by
    simp only [TK.coks, Bool.and_eq_true] at h
    exact coks_get (j := j) h.2 (by simpa using e1) (by simpa using e2)
theorem lexAt_tk (e r : Nat → Bool) : ∀ (a b : List TK) (i : Nat), TK.coks a b = true → (∀ j x y, a[j]? = some x → b[j]? = some y → e (i + j) = decide (x = y) ∧ r (i + j) = TK.lt x y) →
    Ob.lexAt e r (decide (a.length < b.length)) i (min a.length b.length) = (TK.cmps a b == .lt)
  | [], [], i, _, _ => by simp [Ob.lexAt, TK.cmps]
  | [], y :: b, i, _, _ => by simp [Ob.lexAt, TK.cmps]
  | x :: a, [], i, _, _ => by simp [Ob.lexAt, TK.cmps]
  | x :: a, y :: b, i, h, hj => by
    obtain ⟨h1, h2⟩ := hj 0 x y rfl rfl
    rw [Nat.add_zero] at h1 h2
    have h' := h
    simp only [TK.coks, Bool.and_eq_true, Bool.or_eq_true, decide_eq_true_eq] at h'
    have ih := lexAt_tk e r a b (i + 1) h'.2 (fun j x y p q => by
      have := hj (j + 1) x y (by simpa using p) (by simpa using q)
      rw [show i + 1 + j = i + (j + 1) by omega]
      exact this)
    have e3 : decide ((x :: a).length < (y :: b).length) = decide (a.length < b.length) := by simp
    rw [e3, List.length_cons, List.length_cons, Nat.add_min_add_right, Ob.lexAt_succ, h1]
    simp only [TK.cmps]
    by_cases q : x = y
    · subst q
      rw [decide_eq_true rfl, if_pos rfl, ih, cmp_refl]
    · rw [decide_eq_false q, if_neg (by simp), h2]
      have := cok_ne (h'.1.resolve_left q) q
      unfold TK.lt
      cases z : TK.cmp x y <;> simp_all
theorem eq_tk {A : Around} {s : Shared} {k j : TK} {v u : Value} (hk : TkIs s.heap k v) (hj : TkIs s.heap j u) (hu : A.units + k.deep < cLine) : SeqAt.EqAt A s v u (decide (k = j)) := by
  obtain ⟨as, r⟩ := hk
  obtain ⟨bs, r'⟩ := hj
  have := pdK_depth k
  rw [← pdK_eqv]
  exact SeqAt.eqAt_plain _ _ A s _ _ _ _ r r' (pdK_plain _) (pdK_plain _) (by omega)
theorem rc_tk {s : Shared} : ∀ (n : Nat) (k j : TK) (A : Around) (v u : Value), k.deep ≤ n → TkIs s.heap k v → TkIs s.heap j u → TK.cok k j = true → A.units + n < cLine → Ob.RcOp .Lt A s v u (TK.lt k j) := by
  intro n
  induction n with
  | zero =>
    intro k j A v u hn hk hj hc hu
    cases k with
    | int i =>
      cases j with
      | int i' =>
        obtain ⟨as, r⟩ := hk
        obtain ⟨bs, r'⟩ := hj
        simp only [pdK] at r r'
        cases r
        cases r'
        have : TK.lt (.int i) (.int i') = decide (i < i') := by
          unfold TK.lt
          simp only [TK.cmp]
          split
          · simp_all
          · split <;> simp_all
        rw [this]
        exact Ob.RcOp.lt_int _ _ _ _
      | _ => simp [TK.cok] at hc
    | str _ => simp [TK.cok] at hc
    | tup ks => simp [TK.deep] at hn
  | succ n ih =>
    intro k j A v u hn hk hj hc hu
    cases k with
    | int i =>
      cases j with
      | int i' =>
        obtain ⟨as, r⟩ := hk
        obtain ⟨bs, r'⟩ := hj
        simp only [pdK] at r r'
        cases r
        cases r'
        have : TK.lt (.int i) (.int i') = decide (i < i') := by
          unfold TK.lt
          simp only [TK.cmp]
          split
          · simp_all
          · split <;> simp_all
        rw [this]
        exact Ob.RcOp.lt_int _ _ _ _
      | _ => simp [TK.cok] at hc
    | str _ => simp [TK.cok] at hc
    | tup ks =>
      cases j with
      | tup js =>
        obtain ⟨a, o, items, m, rfl, ho, hcl, hd, hi⟩ := hk.tup
        obtain ⟨a', o', items', m', rfl, ho', hcl', hd', hi'⟩ := hj.tup
        have hc : TK.coks ks js = true := by simpa [TK.cok] using hc
        have hn : TK.deepAll ks ≤ n := by simp [TK.deep] at hn; exact hn
        have l1 : items.size = ks.length := by rw [hi.length]; simp
        have l2 : items'.size = js.length := by rw [hi'.length]; simp
        have it : ∀ j' (z1 : j' < items.size) (z2 : j' < items'.size), ∃ x y, ks[j']? = some x ∧ js[j']? = some y ∧ TkIs s.heap x items[j'] ∧ TkIs s.heap y items'[j'] := fun j' z1 z2 => by
          obtain ⟨x, e1, q1⟩ := hi.get (j := j') (v := items[j']) (by simp [z1])
          obtain ⟨y, e2, q2⟩ := hi'.get (j := j') (v := items'[j']) (by simp [z2])
          exact ⟨x, y, e1, e2, q1, q2⟩
        have R := Ob.RcOp.tuples_lt (A := A) (s := s) (e := fun j => decide (ks.getD j (.int 0) = js.getD j (.int 0))) (r := fun j => TK.lt (ks.getD j (.int 0)) (js.getD j (.int 0))) ⟨o, ho, hcl, m, hd⟩ ⟨o', ho', hcl', m', hd'⟩ (by omega)
          (fun j' z1 z2 => by
            obtain ⟨x, y, e1, e2, q1, q2⟩ := it j' z1 z2
            rw [List.getD_eq_getElem?_getD, List.getD_eq_getElem?_getD, e1, e2]
            have := deepAll_mem (List.mem_of_getElem? e1)
            exact eq_tk q1 q2 (by show A.units + 1 + x.deep < cLine; omega))
          (fun j' z1 z2 he => by
            obtain ⟨x, y, e1, e2, q1, q2⟩ := it j' z1 z2
            rw [List.getD_eq_getElem?_getD, List.getD_eq_getElem?_getD, e1, e2] at he ⊢
            have := deepAll_mem (List.mem_of_getElem? e1)
            have hne : x ≠ y := of_decide_eq_false he
            exact ih x y A.in1 _ _ (by omega) q1 q2 ((coks_get hc e1 e2).resolve_left hne) (by show A.units + 1 + n < cLine; omega))
        rw [l1, l2] at R
        have e := lexAt_tk (fun j => decide (ks.getD j (.int 0) = js.getD j (.int 0))) (fun j => TK.lt (ks.getD j (.int 0)) (js.getD j (.int 0))) ks js 0 hc (fun j' x y e1 e2 => by
          rw [Nat.zero_add, List.getD_eq_getElem?_getD, List.getD_eq_getElem?_getD, e1, e2]
          exact ⟨rfl, rfl⟩)
        rw [e] at R
        have : TK.lt (.tup ks) (.tup js) = (TK.cmps ks js == .lt) := by simp [TK.lt, TK.cmp]
        rw [this]
        exact R
      | _ => simp [TK.cok] at hc
end PV

set_option Elab.async false
set_option linter.all false
set_option maxRecDepth 100000
set_option maxHeartbeats 3999000
namespace SrtO
open PySem PyProof.Rows Srt
/-- what stood at s stands at h, and not at a -/
def Off (s : Shared) (a : Addr) (h : Heap) : Prop := ∀ b o, s.heap.get? b = some o → b ≠ a ∧ h.get? b = some o
/-- sorted(l) of a list or a tuple -/
theorem pv_sorted_sq {prog : Program} {w : World} {A : Around} {E : Value → Shared → Prop} {s : Shared} {l : Addr} {T : String} {o : Obj} {vs : List Value} {n : Nat} {ltv : Value → Value → Bool} {Q : Value → Shared → Prop} (O : Swo ltv) (hT : T = "list" ∨ T = "tuple") (ho : s.heap.get? l = some o) (hc : o.cls = .type T) (hd : o.data = .seq vs.toArray n) (hz : vs.length ≤ sizeLine)
    (hS : 2 ≤ vs.length → ∀ (h₁ : Heap) (a : Addr), h₁.get? a = some (seqObj "list" vs.toArray 0) → Off s a h₁ → SortableO prog w A.in1.in1 { s with heap := h₁ } a vs ltv)
    (h : ∀ (h' : Heap) (d : Addr) (out : List Value), Srtd ltv out → Stb ltv out vs → Off s d h' → (∃ n, h'.get? d = some (seqObj "list" out.toArray n)) → Q (.ref d) { s with heap := h' }) :
    wpAny (model prog w) A (call (.builtin "sorted") [.ref l]) Q E s :=
  Calls.call_function_entry kind_sorted plain_sorted entry_sorted (args_sorted1 _) (by
    unfold Builtin.«sorted»
    exact wpAny_bind (m := checkCount "sorted" 1 1 _) (wpAny_pure (wpAny_bind (wpAny_collect_seq l hT ho hc hd (fun h1 k1 => by
      rw [List.toList_toArray]
      have at1 : (h1.push (seqObj "list" vs.toArray 0)).get? h1.objs.size = some (seqObj "list" vs.toArray 0) := Heap.get?_push_size _ rfl
      have off1 : Off s h1.objs.size (h1.push (seqObj "list" vs.toArray 0)) := fun b o q => ⟨Nat.ne_of_lt (Heap.lt_size (k1 b o q)), Heap.get?_push_of_some _ (k1 b o q)⟩
      exact wpAny_bind (wpAny_newList (wpAny_bind (wpAny_holding (wpAny_call_entry slot_list_sort ⟨_, at1, rfl⟩ entry_list_sort
        (list_sort_ord O at1 hz (fun g => hS g _ _ at1 off1) fun out hs hb => ⟨_, rfl, wpAny_pure ⟨_, rfl, h _ _ out hs hb (fun b ob q => ⟨(off1 b ob q).1, (sortedHeap_old (off1 b ob q).1 (Heap.lt_size (off1 b ob q).2)).trans (off1 b ob q).2⟩) (sortedHeap_at at1)⟩⟩) (args_list_sort _)))) hz)) (by rw [List.size_toArray]; exact hz)))))
end SrtO
namespace PV
open L2 PyProof.Rows PySem PySem.Spec
open SrtO (Srtd Stb Swo SortableO Cmp lt2)
theorem TkIs.int_of {h : Heap} {i : Int} {v : Value} (x : TkIs h (.int i) v) : ∃ t, v = .int i t := by
  obtain ⟨as, r⟩ := x
  simp only [pdK] at r
  cases r
  exact ⟨_, rfl⟩
theorem TkIs.kept {h h' : Heap} (k : ∀ b o, h.get? b = some o → o.cls = .type "tuple" → h'.get? b = some o) : ∀ (n : Nat) (t : TK) (v : Value), t.deep ≤ n → TkIs h t v → TkIs h' t v := by
  have all : ∀ (n : Nat), (∀ (t : TK) (v : Value), t.deep ≤ n → TkIs h t v → TkIs h' t v) → ∀ (ts : List TK) (vs : List Value), TK.deepAll ts ≤ n → TksIs h ts vs → TksIs h' ts vs := by
    intro n ih ts
    induction ts with
    | nil => intro vs _ x; rw [x.nil]; exact ⟨_, .nil⟩
    | cons t ts iht =>
      intro vs hd x
      obtain ⟨v, r, rfl, h1, h2⟩ := x.cons
      simp only [TK.deepAll] at hd
      obtain ⟨as, q1⟩ := ih t v (by omega) h1
      obtain ⟨bs, q2⟩ := iht r (by omega) h2
      exact ⟨_, .cons q1 q2⟩
  intro n
  induction n with
  | zero =>
    intro t v hd x
    cases t with
    | int i => obtain ⟨u, rfl⟩ := x.int_of; exact ⟨_, .int _ _⟩
    | str i =>
      obtain ⟨as, r⟩ := x
      simp only [pdK] at r
      cases r
      exact ⟨_, .str _ _⟩
    | tup ks => simp [TK.deep] at hd
  | succ n ih =>
    intro t v hd x
    cases t with
    | int i => obtain ⟨u, rfl⟩ := x.int_of; exact ⟨_, .int _ _⟩
    | str i =>
      obtain ⟨as, r⟩ := x
      simp only [pdK] at r
      cases r
      exact ⟨_, .str _ _⟩
    | tup ks =>
      obtain ⟨a, o, items, m, rfl, ho, hc, hdt, hi⟩ := x.tup
      obtain ⟨as, r⟩ := all n ih ks items.toList (by simp [TK.deep] at hd; exact hd) hi
      exact ⟨as, .tuple (k a o ho hc) hc hdt r⟩
section
variable {w : World} {prog : Program} {s : Shared} {A : Around}
theorem lex_tk {b fin : Bool} {Q : Bool → Shared → Prop} : ∀ (ks js : List TK) (vs us : List Value) (i n : Nat), TksIs s.heap ks vs → TksIs s.heap js us → TK.coks ks js = true → TK.deepAll ks ≤ n → A.units + n < cLine → fin = decide (ks.length < js.length) →
    ((b && i == 0) = true → ∃ x y r r', ks = .int x :: r ∧ js = .int y :: r') → Q (TK.cmps ks js == .lt) s → PySem.W.KatLex prog w A b fin Q (vs.zip us) i s
  | [], [], vs, us, i, n, h1, h2, _, _, _, hf, _, q => by
    rw [h1.nil, h2.nil]
    refine PySem.W.kat_nil ?_
    rw [hf]
    simpa [TK.cmps] using q
  | [], y :: js, vs, us, i, n, h1, h2, _, _, _, hf, _, q => by
    rw [h1.nil]
    refine PySem.W.kat_nil ?_
    rw [hf]
    simpa [TK.cmps] using q
  | x :: ks, [], vs, us, i, n, h1, h2, _, _, _, hf, _, q => by
    rw [h2.nil, List.zip_nil_right]
    refine PySem.W.kat_nil ?_
    rw [hf]
    simpa [TK.cmps] using q
  | x :: ks, y :: js, vs, us, i, n, h1, h2, hc, hd, hu, hf, hb, q => by
    obtain ⟨v, vr, rfl, a1, a2⟩ := h1.cons
    obtain ⟨u, ur, rfl, b1, b2⟩ := h2.cons
    have hc' := hc
    simp only [TK.coks, Bool.and_eq_true, Bool.or_eq_true, decide_eq_true_eq] at hc'
    have hd' : max x.deep (TK.deepAll ks) ≤ n := by simpa [TK.deepAll] using hd
    rw [List.zip_cons_cons]
    refine PySem.W.kat_cons (eq_tk a1 b1 (by omega) prog w _ _ ?_)
    refine PySem.W.kat_go (fun e => ?_) fun e => ?_
    · have e : x = y := of_decide_eq_true e
      subst e
      refine PySem.W.kat_yes (lex_tk ks js vr ur (i + 1) n a2 b2 hc'.2 (by omega) hu (by rw [hf]; simp) (fun z => by simp at z) ?_)
      simpa [TK.cmps, cmp_refl] using q
    · have e : x ≠ y := of_decide_eq_false e
      have hk := hc'.1.resolve_left e
      have q' : Q (TK.lt x y) s := by
        have : (TK.cmps (x :: ks) (y :: js) == .lt) = TK.lt x y := by
          have hne := cok_ne hk e
          unfold TK.lt
          show ((match TK.cmp x y with | .eq => TK.cmps ks js | o => o) == .lt) = (TK.cmp x y == .lt)
          generalize TK.cmp x y = z at hne ⊢
          cases z with
          | eq => exact absurd rfl hne
          | _ => rfl
        rw [← this]
        exact q
      refine PySem.W.kat_no ?_
      cases hfl : (b && i == 0) with
      | true =>
        obtain ⟨p, p', r, r', e1, e2⟩ := hb hfl
        cases e1
        cases e2
        obtain ⟨t, rfl⟩ := a1.int_of
        obtain ⟨t', rfl⟩ := b1.int_of
        refine oneLt_int ?_
        have : TK.lt (.int p) (.int p') = decide (p < p') := by
          unfold TK.lt
          simp only [TK.cmp]
          split
          · simp_all
          · split <;> simp_all
        rw [← this]
        exact q'
      | false => exact PySem.W.kat_one _ _ (rc_tk n x y A v u (by omega) a1 b1 hk hu prog w _ _ q')
theorem coks_refl : ∀ ks : List TK, TK.coks ks ks = true
  | [] => rfl
  | k :: r => by simp [TK.coks, coks_refl r]
theorem cmp_tup {b : Bool} {vs : List Value} {kf : Value → TK} (hk : ∀ v ∈ vs, TkIs s.heap (kf v) v ∧ (kf v).deep ≤ 8 ∧ (if b then isTI (kf v) = true else ∃ ks, kf v = .tup ks)) (hc : ∀ v ∈ vs, ∀ u ∈ vs, kf v = kf u ∨ TK.cok (kf v) (kf u) = true) (hu : A.units + 8 < cLine) :
    Cmp prog w A s (tuples' b) (fun p => p.1 ∈ vs) (lt2 fun v u => TK.lt (kf v) (kf u)) := by
  intro p q hm hm'
  obtain ⟨a1, a2, a3⟩ := hk _ hm
  obtain ⟨b1, b2, b3⟩ := hk _ hm'
  have hcc := hc _ hm _ hm'
  show wpAny (model prog w) A (keyLt' (tuples' b) p.1 q.1) (fun r s' => s' = s ∧ r = TK.lt (kf p.1) (kf q.1)) (fun _ _ => False) s
  generalize kf p.1 = k1 at *
  generalize kf q.1 = k2 at *
  generalize p.1 = v at *
  generalize q.1 = u at *
  have t1 : ∃ ks, k1 = .tup ks := by
    cases b with
    | true =>
      simp only [if_true] at a3
      cases k1 <;> simp [isTI] at a3 ⊢
    | false => simpa using a3
  have t2 : ∃ ks, k2 = .tup ks := by
    cases b with
    | true =>
      simp only [if_true] at b3
      cases k2 <;> simp [isTI] at b3 ⊢
    | false => simpa using b3
  obtain ⟨ks, rfl⟩ := t1
  obtain ⟨js, rfl⟩ := t2
  obtain ⟨x, o, items, m, rfl, ho, hcl, hd, hi⟩ := a1.tup
  obtain ⟨y, o', items', m', rfl, ho', hcl', hd', hi'⟩ := b1.tup
  have l1 : items.size = ks.length := by rw [hi.length]; simp
  have l2 : items'.size = js.length := by rw [hi'.length]; simp
  have hco : TK.coks ks js = true := by
    rcases hcc with e | e
    · cases e; exact coks_refl _
    · simpa [TK.cok] using e
  refine PySem.W.kat_lt ho hd ho' hd' (lex_tk ks js _ _ 0 8 hi hi' hco (by simp [TK.deep] at a2; omega) hu (by rw [l1, l2]) (fun hb => ?_) ⟨rfl, by simp [TK.lt, TK.cmp]⟩)
  have hb : b = true := by simpa using hb
  subst hb
  simp only [if_true] at a3 b3
  cases ks with
  | nil => simp [isTI] at a3
  | cons k ks =>
    cases js with
    | nil => simp [isTI] at b3
    | cons j js =>
      cases k <;> simp [isTI] at a3
      cases j <;> simp [isTI] at b3
      exact ⟨_, _, _, _, rfl, rfl⟩
end
end PV

set_option Elab.async false
set_option linter.all false
set_option maxRecDepth 100000
set_option maxHeartbeats 3999000
namespace PV
open L2 PyProof.Rows PySem PySem.Spec
open SrtO (Srtd Stb Swo SortableO Cmp lt2)
section
variable {w : World} {prog : Program} {s : Shared} {A : Around}
/-- the first item of a key that is a tuple -/
theorem first_of {h : Heap} {k : TK} {r : List TK} {v : Value} (q : TkIs h (.tup (k :: r)) v) : ∃ a o items m f, v = .ref a ∧ h.get? a = some o ∧ o.cls = .type "tuple" ∧ o.data = .seq items m ∧ items[0]? = some f ∧ TkIs h k f := by
  obtain ⟨a, o, items, m, ev, ho, hc, hd, hi⟩ := q.tup
  obtain ⟨f, r, e, q1, _⟩ := hi.cons
  exact ⟨a, o, items, m, f, ev, ho, hc, hd, by rw [← Array.getElem?_toList, e]; rfl, q1⟩
theorem tups_of {h : Heap} {kf : Value → TK} {vs : List Value} (hp : ∀ v ∈ vs, TkIs h (kf v) v ∧ ∃ k r, kf v = .tup (k :: r)) : ∃ fs : List Value, PySem.W.KatTups h vs fs ∧ fs.length = vs.length ∧ ∀ f ∈ fs, ∃ v ∈ vs, ∃ k r, kf v = .tup (k :: r) ∧ TkIs h k f := by
  induction vs with
  | nil => exact ⟨_, .nil, rfl, fun _ z => nomatch z⟩
  | cons v vs ih =>
    have ⟨fs, g, n, all⟩ := ih fun u hu => hp u (.tail _ hu)
    have ⟨q, k, r, e⟩ := hp v (.head _)
    have ⟨a, o, items, m, f, ev, ho, hc, hd, h0, q1⟩ := first_of (e ▸ q)
    subst ev
    exact ⟨f :: fs, .cons ho hc hd h0 g, congrArg Nat.succ n, List.forall_mem_cons.mpr ⟨⟨_, .head _, k, r, e, q1⟩, fun u hu => (all u hu).imp fun _ z => ⟨.tail _ z.1, z.2⟩⟩⟩
theorem data_sortable {a : Addr} {vs : List Value} {kf : Value → TK} (h2 : 2 ≤ vs.length) (hk : ∀ v ∈ vs, TkIs s.heap (kf v) v ∧ (kf v).deep ≤ 8) (hkd : (∀ v ∈ vs, isI (kf v) = true) ∨ (∀ v ∈ vs, isTI (kf v) = true) ∨ ∀ v ∈ vs, isTT (kf v) = true)
    (hc : ∀ v ∈ vs, ∀ u ∈ vs, kf v = kf u ∨ TK.cok (kf v) (kf u) = true) (hu : A.units + 8 < cLine) (ha : ∀ o, s.heap.get? a = some o → o.cls ≠ .type "tuple") : SortableO prog w A s a vs fun v u => TK.lt (kf v) (kf u) := by
  intro h' keep
  have hk' : ∀ v ∈ vs, TkIs h' (kf v) v ∧ (kf v).deep ≤ 8 := fun v hv => by
    obtain ⟨q1, q2⟩ := hk v hv
    exact ⟨TkIs.kept (fun b o e c => keep b o (fun z => by subst z; exact ha o e c) e) 8 _ _ q2 q1, q2⟩
  rcases hkd with h | h | h
  · have hi : ∀ v ∈ vs, ∃ i t, kf v = .int i ∧ v = .int i t := fun v hv => by
      have q := (hk' v hv).1
      have := h v hv
      cases e : kf v with
      | int i =>
        rw [e] at q
        obtain ⟨t, rfl⟩ := q.int_of
        exact ⟨i, t, rfl, rfl⟩
      | str _ => rw [e] at this; cases this
      | tup _ => rw [e] at this; cases this
    refine ⟨oneType', fun Q E hq => ?_, fun p q hm hm' => ?_⟩
    · refine PySem.W.kas_kind (T := .type "int") h2 (fun v hv => ?_) (by decide +kernel) (by rfl) hq
      obtain ⟨i, t, _, rfl⟩ := hi v hv
      exact PySem.W.Looks.now
    · obtain ⟨i, t, e1, e2⟩ := hi _ hm
      obtain ⟨j, t', e3, e4⟩ := hi _ hm'
      show wpAny (model prog w) A (keyLt' oneType' p.1 q.1) (fun r s' => s' = { s with heap := h' } ∧ r = TK.lt (kf p.1) (kf q.1)) (fun _ _ => False) { s with heap := h' }
      rw [e1, e3, e2, e4]
      refine PySem.W.kat_lt_int ⟨rfl, ?_⟩
      unfold TK.lt
      simp only [TK.cmp]
      split
      · simp_all
      · split <;> simp_all
  · have ht : ∀ v ∈ vs, TkIs h' (kf v) v ∧ ∃ k r, kf v = .tup (k :: r) := fun v hv => by
      refine ⟨(hk' v hv).1, ?_⟩
      have := h v hv
      cases e : kf v with
      | tup ks =>
        rw [e] at this
        cases ks with
        | nil => cases this
        | cons k r => exact ⟨k, r, rfl⟩
      | _ => rw [e] at this; cases this
    obtain ⟨fs, h1, h3, h4⟩ := tups_of ht
    refine ⟨tuples' true, fun Q E hq => ?_, cmp_tup (s := { s with heap := h' }) (fun v hv => ⟨(hk' v hv).1, (hk' v hv).2, by simpa using h v hv⟩) hc hu⟩
    refine PySem.W.kat_kind (s := { s with heap := h' }) (T := .type "int") h1 (by omega) (fun f hm => ?_) (by rfl) ?_
    · obtain ⟨v, hv, k, r, e, q⟩ := h4 f hm
      have := h v hv
      rw [e] at this
      cases k with
      | int i => obtain ⟨t, rfl⟩ := q.int_of; exact PySem.W.Looks.now
      | _ => cases this
    · rw [show (Value.type "int" != Value.type "tuple") = true by decide +kernel]; exact hq
  · have ht : ∀ v ∈ vs, TkIs h' (kf v) v ∧ ∃ k r, kf v = .tup (k :: r) := fun v hv => by
      refine ⟨(hk' v hv).1, ?_⟩
      have := h v hv
      cases e : kf v with
      | tup ks =>
        rw [e] at this
        cases ks with
        | nil => cases this
        | cons k r => exact ⟨k, r, rfl⟩
      | _ => rw [e] at this; cases this
    obtain ⟨fs, h1, h3, h4⟩ := tups_of ht
    refine ⟨tuples' false, fun Q E hq => ?_, cmp_tup (s := { s with heap := h' }) (fun v hv => ⟨(hk' v hv).1, (hk' v hv).2, by
      obtain ⟨k, r, e⟩ := (ht v hv).2
      exact ⟨_, e⟩⟩) hc hu⟩
    refine PySem.W.kat_kind (s := { s with heap := h' }) (T := .type "tuple") h1 (by omega) (fun f hm => ?_) (by rfl) ?_
    · obtain ⟨v, hv, k, r, e, q⟩ := h4 f hm
      have := h v hv
      rw [e] at this
      cases k with
      | tup ks =>
        obtain ⟨a', o, items, m, rfl, ho, hcl, hd, hi⟩ := q.tup
        have z : PySem.W.Looks (model prog w) h' (typeOf (.ref a')) o.cls := (PySem.W.Looks.ld ho).andThen .now
        rw [hcl] at z
        exact z
      | _ => cases this
    · rw [show (Value.type "tuple" != Value.type "tuple") = false by decide +kernel]; exact hq
end
/-! ### sorted(xs) -/
def sortedD (ds : List D) (S : Sto) : PR := match ds with
  | [d] => (match seqOf S d with
    | some xs => if sortOk xs = true then some (.loc S.length, S ++ [.lst (isort ltD xs)]) else none
    | none => none)
  | _ => none
theorem mapO_mem {α β : Type} {f : α → Option β} : ∀ {l : List α} {m : List β}, mapO f l = some m → ∀ a ∈ l, ∃ b ∈ m, f a = some b
  | [], _, _, a, h => nomatch h
  | x :: r, m, e, a, h => by
    obtain ⟨b, bs, e1, e2, rfl⟩ := mapO_cons e
    cases h with
    | head => exact ⟨b, .head _, e1⟩
    | tail _ z => exact (mapO_mem e2 a z).imp fun _ q => ⟨.tail _ q.1, q.2⟩
/-- an item, what it is, its value -/
inductive Trip (R : D → V → Value → Prop) : List D → List V → List Value → List (D × V × Value) → Prop
  | nil : Trip R [] [] [] []
  | cons {d : D} {v : V} {u : Value} {ds : List D} {vs : List V} {us : List Value} {l : List (D × V × Value)} : R d v u → Trip R ds vs us l → Trip R (d :: ds) (v :: vs) (u :: us) ((d, v, u) :: l)
theorem trip_of {K : PySem.W.Frag} {mw : MW} {o : Wd} : ∀ {ds : List D} {vs : List V} {us : List Value}, RDs K mw o ds vs → Vals vs us → ∃ l, Trip (fun d v u => RD K mw o d v ∧ RelV v u) ds vs us l
  | _, _, _, .nil, .nil => ⟨[], .nil⟩
  | _, _, _, .cons r t, .cons q s => by
    obtain ⟨l, h⟩ := trip_of t s
    exact ⟨_, .cons ⟨r, q⟩ h⟩
section
variable {R : D → V → Value → Prop}
theorem Trip.all : ∀ {ds : List D} {vs : List V} {us : List Value} {l : List (D × V × Value)}, Trip R ds vs us l → (l.map (·.1) = ds ∧ l.map (fun x => x.2.1) = vs ∧ l.map (fun x => x.2.2) = us ∧ ∀ x ∈ l, R x.1 x.2.1 x.2.2)
  | _, _, _, _, .nil => ⟨rfl, rfl, rfl, fun _ h => nomatch h⟩
  | _, _, _, _, .cons r t => by
    obtain ⟨h1, h2, h3, h4⟩ := t.all
    exact ⟨by simp [h1], by simp [h2], by simp [h3], List.forall_mem_cons.mpr ⟨r, h4⟩⟩
end
theorem rds_of {K : PySem.W.Frag} {mw : MW} {o : Wd} : ∀ {l : List (D × V × Value)}, (∀ x ∈ l, RD K mw o x.1 x.2.1 ∧ RelV x.2.1 x.2.2) → RDs K mw o (l.map (·.1)) (l.map fun x => x.2.1) ∧ Vals (l.map fun x => x.2.1) (l.map fun x => x.2.2)
  | [], _ => ⟨.nil, .nil⟩
  | x :: r, h => by
    obtain ⟨h1, h2⟩ := rds_of (l := r) fun y hy => h y (List.mem_cons_of_mem _ hy)
    obtain ⟨q1, q2⟩ := h x List.mem_cons_self
    exact ⟨.cons q1 h1, .cons q2 h2⟩
theorem tkOf_is {X : Cx} {pins : List (Addr × Obj)} {σ : L2.St} {s : Shared} {o : Wd} {d : D} {v : V} {u : Value} {k : TK} (I : Inv X pins σ o.H s) (r : RD X.K X.mw o d v) (ru : RelV v u) (h : tkOf d = some k) : TkIs s.heap k u := by
  have := tkOf_keyD h
  subst this
  exact Dp.reads I _ _ _ (key_reads r) ru
section
variable {X : Cx}
theorem cd_sorted (hu : X.A.units + 64 < cLine) : CallD X (.builtin "sorted") sortedD := by
  intro pins s σ H xs us Q I rx hh
  obtain ⟨o, ds, S, d, S', rfl, r, rs, e, q⟩ := hh
  unfold sortedD at e
  split at e
  · obtain ⟨v, rfl, r1⟩ := r.one
    split at e
    · rename_i xs hs
      split at e
      · rename_i hok
        cases e
        obtain ⟨a, vs, rfl, p, hsq⟩ := r1.seq rs hs
        obtain ⟨u, rfl, rfl⟩ : ∃ u, us = [u] ∧ u = Value.ref a := vals1 rx
        -- the object
        obtain ⟨T, its, ob, n, hT, ho, hc, hd, rv, hz⟩ : ∃ (T : String) (its : List Value) (ob : Obj) (n : Nat), (T = "list" ∨ T = "tuple") ∧ s.heap.get? a = some ob ∧ ob.cls = .type T ∧ ob.data = .seq its.toArray n ∧ Vals vs its ∧ vs.length ≤ sizeLine := by
          rcases hsq with h | h
          · obtain ⟨its, rv, pl, hz⟩ := I.list h
            obtain ⟨ob, ho, hc, n, hd⟩ := pl.isList
            exact ⟨"list", its, ob, n, .inl rfl, ho, hc, hd, rv, hz⟩
          · obtain ⟨its, rv, ⟨ob, ho, hc, n, hd⟩, hz⟩ := I.tuple h
            exact ⟨"tuple", its, ob, n, .inr rfl, ho, hc, hd, rv, hz⟩
        unfold sortOk at hok
        split at hok
        · rename_i ks hks
          rw [Bool.and_eq_true] at hok
          obtain ⟨hkind, hcok⟩ := hok
          obtain ⟨l, tl⟩ := trip_of p rv
          obtain ⟨l1, l2, l3, l4⟩ := tl.all
          -- the key of a value
          have hkey : ∀ x ∈ l, ∃ k ∈ ks, tkOf x.1 = some k ∧ TkIs s.heap k x.2.2 ∧ skey x.1 = k := fun x hx => by
            have hm : x.1 ∈ xs := by rw [← l1]; exact List.mem_map.mpr ⟨x, hx, rfl⟩
            obtain ⟨k, hk, e⟩ := mapO_mem hks _ hm
            exact ⟨k, hk, e, tkOf_is I (l4 x hx).1 (l4 x hx).2 e, by unfold skey; rw [e]; rfl⟩
          let kf : Value → TK := fun u => match Classical.propDecidable (∃ k, TkIs s.heap k u) with
            | .isTrue h => Classical.choose h
            | .isFalse _ => .int 0
          have kf_eq : ∀ u k, TkIs s.heap k u → kf u = k := fun u k h => by
            show (match Classical.propDecidable (∃ k, TkIs s.heap k u) with
              | .isTrue h => Classical.choose h
              | .isFalse _ => .int 0) = k
            split
            · rename_i h' _
              obtain ⟨as, q1⟩ := Classical.choose_spec h'
              obtain ⟨bs, q2⟩ := h
              exact pdK_inj (SeqAt.plain_unique _ _ _ _ _ (pdK_plain _) q1 q2)
            · rename_i h' _
              exact absurd ⟨k, h⟩ h'
          have kfl : ∀ x ∈ l, kf x.2.2 = skey x.1 := fun x hx => by
            obtain ⟨k, _, _, h1, h2⟩ := hkey x hx
            rw [h2]
            exact kf_eq _ _ h1
          have hval : ∀ u ∈ its, ∃ x ∈ l, x.2.2 = u := fun u hm => by
            rw [← l3] at hm
            obtain ⟨x, hx, e⟩ := List.mem_map.mp hm
            exact ⟨x, hx, e⟩
          have hO : Swo fun v u => TK.lt (kf v) (kf u) := swo_by lt_swo
          have hcok' : ∀ a ∈ ks, ∀ b ∈ ks, a.deep ≤ 8 ∧ (a = b ∨ TK.cok a b = true) := fun a ha b hb => by
            have := List.all_eq_true.mp (List.all_eq_true.mp hcok a ha) b hb
            simpa using this
          refine SrtO.pv_sorted_sq hO hT ho hc hd (by rw [← rv.length]; exact hz) (fun h2 h₁ a' ha' kk => ?_) fun h' dd out hs' hb kp hn => ?_
          · refine data_sortable (s := { s with heap := h₁ }) h2 (fun v hv => ?_) ?_ (fun v hv u hu => ?_) (by show X.A.units + 1 + 1 + 8 < cLine; omega) fun o' e' => ?_
            · obtain ⟨x, hx, rfl⟩ := hval v hv
              obtain ⟨k, hk, _, h1, h3⟩ := hkey x hx
              rw [kf_eq _ _ h1]
              have hdp := (hcok' k hk k hk).1
              exact ⟨TkIs.kept (fun b o e _ => (kk b o e).2) 8 _ _ hdp h1, hdp⟩
            · have tr : ∀ (g : TK → Bool), ks.all g = true → ∀ v ∈ its, g (kf v) = true := fun g hg v hv => by
                obtain ⟨x, hx, rfl⟩ := hval v hv
                obtain ⟨k, hk, _, h1, h3⟩ := hkey x hx
                rw [kf_eq _ _ h1]
                exact List.all_eq_true.mp hg k hk
              unfold kindOk at hkind
              rw [Bool.or_eq_true, Bool.or_eq_true] at hkind
              rcases hkind with (z | z) | z
              · exact .inl (tr _ z)
              · exact .inr (.inl (tr _ z))
              · exact .inr (.inr (tr _ z))
            · obtain ⟨x, hx, rfl⟩ := hval v hv
              obtain ⟨y, hy, rfl⟩ := hval u hu
              obtain ⟨k, hk, _, h1, h3⟩ := hkey x hx
              obtain ⟨k', hk', _, h1', h3'⟩ := hkey y hy
              rw [kf_eq _ _ h1, kf_eq _ _ h1']
              exact (hcok' k hk k' hk').2
            · have e'' : some o' = some (seqObj "list" its.toArray 0) := e'.symm.trans ha'
              cases e''
              exact fun c => nomatch (show "list" = "tuple" from Value.type.inj c)
          · -- the sorted list is the one
            have hL : Swo fun (x y : D × V × Value) => TK.lt (kf x.2.2) (kf y.2.2) := swo_by lt_swo
            let l' := isort (fun (x y : D × V × Value) => TK.lt (kf x.2.2) (kf y.2.2)) l
            have m1 : Srtd (fun v u => TK.lt (kf v) (kf u)) (l'.map fun x => x.2.2) := SrtO.srtd_map (isort_srtd hL l)
            have m2 : Stb (fun v u => TK.lt (kf v) (kf u)) (l'.map fun x => x.2.2) its := by
              rw [← l3]
              exact SrtO.Stb.map hO (fun x : D × V × Value => x.2.2) (isort_stb hL l)
            have eo : out = l'.map fun x => x.2.2 := SrtO.stb_uniq hO hs' m1 ⟨hb.perm.trans m2.perm.symm, fun x => (hb.cls x).trans (m2.cls x).symm⟩
            have hl' : ∀ x ∈ l', RD X.K X.mw o x.1 x.2.1 ∧ RelV x.2.1 x.2.2 := fun x hx => l4 x ((isort_perm l).mem_iff.mp hx)
            obtain ⟨d1, d2⟩ := rds_of hl'
            have ed : l'.map (·.1) = isort ltD xs := by
              have : l' = isort (fun x y => ltD x.1 y.1) l := isort_congr fun x hx y hy => by
                show TK.lt (kf x.2.2) (kf y.2.2) = TK.lt (skey x.1) (skey y.1)
                rw [kfl x hx, kfl y hy]
              rw [this, isort_map, l1]
            rw [ed] at d1
            rw [← eo] at d2
            obtain ⟨n', hn'⟩ := hn
            have hnone : s.heap.get? dd = none := by
              cases z : s.heap.get? dd with
              | none => rfl
              | some o' => exact absurd rfl (kp dd o' z).1
            have hHn : o.H dd = none := I.hok.gone hnone
            have I2 : Inv X pins σ (upd o.H dd (.lst (l'.map fun x => x.2.1))) { s with heap := h', toks := s.toks } := I.laidN (fun b u e => (kp b u e).2) hnone hHn ⟨by
              rw [d2.length, hb.perm.length_eq, ← rv.length]; exact hz, out, n', d2, hn'⟩
            obtain ⟨a1, a2, a3⟩ := rs.newLst hHn d1
            exact ⟨.ref dd, _, I2, rfl, q _ _ a1 a2 a3⟩
        · cases hok
      · cases e
    · cases e
  · cases e
end
end PV

set_option Elab.async false
set_option linter.all false
set_option maxRecDepth 100000
set_option maxHeartbeats 3999000
namespace PV
open L2 PyProof.Rows PySem PySem.Spec

/-- room for k calls -/
abbrev Rm (k : Nat) (A : Around) : Prop := Room k A
/-- a def keeps its promise wherever there is room -/
abbrev FnG (P : Program) (w : World) (K : PySem.W.Frag) (mg : Str → Option Value) (base : Heap) (k : Nat) (f : Addr) (fd : FuncData) (ps : List Str) (sp : Sp) : Prop :=
  FnOk P w K mg base (CX P w) k f fd ps sp

/-! ### how arguments come to parameters -/
inductive Src where
  | pos (i : Nat) | kw (i : Nat) | df (i : Nat)
def pick {α : Type} (us ws ds : List α) : Src → Option α
  | .pos i => us[i]?
  | .kw i => ws[i]?
  | .df i => ds[i]?
def arr {α : Type} (us ws ds : List α) : List Src → List α
  | [] => []
  | c :: r => match pick us ws ds c with
    | some x => x :: arr us ws ds r
    | none => arr us ws ds r
structure Shape where
  n : Nat
  ks : List Str
  src : List Src
theorem pick_vals {vs zs dvs : List V} {us ws its : List Value} (a : Vals vs us) (b : Vals zs ws) (c : Vals dvs its) (x : Src) : (∃ v u, pick vs zs dvs x = some v ∧ pick us ws its x = some u ∧ RelV v u) ∨ (pick vs zs dvs x = none ∧ pick us ws its x = none) := by
  have one : ∀ {xs : List V} {ys : List Value} (i : Nat), Vals xs ys → (∃ v u, xs[i]? = some v ∧ ys[i]? = some u ∧ RelV v u) ∨ (xs[i]? = none ∧ ys[i]? = none) := fun {xs ys} i r => by
    cases e : xs[i]? with
    | none => exact .inr ⟨rfl, r.none_of e⟩
    | some v =>
      obtain ⟨u, h1, h2⟩ := r.get e
      exact .inl ⟨v, u, rfl, h1, h2⟩
  cases x with
  | pos i => exact one i a
  | kw i => exact one i b
  | df i => exact one i c
theorem arr_vals {vs zs dvs : List V} {us ws its : List Value} (a : Vals vs us) (b : Vals zs ws) (c : Vals dvs its) : ∀ src : List Src, Vals (arr vs zs dvs src) (arr us ws its src)
  | [] => .nil
  | x :: r => by
    unfold arr
    rcases pick_vals a b c x with ⟨v, u, e1, e2, q⟩ | ⟨e1, e2⟩
    · rw [e1, e2]; exact .cons q (arr_vals a b c r)
    · rw [e1, e2]; exact arr_vals a b c r
theorem pick_rds {K : PySem.W.Frag} {mw : MW} {o : Wd} {ds es fs : List D} {vs zs ws : List V} (a : RDs K mw o ds vs) (b : RDs K mw o es zs) (c : RDs K mw o fs ws) (x : Src) : (∃ d v, pick ds es fs x = some d ∧ pick vs zs ws x = some v ∧ RD K mw o d v) ∨ (pick ds es fs x = none ∧ pick vs zs ws x = none) := by
  have one : ∀ {xs : List D} {ys : List V} (i : Nat), RDs K mw o xs ys → (∃ d v, xs[i]? = some d ∧ ys[i]? = some v ∧ RD K mw o d v) ∨ (xs[i]? = none ∧ ys[i]? = none) := fun {xs ys} i r => by
    cases e : xs[i]? with
    | none => exact .inr ⟨rfl, List.getElem?_eq_none_iff.mpr (r.none' e)⟩
    | some v =>
      obtain ⟨u, h1, h2⟩ := r.get e
      exact .inl ⟨v, u, rfl, h1, h2⟩
  cases x with
  | pos i => exact one i a
  | kw i => exact one i b
  | df i => exact one i c
theorem arr_rds {K : PySem.W.Frag} {mw : MW} {o : Wd} {ds es fs : List D} {vs zs ws : List V} (a : RDs K mw o ds vs) (b : RDs K mw o es zs) (c : RDs K mw o fs ws) : ∀ src : List Src, RDs K mw o (arr ds es fs src) (arr vs zs ws src)
  | [] => .nil
  | x :: r => by
    unfold arr
    rcases pick_rds a b c x with ⟨v, u, e1, e2, q⟩ | ⟨e1, e2⟩
    · rw [e1, e2]; exact .cons q (arr_rds a b c r)
    · rw [e1, e2]; exact arr_rds a b c r

/-! ### a def's promise over data -/
def spD (K : PySem.W.Frag) (mw : MW) (n : Nat) (F : List D → Sto → Out D) : Sp := fun vs H Q E => ∃ o ds S, o.H = H ∧ RDs K mw o ds vs ∧ RS K mw o S ∧ ds.length = n ∧
  Post K mw (fun x o' => ∀ c od, RX K mw o' x c od → E c od o'.H) (fun d _ o' => ∀ v, RD K mw o' d v → Q v o'.H) o (F ds S)
/-- how a def is called: its place, its defaults, the ways -/
structure Cal (P : Program) (w : World) (K : PySem.W.Frag) (mg : Str → Option Value) (base : Heap) (k : Nat) (x : Str) (dfl : List D) (shs : List Shape) (F : List D → Sto → Out D) : Prop where
  ex : ∃ (f : Addr) (fd : FuncData) (ps : List Str) (dvs : List V), mg x = some (.ref f) ∧ PySem.W.keepIn K (.ref f) = true ∧ FnG P w K mg base k f fd ps (spD K ⟨mg, w⟩ ps.length F) ∧ (∀ o : Wd, RDs K ⟨mg, w⟩ o dfl dvs) ∧
    (∀ ds S, ds.length ≠ ps.length → F ds S = .stk) ∧
    ∀ sh ∈ shs, ∃ its, Vals dvs its ∧ ∀ (s : Shared) (us ws : List Value), K.In s.heap → us.length = sh.n → ws.length = sh.ks.length → BindsTo s fd ⟨us, sh.ks.zip ws⟩ (ps.zip (arr us ws its sh.src))
def eCall (F : List D → Sto → Out D) (src : List Src) (dfl : List D) (fa fk : FA) : FE := fun env S => (fa env S).bind fun ds S1 => (fk env S1).bind fun zs S2 => F (arr ds zs dfl src) S2
section
variable {X : Cx} {W : WX} {a b c : Expr} {es : List Expr} {kws : List Keyword} {fr fk : FA} {pos : Pos}
/-- the values of the keywords -/
theorem d_knil : PK X [] (tA X.K X.mw W aNil) := ⟨fun po pins s σ H Q I h => pk_nil.run po pins s σ H Q I (by
  obtain ⟨env, S, o, ⟨rfl, re, rs⟩, p⟩ := h
  exact p.here rs [] .nil)⟩
theorem d_kcons {nm : Option Str} {kpos : Pos} {fa : FE} (ha : PE X a (tE X.K X.mw W fa)) (hr : PK X kws (tA X.K X.mw W fk)) : PK X (⟨nm, a, kpos⟩ :: kws) (tA X.K X.mw W (aCons fa fk)) := ⟨fun po pins s σ H Q I h => (pk_cons (nm := nm) (kpos := kpos) ha hr).run po pins s σ H Q I (by
  obtain ⟨env, S, o, ⟨rfl, re, rs⟩, p⟩ := h
  refine ⟨env, S, o, ⟨rfl, re, rs⟩, (Post.bind p).imp fun d1 S1 o1 l1 rs1 p1 v1 r1 => ?_⟩
  refine ⟨env, S1, o1, ⟨rfl, re.up l1, rs1⟩, (Post.bind p1).imp fun ds S2 o2 l2 rs2 p2 vs r2 => ?_⟩
  exact p2.here rs2 _ (.cons (r1.up l2) r2))⟩
theorem run_g {k : Nat} {f : Addr} {fd : FuncData} {ps : List Str} {F : List D → Sto → Out D} {args : Args} {pins : List (Addr × Obj)} {σ : L2.St} {s : Shared} {Q : VK} {us : List Value} {vs : List V} {o : Wd} {ds : List D} {S : Sto}
    (G : FnG X.prog X.w X.K X.mg X.base k f fd ps (spD X.K X.mw ps.length F)) (hst : ∀ ds S, ds.length ≠ ps.length → F ds S = .stk) (hr : Rm k X.A) (tk : Takes X W) (hb : BindsTo s fd args (ps.zip us)) (r : Vals vs us) (I : Inv X pins σ o.H s) (rd : RDs X.K X.mw o ds vs) (rs : RS X.K X.mw o S)
    (p : PostV X.K X.mw W σ Q o (F ds S)) : codeAny (model X.prog X.w) X.A (.call (.ref f) args) (fun r s' => match r with
      | .ok (.ret u) => EP X pins σ Q u s'
      | .ok _ => False
      | .error e => X.xe e s') s := by
  have hl : ds.length = ps.length := by
    by_cases e : ds.length = ps.length
    · exact e
    · rw [hst ds S e] at p
      exact False.elim p
  refine codeAny_mono (G.run X.A X.stack s o.H args us vs Q (fun c od H' => W c od σ H') hr I.env0 hb r ⟨o, ds, S, rfl, rd, rs, hl, p⟩) fun r s' hq => ?_
  cases r with
  | error e => exact tk e s' (XE.of_call I (fun _ _ _ h => h) hq)
  | ok fl =>
    cases fl with
    | ret u => exact I.after hq
    | next => exact hq
    | brk => exact hq
    | cont => exact hq
theorem call_of {f : Value} {us : List Value} {kw : List (Str × Value)} {s : Shared} {Q : Value → Shared → Prop} (h : codeAny (model X.prog X.w) X.A (.call f ⟨us, kw⟩) (fun r s' => match r with
      | .ok (.ret u) => Q u s'
      | .ok _ => False
      | .error e => X.xe e s') s) : wpAny (model X.prog X.w) X.A (call f us kw) Q X.xe s := by
  refine wpAny_call (codeAny_mono h fun r s' hq => ?_)
  cases r with
  | error e => exact hq
  | ok fl =>
    cases fl with
    | ret u => exact hq
    | next => exact False.elim hq
    | brk => exact False.elim hq
    | cont => exact False.elim hq
theorem call_fin {k : Nat} {f : Addr} {fd : FuncData} {ps : List Str} {dvs : List V} {its : List Value} {dfl : List D} {F : List D → Sto → Out D} {sh : Shape} {pins : List (Addr × Obj)} {σ : L2.St} {Q : VK} {us ws : List Value} {vs zs : List V} {s2 : Shared} {o1 o2 : Wd} {ds es : List D} {S2 : Sto}
    (G : FnG X.prog X.w X.K X.mg X.base k f fd ps (spD X.K X.mw ps.length F)) (hst : ∀ ds S, ds.length ≠ ps.length → F ds S = .stk) (hr : Rm k X.A) (tk : Takes X W) (hdf : ∀ o : Wd, RDs X.K X.mw o dfl dvs) (rdf : Vals dvs its)
    (hbind : ∀ (s : Shared) (us ws : List Value), X.K.In s.heap → us.length = sh.n → ws.length = sh.ks.length → BindsTo s fd ⟨us, sh.ks.zip ws⟩ (ps.zip (arr us ws its sh.src)))
    (I2 : Inv X pins σ o2.H s2) (r : Vals vs us) (rz : Vals zs ws) (rd : RDs X.K X.mw o1 ds vs) (l2 : Le X.K o1 o2) (rd2 : RDs X.K X.mw o2 es zs) (rs2 : RS X.K X.mw o2 S2) (n1 : ds.length = sh.n) (n2 : es.length = sh.ks.length)
    (q : PostV X.K X.mw W σ Q o2 (F (arr ds es dfl sh.src) S2)) : wpAny (model X.prog X.w) X.A (call (.ref f) us (sh.ks.zip ws)) (EP X pins σ Q) X.xe s2 :=
  call_of (run_g (us := arr us ws its sh.src) (vs := arr vs zs dvs sh.src) G hst hr tk (hbind s2 us ws I2.kIn (by rw [← r.length, ← rd.length, n1]) (by rw [← rz.length, ← rd2.length, n2])) (arr_vals r rz rdf sh.src) I2 (arr_rds (rd.up l2) rd2 (hdf o2) sh.src) rs2 q)
/-- f(e, .., k = v, ..) -/
theorem d_call {k : Nat} {x : Str} {p : Pos} {dfl : List D} {shs : List Shape} {F : List D → Sto → Out D} {sh : Shape} (C : Cal X.prog X.w X.K X.mg X.base k x dfl shs F) (hsh : sh ∈ shs) (hr : Rm k X.A) (tk : Takes X W) (hg : Gl X x)
    (ha : PA X (a :: es) (tA X.K X.mw W fr)) (hl : LenA fr sh.n) (hkw : PK X kws (tA X.K X.mw W fk)) (hkl : LenA fk sh.ks.length) (hks : (backToKw pos (keywordEach kws X.env)).filterMap (·.1) = sh.ks) (hall : (backToKw pos (keywordEach kws X.env)).all (·.1.isSome) = true)
    (hdb : (x == ("__debug__" : Str)) = false) (he : starEach (a :: es) X.env = (false, eval a X.env) :: starEach es X.env)
    (hpl : ((backTo pos (starEach (a :: es) X.env)).any (·.1) || (backToKw pos (keywordEach kws X.env)).any (·.1.isNone)) = false) :
    PE X (.Call (.Name x p) (a :: es) kws pos) (tE X.K X.mw W (eCall F sh.src dfl fr fk)) := by
  obtain ⟨f, fd, ps, dvs, hm, hk, G, hdf, hst, hsp⟩ := C.ex
  obtain ⟨its, rdf, hbind⟩ := hsp sh hsh
  refine ⟨fun pins s σ H Q I ⟨env, S, o, ⟨eo, re, rs⟩, p⟩ => wpAny_Call_Name_kw (ld_glob I hg hm ?_ hdb)⟩
  subst eo
  refine PySem.W.callWith_KW (h₀ := X.base) (first := []) I.ok.mod.kin hk hall (thn (ha.run pos pins s σ o.H (fun vs H1 => ∃ ds S1 o1, o1.H = H1 ∧ Le X.K o o1 ∧ RS X.K X.mw o1 S1 ∧ RDs X.K X.mw o1 ds vs ∧ ds.length = sh.n ∧ PostV X.K X.mw W σ Q o1 ((fk env S1).bind fun zs S2 => F (arr ds zs dfl sh.src) S2)) I
    ⟨env, S, o, ⟨rfl, re, rs⟩, (postLen (Post.bind p) (hl env S)).imp fun ds S1 o1 l1 rs1 p1 vs r1 => ⟨ds, S1, o1, rfl, l1, rs1, r1, p1.1, p1.2⟩⟩) fun us s1 ⟨vs, H1, I1, r, ds, S1, o1, e1, l1, rs1, rd1, n1, p1⟩ => ?_) hpl he
  subst e1
  refine thn (hkw.run pos pins s1 σ o1.H (fun zs H2 => ∃ es S2 o2, o2.H = H2 ∧ Le X.K o1 o2 ∧ RS X.K X.mw o2 S2 ∧ RDs X.K X.mw o2 es zs ∧ es.length = sh.ks.length ∧ PostV X.K X.mw W σ Q o2 (F (arr ds es dfl sh.src) S2)) I1
    ⟨env, S1, o1, ⟨rfl, re.up l1, rs1⟩, (postLen (Post.bind p1) (hkl env S1)).imp fun es S2 o2 l2 rs2 p2 zs r2 => ⟨es, S2, o2, rfl, l2, rs2, r2, p2.1, p2.2⟩⟩) fun ws s2 ⟨zs, H2, I2, rz, es, S2, o2, e2, l2, rs2, rd2, n2, p2⟩ => ⟨I2.kIn, ?_⟩
  subst e2
  rw [hks]
  exact call_fin G hst hr tk hdf rdf hbind I2 r rz rd1 l2 rd2 rs2 n1 n2 p2
/-- f(k = v, ..), f() -/
theorem d_call0 {k : Nat} {x : Str} {p : Pos} {dfl : List D} {shs : List Shape} {F : List D → Sto → Out D} {sh : Shape} (C : Cal X.prog X.w X.K X.mg X.base k x dfl shs F) (hsh : sh ∈ shs) (hr : Rm k X.A) (tk : Takes X W) (hg : Gl X x) (hn : sh.n = 0)
    (hkw : PK X kws (tA X.K X.mw W fk)) (hkl : LenA fk sh.ks.length) (hks : (backToKw pos (keywordEach kws X.env)).filterMap (·.1) = sh.ks) (hall : (backToKw pos (keywordEach kws X.env)).all (·.1.isSome) = true)
    (hdb : (x == ("__debug__" : Str)) = false) (hpl : ((backTo pos (starEach [] X.env)).any (·.1) || (backToKw pos (keywordEach kws X.env)).any (·.1.isNone)) = false) :
    PE X (.Call (.Name x p) [] kws pos) (tE X.K X.mw W (eCall F sh.src dfl aNil fk)) := by
  obtain ⟨f, fd, ps, dvs, hm, hk, G, hdf, hst, hsp⟩ := C.ex
  obtain ⟨its, rdf, hbind⟩ := hsp sh hsh
  refine ⟨fun pins s σ H Q I ⟨env, S, o, ⟨eo, re, rs⟩, p⟩ => wpAny_Call_Name_kw (ld_glob I hg hm ?_ hdb)⟩
  subst eo
  have p1 : PostV X.K X.mw W σ Q o ((fk env S).bind fun zs S2 => F (arr [] zs dfl sh.src) S2) := p
  refine PySem.W.callWith_KW0 (h₀ := X.base) (first := []) I.ok.mod.kin hk hall (thn (hkw.run pos pins s σ o.H (fun zs H2 => ∃ es S2 o2, o2.H = H2 ∧ Le X.K o o2 ∧ RS X.K X.mw o2 S2 ∧ RDs X.K X.mw o2 es zs ∧ es.length = sh.ks.length ∧ PostV X.K X.mw W σ Q o2 (F (arr [] es dfl sh.src) S2)) I
    ⟨env, S, o, ⟨rfl, re, rs⟩, (postLen (Post.bind p1) (hkl env S)).imp fun es S2 o2 l2 rs2 p2 zs r2 => ⟨es, S2, o2, rfl, l2, rs2, r2, p2.1, p2.2⟩⟩) fun ws s2 ⟨zs, H2, I2, rz, es, S2, o2, e2, l2, rs2, rd2, n2, p2⟩ => ⟨I2.kIn, ?_⟩) hpl
  subst e2
  rw [hks]
  exact call_fin (o1 := o) (us := []) (vs := []) (ds := []) G hst hr tk hdf rdf hbind I2 .nil rz .nil l2 rd2 rs2 hn.symm n2 p2
end

/-! ### a def by its body -/
def runB (nN np : Nat) (b : FS) : List D → Sto → Out D := fun ds S => if ds.length = np then (b (ds.map some ++ List.replicate (nN - ds.length) none) S).bind fun fl S1 => match fl with
  | .rt d => .ok d S1
  | .nx _ => .ok .non S1
  | _ => .stk
  else .stk
theorem runB_len {nN np : Nat} {b : FS} {ds : List D} {S : Sto} (h : ds.length ≠ np) : runB nN np b ds S = .stk := by unfold runB; rw [if_neg h]
theorem start_re {K : PySem.W.Frag} {mw : MW} {o : Wd} {ds : List D} {vs : List V} {N : List Str} (r : RDs K mw o ds vs) : RE K mw o (ds.map some ++ List.replicate (N.length - ds.length) none) (L2.start N vs) := by
  have hl := r.length
  unfold L2.start
  refine ⟨by simp [hl], fun i d h => ?_⟩
  by_cases hi : i < ds.length
  · rw [List.getElem?_append_left (by simpa using hi), List.getElem?_map] at h
    cases e : ds[i]? with
    | none => rw [e] at h; cases h
    | some d' =>
      rw [e] at h
      cases h
      obtain ⟨v, h1, h2⟩ := r.get e
      exact ⟨v, by rw [List.getElem?_append_left (by rw [List.length_map, ← hl]; exact hi), List.getElem?_map, h1]; rfl, h2⟩
  · rw [List.getElem?_append_right (by simpa using hi), List.getElem?_replicate] at h
    split at h <;> cases h
/-- THE RULE of a def: its body's judgement for every entry -/
theorem fn_g {P : Program} {w : World} {K : PySem.W.Frag} {mg : Str → Option Value} {base : Heap} {k : Nat} {f : Addr} {name qual : Str} {params : Arguments} {body : List Stmt} {scope : Scope} {dvs : List V} {kws : List (Str × V)} {fd : FuncData} {N ps : List Str} {b : FS}
    (F : FunD K name qual params body scope dvs kws f fd) (S : FnScope N ps scope)
    (hbody : ∀ (cdv : Value) (A : Around) (outer : List PySem.Env) (s : Shared) (H : Hp) (E : XK), Rm k (A.deeper (envOfC qual scope s.heap.objs.size f cdv)) →
      PSs (cxOf (CX P w) P w K mg base N qual scope f cdv A outer s H E) body (tS K ⟨mg, w⟩ (fun c d _ H => E c d H) b)) :
    FnG P w K mg base (k + 1) f fd ps (spD K ⟨mg, w⟩ ps.length (runB N.length ps.length b)) := by
  refine F.ok S (fun vs H Q E ⟨o, ds, S0, _, r, _, e, _⟩ => r.length.symm.trans e) fun cdv A outer s H vs Q E hr ⟨o, ds, S0, eo, rd, rs, hn, p⟩ => ⟨_, hbody cdv A outer s H E hr, ?_⟩
  subst eo
  unfold runB at p
  rw [if_pos hn] at p
  refine ⟨_, S0, o, ⟨rfl, start_re rd, rs⟩, (Post.bind p).imp fun fl S1 o1 l1 rs1 p3 => ?_⟩
  match fl, p3 with
  | .nx env, p3 => exact fun σ' re' => p3.here rs1 _ .non
  | .rt d, p3 => exact fun v rv => p3.here rs1 v rv
  | .bk env, p3 => exact False.elim p3
  | .ct env, p3 => exact False.elim p3

/-! ### a def's defaults, for its calls -/
theorem no_dfl {K : PySem.W.Frag} {x qual : Str} {params : Arguments} {body : List Stmt} {scope : Scope} {kws : List (Str × V)} {f : Addr} {fd : FuncData} (F : FunD K x qual params body scope [] kws f fd) :
    ∃ kV doc pm an cdv ct, fd = PySem.W.fnOf x qual params body scope .none kV doc pm an cdv ct :=
  match F.ex with
  | ⟨_, _, dV, kV, doc, pm, an, cdv, ct, _, e, _, _, d, _⟩ => ⟨kV, doc, pm, an, cdv, ct, (d.resolve_right fun q => q.1 rfl).2 ▸ e⟩
theorem some_dfl {K : PySem.W.Frag} {x qual : Str} {params : Arguments} {body : List Stmt} {scope : Scope} {dvs : List V} {kws : List (Str × V)} {f : Addr} {fd : FuncData} (F : FunD K x qual params body scope dvs kws f fd) (hd : dvs ≠ []) :
    ∃ T o its m kV doc pm an cdv ct, fd = PySem.W.fnOf x qual params body scope (.ref T) kV doc pm an cdv ct ∧ K.lookup T = some o ∧ o.data = .seq its.toArray m ∧ Vals dvs its :=
  match F.ex with
  | ⟨_, _, dV, kV, doc, pm, an, cdv, ct, _, e, _, _, d, _⟩ => match d.resolve_left fun q => hd q.1 with
    | ⟨_, T, o, its, m, q, l, i, r⟩ => ⟨T, o, its, m, kV, doc, pm, an, cdv, ct, q ▸ e, l, i, r⟩
end PV

set_option Elab.async false
set_option linter.all false
set_option maxRecDepth 100000
set_option maxHeartbeats 3999000
namespace PV
open L2 PyProof.Rows PySem PySem.Spec

/-! ### from the text to its meaning -/
inductive Gb where
  | cst (d : D) | free | fn (dfl : List D) (shs : List Shape)
structure CEnv where
  N : List Str
  sc : Scope
  st : Str → Bool
  gl : Str → Option Gb
  call : Str → List D → Sto → Out D
def GbOk (n : Nat) (X : Cx) (C : Str → List D → Sto → Out D) (x : Str) : Gb → Prop
  | .cst d => ∃ v u, X.mg x = some u ∧ RelV v u ∧ ∀ o : Wd, RD X.K X.mw o d v
  | .free => X.mg x = none
  | .fn dfl shs => Cal X.prog X.w X.K X.mg X.base n x dfl shs (C x)
structure Good (n : Nat) (X : Cx) (ce : CEnv) : Prop where
  N : X.N = ce.N
  nd : X.N.Nodup
  sc : X.env.scope = ce.sc
  kind : ce.sc.kind = .function
  st : ∀ x, ce.st x = true → Loc X.env.scope x ∧ (X.fn x = true ∨ X.env.scope.names.lookup x = some .local)
  calm : X.calm = true
  rm : Rm n X.A
  gl : ∀ x g, ce.gl x = some g → GbOk n X ce.call x g
abbrev RC := CEnv → (Expr → Option FE) × (Expr → Option FT)

/-! ### names -/
def ixOf : List Str → Str → Option Nat
  | [], _ => none
  | y :: r, x => if y = x then some 0 else (ixOf r x).map (· + 1)
theorem ixOf_get : ∀ {N : List Str} {x : Str} {i : Nat}, ixOf N x = some i → N[i]? = some x
  | [], _, _, h => by cases h
  | y :: r, x, i, h => by
    unfold ixOf at h
    split at h
    · rename_i e; cases h; rw [← e]; rfl
    · obtain ⟨j, e1, e2⟩ := Option.map_eq_some_iff.mp h
      subst e2
      rw [List.getElem?_cons_succ]
      exact ixOf_get e1
def okNm (x : Str) : Bool := decide ((x == ("__debug__" : Str)) = false ∧ (x == ("__classdict__" : Str)) = false ∧ x ≠ "__name__")
def isVis (sc : Scope) (x : Str) : Bool := decide (sc.names.lookup x = some .local ∨ sc.names.lookup x = some .cell ∨ sc.names.lookup x = some .free)
def isGl (sc : Scope) (x : Str) : Bool := decide (sc.names.lookup x = some .globalImplicit)
/-- a built-in class as a value -/
def tyNm (x : Str) : Option String := if x = "int" then some "int" else if x = "bool" then some "bool" else if x = "tuple" then some "tuple" else if x = "list" then some "list" else if x = "str" then some "str" else if x = "dict" then some "dict" else none
theorem tyNm_ok {x : Str} {n : String} (h : tyNm x = some n) : bootBuiltins x = some (.type n) := by
  unfold tyNm at h
  repeat' split at h
  all_goals first | (rename_i e; cases h; rw [e]; decide +kernel) | cases h
def cName (ce : CEnv) (x : Str) : Option FE :=
  if okNm x = true then
    if isVis ce.sc x = true then (ixOf ce.N x).map eVar
    else if isGl ce.sc x = true then (match ce.gl x with
      | some (.cst d) => some (eC d)
      | some .free => (tyNm x).map fun n => eC (.ty n)
      | _ => none)
    else none
  else none
section
variable {X : Cx} {W : WX} {n : Nat} {ce : CEnv} {pos : Pos}
theorem Good.gx (G : Good n X ce) {x : Str} (h : isGl ce.sc x = true) : Gl X x := by
  show X.env.scope.names.lookup x = some .globalImplicit
  rw [G.sc]
  exact of_decide_eq_true h
theorem c_name (G : Good n X ce) {x : Str} {f : FE} (h : cName ce x = some f) : PE X (.Name x pos) (tE X.K X.mw W f) := by
  unfold cName at h
  split at h
  · rename_i hn
    obtain ⟨h1, h2, h3⟩ := of_decide_eq_true hn
    split at h
    · rename_i hv
      obtain ⟨i, e, rfl⟩ := Option.map_eq_some_iff.mp h
      refine d_var (by rw [G.N]; exact ixOf_get e) ?_ h1 h2
      unfold Vis
      rw [G.sc]
      exact of_decide_eq_true hv
    · split at h
      · rename_i hg
        split at h
        · rename_i d e
          cases h
          obtain ⟨v, u, e1, e2, e3⟩ := G.gl _ _ e
          exact d_c (pe_glob (G.gx hg) e1 e2 h1) e3
        · rename_i e
          obtain ⟨m, e1, rfl⟩ := Option.map_eq_some_iff.mp h
          have e2 : X.mg x = none := G.gl _ _ e
          exact d_c (pe_bltn (v := .ty m) (G.gx hg) e2 (tyNm_ok e1) rfl h3 h1) fun o => .ty m
        · cases h
      · cases h
  · cases h

/-! ### argument lists -/
def noStar : Expr → Bool
  | .Starred .. => false
  | _ => true
theorem star_cons {e : Expr} {es : List Expr} {env : PySem.Env} (h : noStar e = true) : starEach (e :: es) env = (false, eval e env) :: starEach es env := by
  cases e <;> first | rfl | cases h
theorem star_any : ∀ {es : List Expr} {env : PySem.Env} {pos : Pos}, es.all noStar = true → (backTo pos (starEach es env)).any (·.1) = false
  | [], _, _, _ => rfl
  | e :: es, env, pos, h => by
    rw [List.all_cons, Bool.and_eq_true] at h
    rw [star_cons h.1]
    show (false || (backTo pos (starEach es env)).any (·.1)) = false
    rw [star_any h.2]
    rfl
def cArgs (f : Expr → Option FE) : List Expr → Option FA
  | [] => some aNil
  | e :: r => if noStar e = true then (match f e, cArgs f r with
    | some fe, some fr => some (aCons fe fr)
    | _, _ => none) else none
theorem c_args {f : Expr → Option FE} (hf : ∀ e fe, f e = some fe → PE X e (tE X.K X.mw W fe)) : ∀ {es : List Expr} {fr : FA}, cArgs f es = some fr → PA X es (tA X.K X.mw W fr) ∧ LenA fr es.length ∧ es.all noStar = true
  | [], _, h => by cases h; exact ⟨d_anil, lenA_nil, rfl⟩
  | e :: r, fr, h => by
    unfold cArgs at h
    split at h
    · rename_i hs
      split at h
      · rename_i fe fr' e1 e2
        cases h
        obtain ⟨h1, h2, h3⟩ := c_args hf e2
        exact ⟨d_acons (hf _ _ e1) h1 (star_cons hs), lenA_cons h2, by rw [List.all_cons, hs, h3]; rfl⟩
      · cases h
    · cases h
def cKws (f : Expr → Option FE) : List Keyword → Option FA
  | [] => some aNil
  | ⟨some _, e, _⟩ :: r => (match f e, cKws f r with
    | some fe, some fr => some (aCons fe fr)
    | _, _ => none)
  | _ => none
def kwNm : List Keyword → List Str
  | [] => []
  | ⟨some x, _, _⟩ :: r => x :: kwNm r
  | ⟨none, _, _⟩ :: r => kwNm r
theorem c_kws {f : Expr → Option FE} (hf : ∀ e fe, f e = some fe → PE X e (tE X.K X.mw W fe)) : ∀ {ks : List Keyword} {fr : FA}, cKws f ks = some fr → PK X ks (tA X.K X.mw W fr) ∧ LenA fr (kwNm ks).length ∧
    (∀ pos env, (backToKw pos (keywordEach ks env)).filterMap (·.1) = kwNm ks) ∧ (∀ pos env, (backToKw pos (keywordEach ks env)).all (·.1.isSome) = true) ∧ ∀ pos env, (backToKw pos (keywordEach ks env)).any (·.1.isNone) = false
  | [], _, h => by cases h; exact ⟨d_knil, lenA_nil, fun _ _ => rfl, fun _ _ => rfl, fun _ _ => rfl⟩
  | ⟨some x, e, kp⟩ :: r, fr, h => by
    unfold cKws at h
    split at h
    · rename_i fe fr' e1 e2
      cases h
      obtain ⟨h1, h2, h3, h4, h5⟩ := c_kws hf e2
      refine ⟨d_kcons (hf _ _ e1) h1, lenA_cons h2, fun pos env => ?_, fun pos env => ?_, fun pos env => ?_⟩
      · show (x :: (backToKw pos (keywordEach r env)).filterMap (·.1)) = x :: kwNm r
        rw [h3]
      · show (true && (backToKw pos (keywordEach r env)).all (·.1.isSome)) = true
        rw [h4]; rfl
      · show (false || (backToKw pos (keywordEach r env)).any (·.1.isNone)) = false
        rw [h5]; rfl
    · cases h
  | ⟨none, e, kp⟩ :: r, fr, h => by cases h

/-! ### operators -/
def binOf : Operator → Option (D → D → Sto → PR)
  | .Add => some addD
  | .Sub => some subD
  | .Mult => some mulD
  | .FloorDiv => some fdivD
  | .Mod => some modD
  | .Pow => some powD
  | .LShift => some shlD
  | .RShift => some shrD
  | .BitAnd => some andD
  | .BitOr => some orD
  | .BitXor => some xorD
  | _ => none
theorem c_bin {op : Operator} {g : D → D → Sto → PR} (h : binOf op = some g) : OpD X (binaryOp op) g := by
  cases op <;> cases h
  · exact opd_add
  · exact opd_sub
  · exact opd_mul
  · exact opd_mod
  · exact opd_pow
  · exact opd_shl
  · exact opd_shr
  · exact opd_or
  · exact opd_xor
  · exact opd_and
  · exact opd_fdiv
def cmpOf : CmpOp → (D → D → Sto → PR)
  | .Eq => eqD
  | .NotEq => neD
  | .Lt => ordD .lt
  | .LtE => ordD .le
  | .Gt => ordD .gt
  | .GtE => ordD .ge
  | .Is => isD
  | .IsNot => isNotD
  | .In => inDD
  | .NotIn => notInDD
theorem c_cmp (G : Good n X ce) (op : CmpOp) : OpD X (compareOp op) (cmpOf op) := by
  have hu := G.rm.un
  cases op
  · exact opd_eq (by omega)
  · exact opd_ne (by omega)
  · exact opd_ord .lt (by omega)
  · exact opd_ord .le (by omega)
  · exact opd_ord .gt (by omega)
  · exact opd_ord .ge (by omega)
  · exact opd_is
  · exact opd_isNot
  · exact opd_inDD (by omega)
  · exact opd_notInDD (by omega)
def noSet : Expr → Bool
  | .Set .. => false
  | _ => true
theorem noSet_mark {b : Expr} (h : noSet b = true) (op : CmpOp) : behindInMarks op b = false := by
  cases b <;> first | rfl | cases h
theorem noSet_fold {b : Expr} (h : noSet b = true) (env : PySem.Env) (x : Value) : foldedSetIterable b env x = pure x := by
  cases b <;> first | rfl | cases h
inductive Cmp2 where
  | one (op : CmpOp) (b : Expr) | two (op op' : CmpOp) (b c : Expr)
def cmp2 : List CmpOp → List Expr → Option Cmp2
  | [op], [b] => some (.one op b)
  | [op, op'], [b, c] => some (.two op op' b c)
  | _, _ => none
def cCmp (f : Expr → Option FE) (a : Expr) (ops : List CmpOp) (bs : List Expr) : Option FE := match cmp2 ops bs with
  | some (.one op b) => if noSet b = true then (match f a, f b with
    | some fa, some fb => some (eBin (cmpOf op) fa fb)
    | _, _ => none) else none
  | some (.two op op' b c) => if noSet c = true then (match f a, f b, f c with
    | some fa, some fb, some fc => some (eCh (cmpOf op) (cmpOf op') fa fb fc)
    | _, _, _ => none) else none
  | none => none
theorem cmp2_one {ops : List CmpOp} {bs : List Expr} {op : CmpOp} {b : Expr} (h : cmp2 ops bs = some (.one op b)) : ops = [op] ∧ bs = [b] := by
  unfold cmp2 at h
  split at h
  · cases h; exact ⟨rfl, rfl⟩
  · cases h
  · cases h
theorem cmp2_two {ops : List CmpOp} {bs : List Expr} {op op' : CmpOp} {b c : Expr} (h : cmp2 ops bs = some (.two op op' b c)) : ops = [op, op'] ∧ bs = [b, c] := by
  unfold cmp2 at h
  split at h
  · cases h
  · cases h; exact ⟨rfl, rfl⟩
  · cases h
theorem c_cmpE (G : Good n X ce) {f : Expr → Option FE} (hf : ∀ e fe, f e = some fe → PE X e (tE X.K X.mw W fe)) {a : Expr} {ops : List CmpOp} {bs : List Expr} {fe : FE} (h : cCmp f a ops bs = some fe) :
    PE X (.Compare a ops bs pos) (tE X.K X.mw W fe) ∧ PT X (.Compare a ops bs pos) (tT X.K X.mw W (tB' fe)) := by
  unfold cCmp at h
  split at h
  · rename_i op b e
    obtain ⟨rfl, rfl⟩ := cmp2_one e
    split at h
    · rename_i hs
      split at h
      · rename_i fa fb e1 e2
        cases h
        exact ⟨d_cmp (c_cmp G op) (hf _ _ e1) (hf _ _ e2) (noSet_mark hs op), d_tcmp (c_cmp G op) (hf _ _ e1) (hf _ _ e2) (noSet_mark hs op)⟩
      · cases h
    · cases h
  · rename_i op op' b c e
    obtain ⟨rfl, rfl⟩ := cmp2_two e
    split at h
    · rename_i hs
      split at h
      · rename_i fa fb fc e1 e2 e3
        cases h
        have hm : lastMarks [op, op'] [b, c] = false := by
          show behindInMarks op' c = false
          exact noSet_mark hs op'
        exact ⟨d_ch (c_cmp G op) (c_cmp G op') (hf _ _ e1) (hf _ _ e2) (hf _ _ e3) hm, d_tch (c_cmp G op) (c_cmp G op') (hf _ _ e1) (hf _ _ e2) (hf _ _ e3) hm⟩
      · cases h
    · cases h
  · cases h
def cBoolE (f : Expr → Option FE) (op : BoolOp) : List Expr → Option FE
  | [] => none
  | [a] => f a
  | a :: r => (match f a, cBoolE f op r with
    | some fa, some fr => (match op with
      | .And => some (eAnd fa fr)
      | .Or => some (eOr fa fr))
    | _, _ => none)
theorem c_boolE {f : Expr → Option FE} (hf : ∀ e fe, f e = some fe → PE X e (tE X.K X.mw W fe)) {op : BoolOp} : ∀ {es : List Expr} {fe : FE}, cBoolE f op es = some fe → PE X (.BoolOp op es pos) (tE X.K X.mw W fe)
  | [], _, h => by cases h
  | [a], _, h => pe_one (hf _ _ h)
  | a :: b :: r, fe, h => by
    unfold cBoolE at h
    split at h
    · rename_i fa fr e1 e2
      have ih := c_boolE hf e2
      cases op with
      | And => cases h; exact d_and (hf _ _ e1) ih
      | Or => cases h; exact d_or (hf _ _ e1) ih
    · cases h
def cBoolT (f : Expr → Option FT) (op : BoolOp) : List Expr → Option FT
  | [] => none
  | [a] => f a
  | a :: r => (match f a, cBoolT f op r with
    | some fa, some fr => (match op with
      | .And => some (tAndF fa fr)
      | .Or => some (tOrF fa fr))
    | _, _ => none)
theorem c_boolT {f : Expr → Option FT} (hf : ∀ e fe, f e = some fe → PT X e (tT X.K X.mw W fe)) {op : BoolOp} : ∀ {es : List Expr} {fe : FT}, cBoolT f op es = some fe → PW X (.BoolOp op es pos) (tT X.K X.mw W fe)
  | [], _, h => by cases h
  | [a], _, h => by
    cases op with
    | And => exact pw_and1 (hf _ _ h)
    | Or => exact pw_or1 (hf _ _ h)
  | a :: b :: r, fe, h => by
    unfold cBoolT at h
    split at h
    · rename_i fa fr e1 e2
      have ih := c_boolT hf e2
      cases op with
      | And => cases h; exact d_tand (hf _ _ e1) ih
      | Or => cases h; exact d_tor (hf _ _ e1) ih
    · cases h

/-! ### calls -/
/-- the built-in functions and classes -/
def biTab : List (Str × Bool × String × (List D → Sto → PR)) := [("len", false, "len", lenD), ("abs", false, "abs", absD), ("int", true, "int", intD), ("list", true, "list", listD), ("tuple", true, "tuple", tupleD), ("all", false, "all", allD), ("any", false, "any", anyD), ("sum", false, "sum", sumD), ("max", false, "max", maxD), ("min", false, "min", minD), ("repr", false, "repr", reprD), ("isinstance", false, "isinstance", isiD), ("sorted", false, "sorted", sortedD)]
def biOf (x : Str) : Option (Bool × String × (List D → Sto → PR)) := biTab.lookup x
def BiOk (X : Cx) (x : Str) (b : Bool) (id : String) (g : List D → Sto → PR) : Prop := match b with
  | true => CallD X (.type id) g ∧ bootBuiltins x = some (.type id)
  | false => CallD X (.builtin id) g ∧ bootBuiltins x = some (.builtin id)
theorem c_bi (G : Good n X ce) {x : Str} {b : Bool} {id : String} {g : List D → Sto → PR} (h : biOf x = some (b, id, g)) : BiOk X x b id g := by
  have hc := G.calm
  have hm := PySem.mem_of_lookup h
  unfold biTab at hm
  simp only [List.mem_cons, List.not_mem_nil, or_false] at hm
  rcases hm with h | h | h | h | h | h | h | h | h | h | h | h | h
  · cases h; exact ⟨cd_len, by decide +kernel⟩
  · cases h; exact ⟨cd_abs, by decide +kernel⟩
  · cases h; exact ⟨cd_int, by decide +kernel⟩
  · cases h; exact ⟨cd_list, by decide +kernel⟩
  · cases h; exact ⟨cd_tuple, by decide +kernel⟩
  · cases h; exact ⟨cd_all hc, by decide +kernel⟩
  · cases h; exact ⟨cd_any hc, by decide +kernel⟩
  · cases h; exact ⟨cd_sum hc, by decide +kernel⟩
  · cases h; exact ⟨cd_max hc, by decide +kernel⟩
  · cases h; exact ⟨cd_min hc, by decide +kernel⟩
  · cases h; exact ⟨cd_repr, by decide +kernel⟩
  · cases h; exact ⟨cd_isi, by decide +kernel⟩
  · cases h; exact ⟨cd_sorted (by have := G.rm.un; omega), by decide +kernel⟩
def shIx (n : Nat) (ks : List Str) : List Shape → Option Shape
  | [] => none
  | s :: r => if s.n = n ∧ s.ks = ks then some s else shIx n ks r
theorem shIx_ok {n : Nat} {ks : List Str} : ∀ {l : List Shape} {s : Shape}, shIx n ks l = some s → s ∈ l ∧ s.n = n ∧ s.ks = ks
  | [], _, h => by cases h
  | t :: r, s, h => by
    unfold shIx at h
    split at h
    · rename_i e; cases h; exact ⟨List.mem_cons_self, e.1, e.2⟩
    · obtain ⟨h1, h2⟩ := shIx_ok h; exact ⟨List.mem_cons_of_mem _ h1, h2⟩
def cCallN (ce : CEnv) (f : Expr → Option FE) (x : Str) (es : List Expr) (ks : List Keyword) : Option FE :=
  if okNm x = true ∧ isGl ce.sc x = true then (match ce.gl x with
    | some .free => (match ks, es with
      | [], _ :: _ => (match biOf x, cArgs f es with
        | some (_, _, g), some fa => some (eCB g fa)
        | _, _ => none)
      | _, _ => none)
    | some (.fn dfl shs) => (match shIx es.length (kwNm ks) shs, cArgs f es, cKws f ks with
      | some sh, some fa, some fk => some (eCall (ce.call x) sh.src dfl fa fk)
      | _, _, _ => none)
    | _ => none)
  else none
theorem c_callN (G : Good n X ce) (tk : Takes X W) {f : Expr → Option FE} (hf : ∀ e fe, f e = some fe → PE X e (tE X.K X.mw W fe)) {x : Str} {p : Pos} {es : List Expr} {ks : List Keyword} {fe : FE} (h : cCallN ce f x es ks = some fe) :
    PE X (.Call (.Name x p) es ks pos) (tE X.K X.mw W fe) := by
  unfold cCallN at h
  split at h
  · rename_i hx
    obtain ⟨h1, h2, h3⟩ := of_decide_eq_true hx.1
    split at h
    · rename_i e
      have e2 : X.mg x = none := G.gl _ _ e
      split at h
      · rename_i a r
        split at h
        · rename_i b id g fa eb ea
          cases h
          obtain ⟨q1, q2, q3⟩ := c_args hf ea
          rw [List.all_cons, Bool.and_eq_true] at q3
          have z := c_bi G eb
          cases b with
          | true => exact d_callTy z.1 (G.gx hx.2) e2 z.2 q1 h3 h1 (star_cons q3.1) (star_any q3.2)
          | false => exact d_callB z.1 (G.gx hx.2) e2 z.2 q1 h3 h1 (star_cons q3.1) (star_any q3.2)
        · cases h
      · cases h
    · rename_i dfl shs e
      have C : Cal X.prog X.w X.K X.mg X.base n x dfl shs (ce.call x) := G.gl _ _ e
      split at h
      · rename_i sh fa fk e1 e2 e3
        cases h
        obtain ⟨hm, hn, hk⟩ := shIx_ok e1
        obtain ⟨q1, q2, q3⟩ := c_args hf e2
        obtain ⟨k1, k2, k3, k4, k5⟩ := c_kws hf e3
        have hpl : ((backTo pos (starEach es X.env)).any (·.1) || (backToKw pos (keywordEach ks X.env)).any (·.1.isNone)) = false := by rw [star_any q3, k5]; rfl
        cases es with
        | nil =>
          cases e2
          exact d_call0 C hm G.rm tk (G.gx hx.2) hn k1 (by rw [hk]; exact k2) (by rw [hk]; exact k3 _ _) (k4 _ _) h1 hpl
        | cons a r =>
          have q3' := q3
          rw [List.all_cons, Bool.and_eq_true] at q3'
          exact d_call C hm G.rm tk (G.gx hx.2) q1 (by rw [hn]; exact q2) k1 (by rw [hk]; exact k2) (by rw [hk]; exact k3 _ _) (k4 _ _) h1 (star_cons q3'.1) hpl
      · cases h
    · cases h
  · cases h

/-! ### methods -/
def mtOf (m : Str) : Option (String × (D → List D → Sto → PR)) := if m = "append" then some ("list.append", appendD) else if m = "extend" then some ("list.extend", extendD) else if m = "pop" then some ("list.pop", popD) else none
/-- no call without arguments stands ahead of the dot -/
def baseOk : Expr → Bool
  | .Call (.Name ..) [] [] _ => false
  | _ => true
theorem base_ok {o : Expr} {m : Str} {env : PySem.Env} {wh : Sem Value} (h : baseOk o = true) : attributeBase o m env wh = wh := by
  cases o with
  | Call f as ks p =>
    cases f with
    | Name x q =>
      cases as with
      | nil =>
        cases ks with
        | nil => cases h
        | cons a b => rfl
      | cons a b => rfl
    | _ => rfl
  | _ => rfl
def cMeth (f : Expr → Option FE) (o : Expr) (m : Str) (apos pos : Pos) (es : List Expr) : Option FE :=
  if baseOk o = true ∧ (apos.endLine == pos.line) = true ∧ es.length < 30 then (match mtOf m, f o, cArgs f es with
    | some (_, g), some fo, some fa => some (eM g fo fa)
    | _, _, _ => none)
  else none
theorem slot_mt {m : Str} {id : String} {g : D → List D → Sto → PR} (h : mtOf m = some (id, g)) : Slot "list" m id ∧ typeOf (.builtin id) = pure (.type "method_descriptor") ∧ MtD X id g := by
  unfold mtOf at h
  split at h; · rename_i e; cases h; rw [e]; exact ⟨PySem.F.slot_list_append, PySem.F.type_list_append, md_append⟩
  split at h; · rename_i e; cases h; rw [e]; exact ⟨PySem.F.slot_list_extend, PySem.F.type_list_extend, md_extend⟩
  split at h; · rename_i e; cases h; rw [e]; exact ⟨PySem.F.slot_list_pop, PySem.F.type_list_pop, md_pop⟩
  cases h
end
end PV

set_option Elab.async false
set_option linter.all false
set_option maxRecDepth 100000
set_option maxHeartbeats 3999000
namespace PV
open L2 PyProof.Rows PySem PySem.Spec
section
variable {X : Cx} {W : WX} {n : Nat} {ce : CEnv} {pos : Pos}
theorem kw_nil_all {p : Pos} {env : PySem.Env} {es : List Expr} (h : es.all noStar = true) : (backTo p (starEach es env)).all (fun x => !x.1) = true := by
  have q := star_any (env := env) (pos := p) h
  rw [List.all_eq_not_any_not]
  simp only [Bool.not_not]
  rw [q]
  rfl
theorem c_meth {f : Expr → Option FE} (hf : ∀ e fe, f e = some fe → PE X e (tE X.K X.mw W fe)) {o : Expr} {m : Str} {apos : Pos} {es : List Expr} {fe : FE} (h : cMeth f o m apos pos es = some fe) :
    PE X (.Call (.Attribute o m apos) es [] pos) (tE X.K X.mw W fe) := by
  unfold cMeth at h
  split at h
  · rename_i hc
    split at h
    · rename_i id g fo fa e1 e2 e3
      cases h
      obtain ⟨s1, s2, s3⟩ := slot_mt (X := X) e1
      obtain ⟨q1, q2, q3⟩ := c_args hf e3
      have ho := hf _ _ e2
      cases es with
      | nil =>
        cases e3
        refine PE.imp (pe_bm0 PySem.F.plainAttrs_list s1 s2 s3 ho (base_ok hc.1) hc.2.1) fun σ H Q h => ?_
        obtain ⟨env, S, o', ⟨rfl, re, rs⟩, p⟩ := h
        refine ⟨env, S, o', ⟨rfl, re, rs⟩, (Post.bind p).imp fun d S1 o1 l1 rs1 p1 v r => ?_⟩
        cases r with
        | @loc k a hk =>
          dsimp only at p1
          split at p1
          · rename_i xs hl
            obtain ⟨vs, h1, _⟩ := rs1.lst hk hl
            obtain ⟨d, S', e, q⟩ := lift_post (show Post X.K X.mw _ _ o1 (lift (g (.loc k) [] S1)) from p1)
            exact ⟨.inl ⟨rfl, vs, SqL.of h1⟩, o1, .loc k, [], S1, d, S', rfl, .loc hk, .nil, rs1, e, fun o' v l rs r => q o' l rs v r⟩
          · exact False.elim p1
        | _ => exact False.elim p1
      | cons a r =>
        have q3' := q3
        rw [List.all_cons, Bool.and_eq_true] at q3'
        refine PE.imp (pe_bm PySem.F.plainAttrs_list s1 s2 s3 ho q1 (base_ok hc.1) ?_ hc.2.1 (star_cons q3'.1) (star_any q3'.2)) fun σ H Q h => ?_
        · rw [kw_nil_all q3]
          show (true && true && decide ((a :: r).length + 0 + 0 < 30)) = true
          rw [decide_eq_true (show (a :: r).length + 0 + 0 < 30 from hc.2.2)]
          rfl
        · obtain ⟨env, S, o', ⟨rfl, re, rs⟩, p⟩ := h
          refine ⟨env, S, o', ⟨rfl, re, rs⟩, (Post.bind p).imp fun d S1 o1 l1 rs1 p1 v r => ?_⟩
          cases r with
          | @loc k a hk =>
            dsimp only at p1
            split at p1
            · rename_i xs hl
              obtain ⟨vs, h1, _⟩ := rs1.lst hk hl
              refine ⟨.inl ⟨rfl, vs, SqL.of h1⟩, env, S1, o1, ⟨rfl, re.up l1, rs1⟩, (Post.bind p1).imp fun ds S2 o2 l2 rs2 p2 ws r2 => ?_⟩
              obtain ⟨d, S', e, q⟩ := lift_post p2
              exact ⟨o2, .loc k, ds, S2, d, S', rfl, .loc (l2.rho _ _ hk), r2, rs2, e, fun o' v l rs r => q o' l rs v r⟩
            · exact False.elim p1
          | _ => exact False.elim p1
    · cases h
  · cases h

/-! ### targets -/
def cNm (ce : CEnv) (x : Str) : Option Nat := if ce.st x = true then ixOf ce.N x else none
def cGs (ce : CEnv) : List Expr → Option (List FG × List Nat)
  | [] => some ([], [])
  | .Name x _ :: r => (match cNm ce x, cGs ce r with
    | some i, some (gs, ch) => some (gNm i :: gs, i :: ch)
    | _, _ => none)
  | _ => none
def cG (ce : CEnv) : Expr → Option (FG × List Nat)
  | .Name x _ => (cNm ce x).map fun i => (gNm i, [i])
  | .Tuple es _ _ => (cGs ce es).map fun p => (gTp p.1, p.2)
  | _ => none
theorem c_nm (G : Good n X ce) {x : Str} {i : Nat} (h : cNm ce x = some i) : X.N[i]? = some x ∧ Loc X.env.scope x ∧ (X.fn x = true ∨ X.env.scope.names.lookup x = some .local) := by
  unfold cNm at h
  split at h
  · rename_i hs
    exact ⟨by rw [G.N]; exact ixOf_get h, G.st x hs⟩
  · cases h
theorem c_gs (G : Good n X ce) (hW : Flat W) : ∀ {es : List Expr} {gs : List FG} {ch : List Nat}, cGs ce es = some (gs, ch) → PGs X es (tGs X.K X.mw W ch gs) ∧ (assignEach es X.env).length = gs.length ∧ (assignEach es X.env).findIdx? (·.1) = none ∧ ∀ g ∈ gs, Tame g
  | [], _, _, h => by cases h; exact ⟨d_gnil, rfl, rfl, fun _ h => nomatch h⟩
  | .Name x p :: r, gs, ch, h => by
    unfold cGs at h
    split at h
    · rename_i i gs' ch' e1 e2
      cases h
      obtain ⟨h1, h2, h3, h4⟩ := c_gs G hW e2
      obtain ⟨k1, k2, k3⟩ := c_nm G e1
      refine ⟨d_gcons hW (d_gnm G.nd k1 k2 k3) h1 rfl, ?_, ?_, fun g hg => ?_⟩
      · show (assignEach r X.env).length + 1 = gs'.length + 1
        rw [h2]
      · show ((false, assign (.Name x p) X.env) :: assignEach r X.env).findIdx? (·.1) = none
        rw [List.findIdx?_cons]
        simp [h3]
      · rcases List.mem_cons.mp hg with rfl | hg
        · exact tame_nm
        · exact h4 g hg
    · cases h
theorem c_g (G : Good n X ce) (hW : Flat W) {t : Expr} {g : FG} {ch : List Nat} (h : cG ce t = some (g, ch)) : PG X t (tG X.K X.mw W ch g) ∧ (assignEach [t] X.env).map (·.2) = [assign t X.env] := by
  unfold cG at h
  split at h
  · obtain ⟨i, e1, e2⟩ := Option.map_eq_some_iff.mp h
    cases e2
    obtain ⟨k1, k2, k3⟩ := c_nm G e1
    exact ⟨d_gnm G.nd k1 k2 k3, rfl⟩
  · obtain ⟨q, e1, e2⟩ := Option.map_eq_some_iff.mp h
    cases e2
    obtain ⟨h1, h2, h3, h4⟩ := c_gs G hW e1
    exact ⟨d_gtp G.calm h4 h1 h2 h3, rfl⟩
  · cases h

/-! ### what is walked -/
def isTup : Expr → Bool
  | .Tuple .. => true
  | _ => false
def isFree (ce : CEnv) (x : Str) : Bool := isGl ce.sc x && (match ce.gl x with
  | some .free => true
  | _ => false)
theorem free_ok (G : Good n X ce) {x : Str} (h : isFree ce x = true) : Gl X x ∧ X.mg x = none := by
  unfold isFree at h
  rw [Bool.and_eq_true] at h
  refine ⟨G.gx h.1, ?_⟩
  have h2 := h.2
  split at h2
  · rename_i e; exact G.gl _ _ e
  · cases h2
inductive ItK where
  | rg1 (a : Expr) | rg2 (a b : Expr) | en (a : Expr) | zp (a b : Expr) | sq
def itK (ce : CEnv) (tg : Expr) : Expr → ItK
  | .Call (.Name x _) [a] [] _ => if x = "range" ∧ isFree ce "range" = true then .rg1 a else if x = "enumerate" ∧ isFree ce "enumerate" = true ∧ isTup tg = true then .en a else .sq
  | .Call (.Name x _) [a, b] [] _ => if x = "range" ∧ isFree ce "range" = true then .rg2 a b else if x = "zip" ∧ isFree ce "zip" = true ∧ isTup tg = true then .zp a b else .sq
  | _ => .sq
def cI (ce : CEnv) (f : Expr → Option FE) (tg it : Expr) : Option FI := match itK ce tg it with
  | .rg1 a => (cArgs f [a]).map iRg
  | .rg2 a b => (cArgs f [a, b]).map iRg
  | .en a => (cArgs f [a]).map iEn
  | .zp a b => (cArgs f [a, b]).map iZp
  | .sq => (f it).map iSeq
theorem itK_rg1 {tg it a : Expr} (h : itK ce tg it = .rg1 a) : ∃ p q, it = .Call (.Name "range" p) [a] [] q ∧ isFree ce "range" = true := by
  unfold itK at h
  split at h
  · split at h
    · rename_i e; cases h; rw [e.1]; exact ⟨_, _, rfl, e.2⟩
    · split at h <;> cases h
  · split at h
    · cases h
    · split at h <;> cases h
  · cases h
theorem itK_rg2 {tg it a b : Expr} (h : itK ce tg it = .rg2 a b) : ∃ p q, it = .Call (.Name "range" p) [a, b] [] q ∧ isFree ce "range" = true := by
  unfold itK at h
  split at h
  · split at h
    · cases h
    · split at h <;> cases h
  · split at h
    · rename_i e; cases h; rw [e.1]; exact ⟨_, _, rfl, e.2⟩
    · split at h <;> cases h
  · cases h
theorem itK_en {tg it a : Expr} (h : itK ce tg it = .en a) : ∃ p q, it = .Call (.Name "enumerate" p) [a] [] q ∧ isFree ce "enumerate" = true ∧ isTup tg = true := by
  unfold itK at h
  split at h
  · split at h
    · cases h
    · split at h
      · rename_i e; cases h; rw [e.1]; exact ⟨_, _, rfl, e.2⟩
      · cases h
  · split at h
    · cases h
    · split at h <;> cases h
  · cases h
theorem itK_zp {tg it a b : Expr} (h : itK ce tg it = .zp a b) : ∃ p q, it = .Call (.Name "zip" p) [a, b] [] q ∧ isFree ce "zip" = true ∧ isTup tg = true := by
  unfold itK at h
  split at h
  · split at h
    · cases h
    · split at h <;> cases h
  · split at h
    · cases h
    · split at h
      · rename_i e; cases h; rw [e.1]; exact ⟨_, _, rfl, e.2⟩
      · cases h
  · cases h
theorem star1 {a : Expr} {env : PySem.Env} (h : noStar a = true) : starEach [a] env = [(false, eval a env)] := star_cons h
theorem c_i (G : Good n X ce) {f : Expr → Option FE} (hf : ∀ e fe, f e = some fe → PE X e (tE X.K X.mw W fe)) {tg it : Expr} {fi : FI} (h : cI ce f tg it = some fi) : PI X tg it (tI X.K X.mw W fi) := by
  unfold cI at h
  split at h
  · rename_i a e
    obtain ⟨p, q, rfl, hfr⟩ := itK_rg1 e
    obtain ⟨fa, e1, rfl⟩ := Option.map_eq_some_iff.mp h
    obtain ⟨q1, q2, q3⟩ := c_args hf e1
    rw [List.all_cons, Bool.and_eq_true] at q3
    obtain ⟨g1, g2⟩ := free_ok G hfr
    exact d_irg1 g1 g2 q1 q2 (star1 q3.1)
  · rename_i a b e
    obtain ⟨p, q, rfl, hfr⟩ := itK_rg2 e
    obtain ⟨fa, e1, rfl⟩ := Option.map_eq_some_iff.mp h
    obtain ⟨q1, q2, q3⟩ := c_args hf e1
    rw [List.all_cons, List.all_cons, Bool.and_eq_true, Bool.and_eq_true] at q3
    obtain ⟨g1, g2⟩ := free_ok G hfr
    exact d_irg2 g1 g2 q1 q2 (by rw [star_cons q3.1, star1 q3.2.1]) (star1 q3.2.1)
  · rename_i a e
    obtain ⟨p, q, rfl, hfr, ht⟩ := itK_en e
    obtain ⟨fa, e1, rfl⟩ := Option.map_eq_some_iff.mp h
    obtain ⟨q1, q2, q3⟩ := c_args hf e1
    rw [List.all_cons, Bool.and_eq_true] at q3
    obtain ⟨g1, g2⟩ := free_ok G hfr
    cases tg <;> first | exact d_ien g1 g2 q1 (star1 q3.1) | cases ht
  · rename_i a b e
    obtain ⟨p, q, rfl, hfr, ht⟩ := itK_zp e
    obtain ⟨fa, e1, rfl⟩ := Option.map_eq_some_iff.mp h
    obtain ⟨q1, q2, q3⟩ := c_args hf e1
    rw [List.all_cons, List.all_cons, Bool.and_eq_true, Bool.and_eq_true] at q3
    obtain ⟨g1, g2⟩ := free_ok G hfr
    cases tg <;> first | exact d_izp g1 g2 q1 (star_cons q3.1) (star_any (by rw [List.all_cons, q3.2.1]; rfl)) | cases ht
  · obtain ⟨fe, e1, rfl⟩ := Option.map_eq_some_iff.mp h
    exact d_iseq (hf _ _ e1)

/-! ### comprehensions -/
def ownOf (N : List Str) : List (Str × NameKind) → List (Str × Nat)
  | [] => []
  | (x, k) :: r => if k = .local ∨ k = .cell then (match ixOf N x with
    | some i => (x, i) :: ownOf N r
    | none => ownOf N r) else ownOf N r
def CEnv.blk (ce : CEnv) (scope : Scope) : CEnv := { ce with sc := relS scope ce.sc, st := fun x => decide (scope.names.lookup x = some .local) }
theorem good_blk (G : Good n X ce) {scope : Scope} (hk : scope.kind = .function) (s : Shared) (H : Hp) (C : Addr) (cl : List (Str × Addr)) (fp : List Addr) : Good n (X.blk s H scope (compEnvC scope cl C X.env) fp) (ce.blk scope) := by
  have hsc : (compEnvC scope cl C X.env).scope = relS scope ce.sc := by rw [← G.sc]; rfl
  refine ⟨G.N, G.nd, hsc, hk, fun x hx => ?_, G.calm, G.rm, fun x g hg => ?_⟩
  · have e : scope.names.lookup x = some .local := of_decide_eq_true hx
    have e2 : (relS scope ce.sc).names.lookup x = some .local := lookup_relS_keep (by decide) e
    refine ⟨.inl ?_, .inr ?_⟩
    · show (compEnvC scope cl C X.env).scope.names.lookup x = some .local
      rw [hsc]; exact e2
    · show (compEnvC scope cl C X.env).scope.names.lookup x = some .local
      rw [hsc]; exact e2
  · have := G.gl x g hg
    cases g with
    | cst d => exact this
    | free => exact this
    | fn dfl shs => exact this
def cIfs (t : Expr → Option FT) : List Expr → Option FT
  | [] => some tYes'
  | [c] => t c
  | _ => none
def cLc (R : RC) (ce : CEnv) (elt : Expr) (gens : List Comprehension) (scope : Scope) : Option (FE × List (Str × Nat)) := match gens with
  | [⟨tg, it, ifs, asy⟩] =>
    if asy = 0 ∧ scope.kind = .function ∧ blkC ce.N ce.sc scope (ownOf ce.N scope.names) = true ∧ noSet it = true then
      (match cI ce (R ce).1 tg it, cG (ce.blk scope) tg, cIfs (R (ce.blk scope)).2 ifs, (R (ce.blk scope)).1 elt with
      | some fi, some (g, ch), some t, some e => if ch.all (fun j => ((ownOf ce.N scope.names).map (·.2)).contains j) = true then some (eLc ((ownOf ce.N scope.names).map (·.2)) fi g t e, ownOf ce.N scope.names) else none
      | _, _, _, _ => none)
    else none
  | _ => none
/-- a compiler that tells the truth -/
def Snd (n : Nat) (R : RC) : Prop := ∀ (ce : CEnv) (X : Cx) (W : WX), Good n X ce → Takes X W → (∀ e fe, (R ce).1 e = some fe → PE X e (tE X.K X.mw W fe)) ∧ ∀ e ft, (R ce).2 e = some ft → PT X e (tT X.K X.mw W ft)
theorem takes0 {X : Cx} : Takes X W0 := fun _ _ x => by
  obtain ⟨a, B, sI, pins, σ, H, cls, d, e, I, nb, up, sky, na, os, ag, w⟩ := x
  exact False.elim w
theorem c_ifs {t : Expr → Option FT} (ht : ∀ e ft, t e = some ft → PT X e (tT X.K X.mw W ft)) {ifs : List Expr} {ft : FT} (h : cIfs t ifs = some ft) : PTs X ifs (tT X.K X.mw W ft) := by
  unfold cIfs at h
  split at h
  · cases h
    refine ⟨fun pins s σ H Q I q => pts_nil.run pins s σ H Q I ?_⟩
    obtain ⟨env, S, o, ⟨rfl, re, rs⟩, p⟩ := q
    exact p.here rs
  · exact pts_one (ht _ _ h)
  · cases h
/-- the parts of a comprehension -/
theorem lc_parts {R : RC} (hR : Snd n R) (G : Good n X ce) (tk : Takes X W) {elt : Expr} {gens : List Comprehension} {scope : Scope} {fe : FE} {own : List (Str × Nat)} (h : cLc R ce elt gens scope = some (fe, own)) :
    ∃ tg it ifs fi g ch t e, gens = [⟨tg, it, ifs, 0⟩] ∧ fe = eLc (own.map (·.2)) fi g t e ∧ (∀ j ∈ ch, j ∈ own.map (·.2)) ∧ BlkOk X.N X.env.scope scope own ∧ PI X tg it (tI X.K X.mw W fi) ∧
      (∀ s H C cl fp, PG (X.blk s H scope (compEnvC scope cl C X.env) fp) tg (tG X.K X.mw W0 ch g)) ∧ (∀ s H C cl fp, PTs (X.blk s H scope (compEnvC scope cl C X.env) fp) ifs (tT X.K X.mw W0 t)) ∧
      (∀ s H C cl fp, PE (X.blk s H scope (compEnvC scope cl C X.env) fp) elt (tE X.K X.mw W0 e)) ∧ ∀ x, foldedSetIterable it X.env x = pure x := by
  unfold cLc at h
  split at h
  · rename_i tg it ifs asy
    split at h
    · rename_i hc
      split at h
      · rename_i fi g ch t e e1 e2 e3 e4
        split at h
        · rename_i hch
          cases h
          obtain ⟨ha, hk, hb, hs⟩ := hc
          subst ha
          have hB : BlkOk X.N X.env.scope scope (ownOf ce.N scope.names) := by rw [G.N, G.sc]; exact blkOk_by hb
          refine ⟨tg, it, ifs, fi, g, ch, t, e, rfl, rfl, fun j hj => ?_, hB, c_i G (hR ce X W G tk).1 e1, fun s H C cl fp => ?_, fun s H C cl fp => ?_, fun s H C cl fp => ?_, noSet_fold hs X.env⟩
          · exact List.contains_iff_mem.mp (List.all_eq_true.mp hch j hj)
          · exact (c_g (good_blk G hk s H C cl fp) flat0 e2).1
          · exact c_ifs (hR _ _ _ (good_blk G hk s H C cl fp) takes0).2 e3
          · exact (hR _ _ _ (good_blk G hk s H C cl fp) takes0).1 _ _ e4
        · cases h
      · cases h
    · cases h
  · cases h
theorem c_lc {R : RC} (hR : Snd n R) (G : Good n X ce) (tk : Takes X W) {elt : Expr} {gens : List Comprehension} {scope : Scope} {fe : FE} {own : List (Str × Nat)} (h : cLc R ce elt gens scope = some (fe, own)) :
    PE X (.ListComp elt gens scope pos) (tE X.K X.mw W fe) := by
  obtain ⟨tg, it, ifs, fi, g, ch, t, e, rfl, rfl, hch, hB, h1, h2, h3, h4, h5⟩ := lc_parts hR G tk h
  exact PE.imp (pe_lc G.calm G.nd h1 hB h2 h3 h4 h5) fun σ H Q q => lc_read hch q
/-- name = [..] where the model stores within -/
theorem c_setlc {R : RC} (hR : Snd n R) (G : Good n X ce) (tk : Takes X W) {elt : Expr} {gens : List Comprehension} {scope : Scope} {fe : FE} {own : List (Str × Nat)} {i : Nat} {y : Str} {py spos : Pos} (h : cLc R ce elt gens scope = some (fe, own))
    (hy : X.N[i]? = some y) (hyl : X.env.scope.names.lookup y = some .local) (hsw : swapsWith (.ListComp elt gens scope pos) (some (.Name y py)) spos.line X.env = pure true) :
    PS X (.Assign [.Name y py] (.ListComp elt gens scope pos) spos) (tS X.K X.mw W (sAsg fe (gNm i))) := by
  obtain ⟨tg, it, ifs, fi, g, ch, t, e, rfl, rfl, hch, hB, h1, h2, h3, h4, h5⟩ := lc_parts hR G tk h
  refine PS.imp (ps_setLc G.calm G.nd hy hyl hsw h1 hB h2 h3 h4 h5) fun D' σ H q => ?_
  refine lc_read hch (Q := fun x H1 => D'.nx (σ.set i (some x)) H1) ?_
  obtain ⟨env, S, o, ⟨rfl, re, rs⟩, p⟩ := q
  exact ⟨env, S, o, ⟨rfl, re, rs⟩, (Post.bind p).imp fun d S1 o1 l1 rs1 p1 v r => (Post.here p1 rs1) _ ((re.up l1).set i r)⟩
end
end PV

set_option Elab.async false
set_option linter.all false
set_option maxRecDepth 100000
set_option maxHeartbeats 3999000
namespace PV
open L2 PyProof.Rows PySem PySem.Spec

/-! ### expressions and tests, one step -/
def cOpt (f : Expr → Option FE) : Option Expr → Option FO
  | none => some oNone
  | some e => (f e).map oSome
def isSlice : Expr → Bool
  | .Slice .. => true
  | _ => false
def cSub (f : Expr → Option FE) (a : Expr) : Expr → Option FE
  | .Slice lo hi none _ => (match f a, cOpt f lo, cOpt f hi with
    | some fa, some fl, some fh => some (eSl fa fl fh)
    | _, _, _ => none)
  | .Slice none none (some k) _ => (match f a, f k with
    | some fa, some fk => some (eRev fa fk)
    | _, _ => none)
  | b => if isSlice b = true then none else (match f a, f b with
    | some fa, some fb => some (eBin ixDD fa fb)
    | _, _ => none)
def cUn (f : Expr → Option FE) : UnaryOp → Expr → Option FE
  | .USub, a => (f a).map (eUn negD)
  | .Not, a => (f a).map eNot
  | _, _ => none
def cConst : Const → Option FE
  | .int i => some (eC (.int i))
  | .bool b => some (eC (.bl b))
  | .none => some (eC .non)
  | .str x => some (eC (.str x))
  | _ => none
def cCall (ce : CEnv) (f : Expr → Option FE) (fn : Expr) (es : List Expr) (ks : List Keyword) (pos : Pos) : Option FE := match fn with
  | .Name x _ => cCallN ce f x es ks
  | .Attribute o m apos => (match ks with
    | [] => cMeth f o m apos pos es
    | _ => none)
  | _ => none
def cE1 (R : RC) (ce : CEnv) : Expr → Option FE
  | .Constant c _ _ => cConst c
  | .Name x _ => cName ce x
  | .BinOp a op b _ => (match binOf op, (R ce).1 a, (R ce).1 b with
    | some g, some fa, some fb => some (eBin g fa fb)
    | _, _, _ => none)
  | .UnaryOp op a _ => cUn (R ce).1 op a
  | .BoolOp op es _ => cBoolE (R ce).1 op es
  | .Compare a ops bs _ => cCmp (R ce).1 a ops bs
  | .IfExp c a b _ => (match (R ce).2 c, (R ce).1 a, (R ce).1 b with
    | some t, some fa, some fb => some (eIfx t fa fb)
    | _, _, _ => none)
  | .Tuple es _ _ => if es.length ≤ 1000 then (cArgs (R ce).1 es).map eTup else none
  | .List es _ => if es.length ≤ 1000 then (cArgs (R ce).1 es).map eLst else none
  | .Subscript a b _ => cSub (R ce).1 a b
  | .Call fn es ks pos => cCall ce (R ce).1 fn es ks pos
  | .ListComp elt gens scope _ => (cLc R ce elt gens scope).map (·.1)
  | .Dict [] [] _ => some eDn
  | _ => none
def plainT : Expr → Bool
  | .UnaryOp .Not .. => false
  | .BoolOp .. => false
  | .IfExp .. => false
  | .Compare .. => false
  | _ => true
def cT1 (R : RC) (ce : CEnv) (e : Expr) : Option FT := match e with
  | .UnaryOp .Not a _ => ((R ce).2 a).map tNotF
  | .BoolOp op es _ => cBoolT (R ce).2 op es
  | .Compare a ops bs _ => (cCmp (R ce).1 a ops bs).map tB'
  | e => if plainT e = true then ((R ce).1 e).map tVal else none
def comp : Nat → RC
  | 0 => fun _ => (fun _ => none, fun _ => none)
  | k + 1 => fun ce => (cE1 (comp k) ce, cT1 (comp k) ce)
section
variable {X : Cx} {W : WX} {n : Nat} {ce : CEnv} {pos : Pos}
theorem plain_ok {e : Expr} (h : plainT e = true) (env : PySem.Env) (wh : Sem Value) : isTrue e env wh = (do let v ← wh; standAt e.pos; holding [v] (truthy v)) := by
  cases e with
  | UnaryOp op a p => cases op <;> first | rfl | cases h
  | _ => first | rfl | cases h
theorem c_opt {f : Expr → Option FE} (hf : ∀ e fe, f e = some fe → PE X e (tE X.K X.mw W fe)) {o : Option Expr} {fo : FO} (h : cOpt f o = some fo) : PO X o (tOi X.K X.mw W fo) := by
  cases o with
  | none => cases h; exact d_onone
  | some e =>
    obtain ⟨fe, e1, rfl⟩ := Option.map_eq_some_iff.mp (show (f e).map oSome = some fo from h)
    exact d_osome (hf _ _ e1)
theorem plainIx {b : Expr} (h : isSlice b = false) : PlainIx b := by
  intro o i
  cases b <;> first | rfl | cases h
theorem c_sub (hu : X.A.units + 65 < cLine) {f : Expr → Option FE} (hf : ∀ e fe, f e = some fe → PE X e (tE X.K X.mw W fe)) {a b : Expr} {fe : FE} (h : cSub f a b = some fe) : PE X (.Subscript a b pos) (tE X.K X.mw W fe) := by
  unfold cSub at h
  split at h
  · split at h
    · rename_i fa fl fh e1 e2 e3
      cases h
      exact d_sl (hf _ _ e1) (c_opt hf e2) (c_opt hf e3)
    · cases h
  · split at h
    · rename_i fa fk e1 e2
      cases h
      exact d_rev (hf _ _ e1) (hf _ _ e2)
    · cases h
  · split at h
    · cases h
    · rename_i hs
      split at h
      · rename_i fa fb e1 e2
        cases h
        exact d_ix (hf _ _ e1) (hf _ _ e2) (plainIx (by simpa using hs)) hu
      · cases h
theorem c_un {f : Expr → Option FE} (hf : ∀ e fe, f e = some fe → PE X e (tE X.K X.mw W fe)) {op : UnaryOp} {a : Expr} {fe : FE} (h : cUn f op a = some fe) : PE X (.UnaryOp op a pos) (tE X.K X.mw W fe) := by
  unfold cUn at h
  split at h
  · obtain ⟨fa, e1, rfl⟩ := Option.map_eq_some_iff.mp h
    exact d_un und_neg (hf _ _ e1)
  · obtain ⟨fa, e1, rfl⟩ := Option.map_eq_some_iff.mp h
    exact d_not (hf _ _ e1)
  · cases h
theorem c_const {c : Const} {k : Nat} {fe : FE} (h : cConst c = some fe) : PE X (.Constant c k pos) (tE X.K X.mw W fe) := by
  unfold cConst at h
  split at h
  · cases h; exact d_c pe_int fun _ => .int _
  · cases h; exact d_c pe_bl fun _ => .bl _
  · cases h; exact d_c pe_non fun _ => .non
  · cases h; exact d_c pe_str fun _ => .str _
  · cases h
theorem le_line {k : Nat} (h : k ≤ 1000) : k ≤ sizeLine := Nat.le_trans h (by decide)
theorem c_e1 {R : RC} (hR : Snd n R) (G : Good n X ce) (tk : Takes X W) {e : Expr} {fe : FE} (h : cE1 R ce e = some fe) : PE X e (tE X.K X.mw W fe) := by
  obtain ⟨hf, ht⟩ := hR ce X W G tk
  unfold cE1 at h
  split at h
  · exact c_const h
  · exact c_name G h
  · split at h
    · rename_i g fa fb e1 e2 e3
      cases h
      exact d_bin (c_bin e1) (hf _ _ e2) (hf _ _ e3)
    · cases h
  · exact c_un hf h
  · exact c_boolE hf h
  · exact (c_cmpE G hf h).1
  · split at h
    · rename_i t fa fb e1 e2 e3
      cases h
      exact d_ifx (ht _ _ e1) (hf _ _ e2) (hf _ _ e3)
    · cases h
  · split at h
    · rename_i hl
      obtain ⟨fa, e1, rfl⟩ := Option.map_eq_some_iff.mp h
      obtain ⟨q1, q2, _⟩ := c_args hf e1
      exact d_tup q1 q2 (le_line hl)
    · cases h
  · split at h
    · rename_i hl
      obtain ⟨fa, e1, rfl⟩ := Option.map_eq_some_iff.mp h
      obtain ⟨q1, q2, _⟩ := c_args hf e1
      exact d_lst q1 q2 (le_line hl)
    · cases h
  · exact c_sub (by have := G.rm.un; omega) hf h
  · unfold cCall at h
    split at h
    · exact c_callN G tk hf h
    · split at h
      · exact c_meth hf h
      · cases h
    · cases h
  · obtain ⟨q, e1, rfl⟩ := Option.map_eq_some_iff.mp h
    exact c_lc hR G tk (own := q.2) e1
  · cases h; exact d_dnew
  · cases h
theorem c_t1 {R : RC} (hR : Snd n R) (G : Good n X ce) (tk : Takes X W) {e : Expr} {ft : FT} (h : cT1 R ce e = some ft) : PT X e (tT X.K X.mw W ft) := by
  obtain ⟨hf, ht⟩ := hR ce X W G tk
  unfold cT1 at h
  split at h
  · obtain ⟨fa, e1, rfl⟩ := Option.map_eq_some_iff.mp h
    exact d_tnot (ht _ _ e1)
  · exact (c_boolT ht h).pt
  · obtain ⟨fa, e1, rfl⟩ := Option.map_eq_some_iff.mp h
    exact (c_cmpE G hf e1).2
  · split at h
    · rename_i hp
      obtain ⟨fa, e1, rfl⟩ := Option.map_eq_some_iff.mp h
      exact d_tval (hf _ _ e1) (plain_ok hp X.env)
    · cases h
theorem comp_snd (n : Nat) : ∀ k, Snd n (comp k)
  | 0 => fun ce X W G tk => ⟨fun e fe h => (by cases h), fun e ft h => (by cases h)⟩
  | k + 1 => fun ce X W G tk => ⟨fun e fe h => c_e1 (comp_snd n k) G tk h, fun e ft h => c_t1 (comp_snd n k) G tk h⟩

/-! ### statements -/
def sStk : FS := fun _ _ => .stk
def noComp : Expr → Bool
  | .ListComp .. => false
  | .SetComp .. => false
  | .DictComp .. => false
  | _ => true
theorem noComp_sw {e : Expr} (h : noComp e = true) (t : Option Expr) (l : Nat) (env : PySem.Env) : swapsWith e t l env = pure false := by
  cases e <;> first | rfl | cases h
/-- both sides written, two plain local names on one line: the stores go from the right -/
def parB (sc : Scope) (x y : Str) (px py : Pos) (a b : Expr) : Bool :=
  decide (sc.names.lookup x = some .local) && decide (sc.names.lookup y = some .local) && (py.line == px.line) && !(x == y) && noStar a && noStar b && !([a, b].all (foldedForSure 8)) && !([a, b].all (constantsAlone 8))
theorem par_ok (G : Good n X ce) {x y : Str} {px py pt pt2 : Pos} {kt k2 : Nat} {a b : Expr} (h : parB ce.sc x y px py a b = true) :
    swappedStores [.Tuple [.Name x px, .Name y py] kt pt] (.Tuple [a, b] k2 pt2) X.env = pure (some [x, y]) := by
  unfold parB at h
  simp only [Bool.and_eq_true, decide_eq_true_eq, Bool.not_eq_true'] at h
  obtain ⟨⟨⟨⟨⟨⟨⟨h1, h2⟩, h3⟩, h4⟩, h5⟩, h6⟩, h7⟩, h8⟩ := h
  have hb : X.env.blockKind = .function := by unfold PySem.Env.blockKind; rw [G.sc, G.kind]; rfl
  have kx : X.env.kindOf x = some .local := by show X.env.scope.names.lookup x = _; rw [G.sc]; exact h1
  have ky : X.env.kindOf y = some .local := by show X.env.scope.names.lookup y = _; rw [G.sc]; exact h2
  have hxy : x ≠ y := fun e => by rw [e] at h4; simp at h4
  have hd : [x, y].eraseDups.length = 2 := by
    have : (y == x) = false := by rw [beq_eq_false_iff_ne]; exact fun e => hxy e.symm
    simp [List.eraseDups_cons, this]
  unfold swappedStores
  simp only [List.length_cons, List.length_nil, hb, h7, h8, kx, ky, h3, List.filterMap_cons, List.filterMap_nil, List.head?_cons, Option.map_some, Option.getD_some, Expr.pos]
  simp [hd]
  intro h
  rcases h with h | h
  · exfalso
    cases a <;> first | exact absurd h Bool.false_ne_true | exact absurd h5 Bool.false_ne_true
  · exfalso
    cases b <;> first | exact absurd h Bool.false_ne_true | exact absurd h6 Bool.false_ne_true
def parB3 (sc : Scope) (x y z : Str) (px py pz : Pos) (a b c : Expr) : Bool :=
  decide (sc.names.lookup x = some .local) && decide (sc.names.lookup y = some .local) && decide (sc.names.lookup z = some .local) && (py.line == px.line) && (pz.line == px.line) && !(x == y) && !(x == z) && !(y == z) && noStar a && noStar b && noStar c && !([a, b, c].all (foldedForSure 8)) && !([a, b, c].all (constantsAlone 8))
theorem par3_ok (G : Good n X ce) {x y z : Str} {px py pz pt pt2 : Pos} {kt k2 : Nat} {a b c : Expr} (h : parB3 ce.sc x y z px py pz a b c = true) :
    swappedStores [.Tuple [.Name x px, .Name y py, .Name z pz] kt pt] (.Tuple [a, b, c] k2 pt2) X.env = pure (some [x, y, z]) := by
  unfold parB3 at h
  simp only [Bool.and_eq_true, decide_eq_true_eq, Bool.not_eq_true'] at h
  obtain ⟨⟨⟨⟨⟨⟨⟨⟨⟨⟨⟨⟨h1, h2⟩, h3⟩, l1⟩, l2⟩, n1⟩, n2⟩, n3⟩, s1⟩, s2⟩, s3⟩, h7⟩, h8⟩ := h
  have hb : X.env.blockKind = .function := by unfold PySem.Env.blockKind; rw [G.sc, G.kind]; rfl
  have kx : X.env.kindOf x = some .local := by show X.env.scope.names.lookup x = _; rw [G.sc]; exact h1
  have ky : X.env.kindOf y = some .local := by show X.env.scope.names.lookup y = _; rw [G.sc]; exact h2
  have kz : X.env.kindOf z = some .local := by show X.env.scope.names.lookup z = _; rw [G.sc]; exact h3
  have hxy : x ≠ y := fun e => by rw [e] at n1; simp at n1
  have hxz : x ≠ z := fun e => by rw [e] at n2; simp at n2
  have hyz : y ≠ z := fun e => by rw [e] at n3; simp at n3
  have hd : [x, y, z].eraseDups.length = 3 := by
    have e1 : (y == x) = false := by rw [beq_eq_false_iff_ne]; exact fun e => hxy e.symm
    have e2 : (z == x) = false := by rw [beq_eq_false_iff_ne]; exact fun e => hxz e.symm
    have e3 : (z == y) = false := by rw [beq_eq_false_iff_ne]; exact fun e => hyz e.symm
    simp [List.eraseDups_cons, e1, e2, e3]
  unfold swappedStores
  simp only [List.length_cons, List.length_nil, hb, h7, h8, kx, ky, kz, l1, l2, List.filterMap_cons, List.filterMap_nil, List.head?_cons, Option.map_some, Option.getD_some, Expr.pos]
  simp [hd]
  intro h
  rcases h with h | h | h
  · exfalso
    cases a <;> first | exact absurd h Bool.false_ne_true | exact absurd s1 Bool.false_ne_true
  · exfalso
    cases b <;> first | exact absurd h Bool.false_ne_true | exact absurd s2 Bool.false_ne_true
  · exfalso
    cases c <;> first | exact absurd h Bool.false_ne_true | exact absurd s3 Bool.false_ne_true
end
end PV

set_option Elab.async false
set_option linter.all false
set_option maxRecDepth 100000
set_option maxHeartbeats 3999000
namespace PV
open L2 PyProof.Rows PySem PySem.Spec

def augOf : Operator → Option (D → D → Sto → PR)
  | .Add => some iaddD
  | .Sub => some subD
  | _ => none
/-- y = [..]: stored within (true) or behind (false) -/
def swB (sc : Scope) (y : Str) (py vpos : Pos) (scope : Scope) : Bool :=
  decide (sc.names.lookup y = some .local) && (py.line == vpos.line) && !(scope.names.any fun (n, k) => n == y && (k == .local || k == .cell))
def cAsgN (R : RC) (ce : CEnv) (x : Str) (px : Pos) (v : Expr) : Option FS := match cNm ce x with
  | none => none
  | some i => (match v with
    | .ListComp elt gens scope vpos => (cLc R ce elt gens scope).map fun p => sAsg p.1 (gNm i)
    | e => if noComp e = true then ((R ce).1 e).map fun f => sAsg f (gNm i) else none)
inductive Par where
  | two (x : Str) (px : Pos) (y : Str) (py : Pos) (a b : Expr)
  | three (x : Str) (px : Pos) (y : Str) (py : Pos) (z : Str) (pz : Pos) (a b c : Expr)
def par2 (sc : Scope) (ts : List Expr) (v : Expr) : Option Par := match ts, v with
  | [.Name x px, .Name y py], .Tuple [a, b] _ _ => if parB sc x y px py a b = true then some (.two x px y py a b) else none
  | [.Name x px, .Name y py, .Name z pz], .Tuple [a, b, c] _ _ => if parB3 sc x y z px py pz a b c = true then some (.three x px y py z pz a b c) else none
  | _, _ => none
/-- no tuple is exchanged -/
def swNo (v : Expr) : Bool := match v with
  | .Tuple vs _ _ => vs.all (foldedForSure 8) && !(vs.any fun | .Starred .. => true | _ => false)
  | _ => true
def cAsgT (R : RC) (ce : CEnv) (ts : List Expr) (v : Expr) : Option FS := match par2 ce.sc ts v with
  | some (.two x _ y _ a b) => (match ixOf ce.N x, ixOf ce.N y, cArgs (R ce).1 [a, b] with
    | some i, some j, some fa => some (sPar i j fa)
    | _, _, _ => none)
  | some (.three x _ y _ z _ a b c) => (match ixOf ce.N x, ixOf ce.N y, ixOf ce.N z, cArgs (R ce).1 [a, b, c] with
    | some i, some j, some l, some fa => some (sPar3 i j l fa)
    | _, _, _, _ => none)
  | none => if isTup v = false ∧ noComp v = true then (match (R ce).1 v, cGs ce ts with
    | some f, some (gs, _) => some (sAsg f (gTp gs))
    | _, _ => none) else none
def cS1 (R : RC) (RS' : CEnv → List Stmt → Option FS) (ce : CEnv) : Stmt → Option FS
  | .Pass _ => some sNil
  | .Break _ => some sBrk
  | .Continue _ => some sCnt
  | .Expr e _ => if noComp e = true then ((R ce).1 e).map sExpr else none
  | .Return none _ => some sRetN
  | .Return (some e) _ => ((R ce).1 e).map sRet
  | .If c a b _ => (match (R ce).2 c, RS' ce a, RS' ce b with
    | some t, some f, some g => some (sIf t f g)
    | _, _, _ => none)
  | .Assign [.Name x px] v _ => cAsgN R ce x px v
  | .Assign [.Tuple ts _ _] v _ => cAsgT R ce ts v
  | .Assign [.Subscript o i _] v _ => if noComp v = true ∧ isSlice i = false then (match (R ce).1 v, (R ce).1 o, (R ce).1 i with
    | some f, some fo, some fi => some (sAsg f (gSb fo fi))
    | _, _, _ => none) else none
  | .AugAssign (.Name x _) op e _ => (match cNm ce x, augOf op, (R ce).1 e with
    | some i, some g, some f => some (sAug i g f)
    | _, _, _ => none)
  | .For tg it body [] _ => if noSet it = true then (match cI ce (R ce).1 tg it, cG ce tg, RS' ce body with
    | some fi, some (g, _), some f => some (sFor fi g f)
    | _, _, _ => none) else none
  | .While c body [] _ => (match (R ce).2 c, RS' ce body with
    | some t, some f => some (sWhile t f)
    | _, _ => none)
  | .Raise _ _ _ => some sStk
  | _ => none
def compS (kE : Nat) : Nat → CEnv → List Stmt → Option FS
  | 0, _, _ => none
  | k + 1, ce, [] => some sNil
  | k + 1, ce, st :: r => (match cS1 (comp kE) (compS kE k) ce st, compS kE k ce r with
    | some f, some g => some (sSeq f g)
    | _, _ => none)
section
variable {X : Cx} {W : WX} {n : Nat} {ce : CEnv} {pos : Pos}
theorem c_aug {op : Operator} {g : D → D → Sto → PR} (h : augOf op = some g) : OpD X (inplaceOp op) g := by
  cases op <;> cases h
  · exact iop_add
  · exact iop_sub
theorem noComp_sole {e : Expr} (h : noComp e = true) (t : Expr) (l : Nat) (env : PySem.Env) : swapsWithSole [t] e l env = pure false := noComp_sw h (some t) l env
theorem sw_nm {x : Str} {px : Pos} {e : Expr} {env : PySem.Env} : swappedStores [.Name x px] e env = pure none := by
  cases e <;> rfl
theorem sw_sub {o i : Expr} {p : Pos} {e : Expr} {env : PySem.Env} : swappedStores [.Subscript o i p] e env = pure none := by
  cases e <;> rfl
theorem sw_tup {ts : List Expr} {k : Nat} {p : Pos} {e : Expr} {env : PySem.Env} (h : isTup e = false) : swappedStores [.Tuple ts k p] e env = pure none := by
  cases e <;> first | rfl | cases h
theorem sw_lc (G : Good n X ce) {elt : Expr} {gens : List Comprehension} {scope : Scope} {vpos py : Pos} {y : Str} {l : Nat} : swapsWith (.ListComp elt gens scope vpos) (some (.Name y py)) l X.env = pure (swB ce.sc y py vpos scope) := by
  have hb : X.env.blockKind = .function := by unfold PySem.Env.blockKind; rw [G.sc, G.kind]; rfl
  have hk : X.env.kindOf y = ce.sc.names.lookup y := by show X.env.scope.names.lookup y = _; rw [G.sc]
  unfold swapsWith swB
  simp only [hb, hk, Expr.pos]
  congr 1
  have e : (ce.sc.names.lookup y == some NameKind.local) = decide (ce.sc.names.lookup y = some .local) := by
    by_cases q : ce.sc.names.lookup y = some .local
    · rw [q]; rfl
    · rw [decide_eq_false q]; exact beq_eq_false_iff_ne.mpr q
  rw [e]
  simp
theorem c_asgN {R : RC} (hR : Snd n R) (G : Good n X ce) (tk : Takes X W) (hW : Flat W) {x : Str} {px : Pos} {v : Expr} {f : FS} (h : cAsgN R ce x px v = some f) : PS X (.Assign [.Name x px] v pos) (tS X.K X.mw W f) := by
  unfold cAsgN at h
  split at h
  · cases h
  · rename_i i e
    obtain ⟨k1, k2, k3⟩ := c_nm G e
    split at h
    · rename_i elt gens scope vpos
      obtain ⟨q, e1, rfl⟩ := Option.map_eq_some_iff.mp h
      have hsw := sw_lc G (elt := elt) (gens := gens) (scope := scope) (vpos := vpos) (py := px) (y := x) (l := pos.line)
      cases hb : swB ce.sc x px vpos scope with
      | true =>
        rw [hb] at hsw
        have hl : X.env.scope.names.lookup x = some .local := by
          unfold swB at hb
          simp only [Bool.and_eq_true, decide_eq_true_eq] at hb
          rw [G.sc]; exact hb.1.1
        exact c_setlc hR G tk (own := q.2) e1 k1 hl hsw
      | false =>
        rw [hb] at hsw
        exact d_asg (c_lc hR G tk (own := q.2) e1) (d_gnm G.nd k1 k2 k3) hsw sw_nm rfl
    · split at h
      · rename_i hc
        obtain ⟨f', e1, rfl⟩ := Option.map_eq_some_iff.mp h
        exact d_asg ((hR ce X W G tk).1 _ _ e1) (d_gnm G.nd k1 k2 k3) (noComp_sole hc _ _ _) sw_nm rfl
      · cases h
theorem par2_ok {ts : List Expr} {v : Expr} {x y : Str} {px py : Pos} {a b : Expr} {sc : Scope} (h : par2 sc ts v = some (.two x px y py a b)) : ts = [.Name x px, .Name y py] ∧ (∃ k p, v = .Tuple [a, b] k p) ∧ parB sc x y px py a b = true := by
  unfold par2 at h
  split at h
  · split at h
    · rename_i hb; cases h; exact ⟨rfl, ⟨_, _, rfl⟩, hb⟩
    · cases h
  · split at h <;> cases h
  · cases h
theorem par2_ok3 {ts : List Expr} {v : Expr} {x y z : Str} {px py pz : Pos} {a b c : Expr} {sc : Scope} (h : par2 sc ts v = some (.three x px y py z pz a b c)) : ts = [.Name x px, .Name y py, .Name z pz] ∧ (∃ k p, v = .Tuple [a, b, c] k p) ∧ parB3 sc x y z px py pz a b c = true := by
  unfold par2 at h
  split at h
  · split at h <;> cases h
  · split at h
    · rename_i hb; cases h; exact ⟨rfl, ⟨_, _, rfl⟩, hb⟩
    · cases h
  · cases h
theorem c_asgT {R : RC} (hR : Snd n R) (G : Good n X ce) (tk : Takes X W) (hW : Flat W) {ts : List Expr} {k : Nat} {p : Pos} {v : Expr} {f : FS} (h : cAsgT R ce ts v = some f) : PS X (.Assign [.Tuple ts k p] v pos) (tS X.K X.mw W f) := by
  unfold cAsgT at h
  split at h
  · rename_i x px y py a b e
    obtain ⟨rfl, ⟨kt, pt, rfl⟩, hb⟩ := par2_ok e
    split at h
    · rename_i i j fa e1 e2 e3
      cases h
      obtain ⟨q1, _, _⟩ := c_args (hR ce X W G tk).1 e3
      have hp := par_ok G (pt := p) (pt2 := pt) (kt := k) (k2 := kt) hb
      unfold parB at hb
      simp only [Bool.and_eq_true, decide_eq_true_eq, Bool.not_eq_true'] at hb
      obtain ⟨⟨⟨⟨⟨⟨⟨h1, h2⟩, h3⟩, h4⟩, h5⟩, h6⟩, h7⟩, h8⟩ := hb
      have i1 : X.N[i]? = some x := by rw [G.N]; exact ixOf_get e1
      have i2 : X.N[j]? = some y := by rw [G.N]; exact ixOf_get e2
      refine d_par G.calm G.nd i1 i2 (fun z => ?_) (by rw [G.sc]; exact h1) (by rw [G.sc]; exact h2) q1 hp rfl
      subst z
      rw [i1] at i2
      cases i2
      simp at h4
    · cases h
  · rename_i x px y py z pz a b c e
    obtain ⟨rfl, ⟨kt, pt, rfl⟩, hb⟩ := par2_ok3 e
    split at h
    · rename_i i j l fa e1 e2 e3 e4
      cases h
      obtain ⟨q1, _, _⟩ := c_args (hR ce X W G tk).1 e4
      have hp := par3_ok G (pt := p) (pt2 := pt) (kt := k) (k2 := kt) hb
      unfold parB3 at hb
      simp only [Bool.and_eq_true, decide_eq_true_eq, Bool.not_eq_true'] at hb
      obtain ⟨⟨⟨⟨⟨⟨⟨⟨⟨⟨⟨⟨h1, h2⟩, h3⟩, l1⟩, l2⟩, n1⟩, n2⟩, n3⟩, s1⟩, s2⟩, s3⟩, h7⟩, h8⟩ := hb
      have i1 : X.N[i]? = some x := by rw [G.N]; exact ixOf_get e1
      have i2 : X.N[j]? = some y := by rw [G.N]; exact ixOf_get e2
      have i3 : X.N[l]? = some z := by rw [G.N]; exact ixOf_get e3
      refine d_par3 G.calm G.nd i1 i2 i3 (fun q => ?_) (fun q => ?_) (fun q => ?_) (by rw [G.sc]; exact h1) (by rw [G.sc]; exact h2) (by rw [G.sc]; exact h3) q1 hp
      · subst q
        rw [i1] at i2
        cases i2
        simp at n1
      · subst q
        rw [i1] at i3
        cases i3
        simp at n2
      · subst q
        rw [i2] at i3
        cases i3
        simp at n3
    · cases h
  · split at h
    · rename_i hc
      split at h
      · rename_i f' gs ch e1 e2
        cases h
        obtain ⟨g1, g2, g3, g4⟩ := c_gs G hW e2
        exact d_asg ((hR ce X W G tk).1 _ _ e1) (d_gtp G.calm g4 g1 g2 g3) (noComp_sole hc.2 _ _ _) (sw_tup hc.1) rfl
      · cases h
    · cases h
theorem asg_sub {a b : Expr} {p : Pos} (h : isSlice b = false) {ta tb : TE} {t : TSet} (ha : PE X a ta) (hb : PE X b tb) (hs : PSet X t) : PG X (.Subscript a b p) (gSub ta tb t) :=
  pg_sub ha hb hs fun v => by cases b <;> first | rfl | cases h
theorem c_s1 {R : RC} {RS' : CEnv → List Stmt → Option FS} (hR : Snd n R) (G : Good n X ce) (tk : Takes X W) (hW : Flat W) (hp : PassesOwn (model X.prog X.w) X.A X.env X.xe) (hS : ∀ ss f, RS' ce ss = some f → PSs X ss (tS X.K X.mw W f)) {st : Stmt} {f : FS} (h : cS1 R RS' ce st = some f) : PS X st (tS X.K X.mw W f) := by
  obtain ⟨hf, ht⟩ := hR ce X W G tk
  unfold cS1 at h
  split at h
  · cases h; exact d_pass
  · cases h; exact d_brk
  · cases h; exact d_cnt
  · split at h
    · rename_i hc
      obtain ⟨fe, e1, rfl⟩ := Option.map_eq_some_iff.mp h
      exact d_expr (hf _ _ e1) (noComp_sw hc _ _ _)
    · cases h
  · cases h; exact d_retN
  · obtain ⟨fe, e1, rfl⟩ := Option.map_eq_some_iff.mp h
    exact d_ret (hf _ _ e1)
  · split at h
    · rename_i t f g e1 e2 e3
      cases h
      exact d_if (ht _ _ e1) (hS _ _ e2) (hS _ _ e3)
    · cases h
  · exact c_asgN hR G tk hW h
  · exact c_asgT hR G tk hW h
  · split at h
    · rename_i hc
      split at h
      · rename_i f fo fi e1 e2 e3
        cases h
        exact d_asg (hf _ _ e1) (d_gsb (by have := G.rm.un; omega) (hf _ _ e2) (hf _ _ e3) (asg_sub hc.2)) (noComp_sole hc.1 _ _ _) sw_sub rfl
      · cases h
    · cases h
  · split at h
    · rename_i i g f e1 e2 e3
      cases h
      obtain ⟨k1, k2, k3⟩ := c_nm G e1
      exact d_aug G.nd k1 k2 (hf _ _ e3) (c_aug e2) k3
    · cases h
  · split at h
    · rename_i hs
      split at h
      · rename_i fi g ch f e1 e2 e3
        cases h
        exact d_for hW hp G.calm (c_i G hf e1) (c_g G hW e2).1 (hS _ _ e3) (noSet_fold hs X.env)
      · cases h
    · cases h
  · split at h
    · rename_i t f e1 e2
      cases h
      exact d_while hW hp (ht _ _ e1) (hS _ _ e2)
    · cases h
  · cases h
    refine PS.imp ps_never fun D' σ H h => ?_
    obtain ⟨env, S, o, _, p⟩ := h
    exact False.elim p
  · cases h
theorem compS_snd (G : Good n X ce) (tk : Takes X W) (hW : Flat W) (hp : PassesOwn (model X.prog X.w) X.A X.env X.xe) {kE : Nat} : ∀ (k : Nat) (ss : List Stmt) (f : FS), compS kE k ce ss = some f → PSs X ss (tS X.K X.mw W f) := by
  intro k
  induction k with
  | zero => intro ss f h; cases h
  | succ k ih =>
    intro ss f h
    cases ss with
    | nil => cases h; exact d_snil
    | cons st r =>
      unfold compS at h
      split at h
      · rename_i f' g e1 e2
        cases h
        exact d_scons hW (c_s1 (comp_snd n kE) G tk hW hp ih e1) (ih _ _ e2)
      · cases h
end

/-! ### a whole program -/
structure DefI where
  nm : Str
  st : Stmt
  N : List Str
  ps : List Str
abbrev Fns := Str → List D → Sto → Out D
def ceOf (gl : Str → Option Gb) (d : DefI) (C : Fns) : CEnv := { N := d.N, sc := defScope d.st, st := fun x => decide ((defScope d.st).names.lookup x = some .local ∨ (defScope d.st).names.lookup x = some .cell), gl := gl, call := C }
theorem loc_ok {sc : Scope} {x : Str} (h : decide (sc.names.lookup x = some .local ∨ sc.names.lookup x = some .cell) = true) : L2.Loc sc x := by
  unfold L2.Loc
  exact of_decide_eq_true h
/-- the def at one level above what it calls -/
theorem fn_one {P : Program} {w : World} {K : PySem.W.Frag} {mg : Str → Option Value} {base : Heap} {k kE kS : Nat} {gl : Str → Option Gb} {d : DefI} {C : Fns} {b : FS} {f : Addr} {fd : FuncData} {dvs : List V} {kws : List (Str × V)} {qual : Str}
    (F : FunD K d.nm qual (defArgs d.st) (defBody d.st) (defScope d.st) dvs kws f fd) (S : FnScope d.N d.ps (defScope d.st)) (hc : compS kE kS (ceOf gl d C) (defBody d.st) = some b)
    (hgl : ∀ x g, gl x = some g → match g with
      | .cst d => ∃ v u, mg x = some u ∧ RelV v u ∧ ∀ o : Wd, RD K ⟨mg, w⟩ o d v
      | .free => mg x = none
      | .fn dfl shs => Cal P w K mg base k x dfl shs (C x)) :
    FnG P w K mg base (k + 1) f fd d.ps (spD K ⟨mg, w⟩ d.ps.length (runB d.N.length d.ps.length b)) := by
  refine fn_g F S fun cdv A outer s H E hr => ?_
  have G : Good k (cxOf (CX P w) P w K mg base d.N qual (defScope d.st) f cdv A outer s H E) (ceOf gl d C) := by
    refine ⟨rfl, S.nd, rfl, S.kind, fun x hx => ⟨loc_ok hx, .inl rfl⟩, rfl, hr, fun x g hg => ?_⟩
    have := hgl x g hg
    cases g with
    | cst d => exact this
    | free => exact this
    | fn dfl shs => exact this
  exact compS_snd G (takes_of rfl rfl rfl rfl) (fun _ _ _ _ _ h => h) (passes_of rfl) kS _ _ hc
end PV

set_option Elab.async false
set_option linter.all false
set_option maxRecDepth 100000
set_option maxHeartbeats 3999000
namespace PV
open L2 PyProof.Rows PySem PySem.Spec

/-! ### the table of a program's defs -/
structure Ent where
  g : Str
  d : DefI
  qual : Str
  dfl : List D
  shs : List Shape
  b : Fns → FS
/-- a scalar as a value -/
def vOf : D → V
  | .bl b => .bl b
  | .int i => .int i
  | .str x => .str x
  | _ => .non
def isScal : D → Bool
  | .non => true
  | .bl _ => true
  | .int _ => true
  | .str _ => true
  | _ => false
def Ent.dvs (e : Ent) : List V := e.dfl.map vOf
theorem scal_rd {K : PySem.W.Frag} {mw : MW} {o : Wd} {d : D} (h : isScal d = true) : RD K mw o d (vOf d) := by
  cases d <;> first | constructor | cases h
theorem scal_rds {K : PySem.W.Frag} {mw : MW} {o : Wd} : ∀ {ds : List D}, ds.all isScal = true → RDs K mw o ds (ds.map vOf)
  | [], _ => .nil
  | d :: ds, h => by
    rw [List.all_cons, Bool.and_eq_true] at h
    exact .cons (scal_rd h.1) (scal_rds h.2)
def entOf (T : List Ent) (x : Str) : Option Ent := T.find? fun e => e.g == x
def runT (T : List Ent) : Nat → Fns
  | 0 => fun _ _ _ => .stk
  | k + 1 => fun x ds S => match entOf T x with
    | some e => runB e.d.N.length e.d.ps.length (e.b (runT T k)) ds S
    | none => .stk
theorem runT_succ {T : List Ent} {k : Nat} {x : Str} {e : Ent} (h : entOf T x = some e) (ds : List D) (S : Sto) : runT T (k + 1) x ds S = runB e.d.N.length e.d.ps.length (e.b (runT T k)) ds S := by
  show (match entOf T x with
    | some e => runB e.d.N.length e.d.ps.length (e.b (runT T k)) ds S
    | none => .stk) = _
  rw [h]
/-- what the head tells of one def -/
structure EntOk (K : PySem.W.Frag) (mw : MW) (kE kS : Nat) (gl : Str → Option Gb) (e : Ent) : Prop where
  ex : ∃ (f : Addr) (fd : FuncData), mw.mg e.g = some (.ref f) ∧ FunD K e.d.nm e.qual (defArgs e.d.st) (defBody e.d.st) (defScope e.d.st) e.dvs [] f fd ∧
    ∀ sh ∈ e.shs, ∃ its, Vals e.dvs its ∧ ∀ (s : Shared) (us ws : List Value), K.In s.heap → us.length = sh.n → ws.length = sh.ks.length → BindsTo s fd ⟨us, sh.ks.zip ws⟩ (e.d.ps.zip (arr us ws its sh.src))
  sc : FnScope e.d.N e.d.ps (defScope e.d.st)
  df : ∀ o : Wd, RDs K mw o e.dfl e.dvs
  body : ∀ C : Fns, compS kE kS (ceOf gl e.d C) (defBody e.d.st) = some (e.b C)
/-- what stands in the table of names -/
def GlOk (K : PySem.W.Frag) (mw : MW) (T : List Ent) (x : Str) : Gb → Prop
  | .cst d => ∃ v u, mw.mg x = some u ∧ RelV v u ∧ ∀ o : Wd, RD K mw o d v
  | .free => mw.mg x = none
  | .fn dfl shs => ∃ e, entOf T x = some e ∧ e.dfl = dfl ∧ e.shs = shs
theorem entOf_mem {T : List Ent} {x : Str} {e : Ent} (h : entOf T x = some e) : e ∈ T ∧ e.g = x := by
  refine ⟨List.mem_of_find?_eq_some h, ?_⟩
  have := List.find?_some h
  exact eq_of_beq this
theorem tab_ok {P : Program} {w : World} {K : PySem.W.Frag} {mg : Str → Option Value} {base : Heap} {kE kS : Nat} {gl : Str → Option Gb} {T : List Ent} (hT : ∀ e ∈ T, EntOk K ⟨mg, w⟩ kE kS gl e) (hg : ∀ x g, gl x = some g → GlOk K ⟨mg, w⟩ T x g) :
    ∀ (k : Nat) (x : Str) (e : Ent), entOf T x = some e → Cal P w K mg base k x e.dfl e.shs (runT T k x) := by
  intro k
  induction k with
  | zero =>
    intro x e hx
    obtain ⟨hm, rfl⟩ := entOf_mem hx
    obtain ⟨f, fd, h1, h2, h3⟩ := (hT e hm).ex
    refine ⟨f, fd, e.d.ps, e.dvs, h1, h2.kp, ⟨fun vs H Q E h => ?_, fun A outer s H args us vs Q E hr e0 hb r h => ?_⟩, (hT e hm).df, fun ds S _ => rfl, h3⟩
    · obtain ⟨o, ds, S, _, _, _, _, p⟩ := h
      exact False.elim p
    · obtain ⟨o, ds, S, _, _, _, _, p⟩ := h
      exact False.elim p
  | succ k ih =>
    intro x e hx
    obtain ⟨hm, rfl⟩ := entOf_mem hx
    obtain ⟨f, fd, h1, h2, h3⟩ := (hT e hm).ex
    have hF : runT T (k + 1) e.g = runB e.d.N.length e.d.ps.length (e.b (runT T k)) := by
      funext ds S
      exact runT_succ hx ds S
    refine ⟨f, fd, e.d.ps, e.dvs, h1, h2.kp, ?_, (hT e hm).df, fun ds S hl => ?_, h3⟩
    · rw [hF]
      refine fn_one h2 (hT e hm).sc ((hT e hm).body (runT T k)) fun y g hy => ?_
      have := hg y g hy
      cases g with
      | cst d => exact this
      | free => exact this
      | fn dfl shs =>
        obtain ⟨e', he', rfl, rfl⟩ := this
        exact ih y e' he'
    · rw [hF]
      exact runB_len hl

theorem tab_fn {P : Program} {w : World} {K : PySem.W.Frag} {mg : Str → Option Value} {base : Heap} {kE kS : Nat} {gl : Str → Option Gb} {T : List Ent} (hT : ∀ e ∈ T, EntOk K ⟨mg, w⟩ kE kS gl e) (hg : ∀ x g, gl x = some g → GlOk K ⟨mg, w⟩ T x g) {k : Nat} {x : Str} {e : Ent} (hx : entOf T x = some e)
    {f : Addr} {fd : FuncData} (F : FunD K e.d.nm e.qual (defArgs e.d.st) (defBody e.d.st) (defScope e.d.st) e.dvs [] f fd) : FnG P w K mg base (k + 1) f fd e.d.ps (spD K ⟨mg, w⟩ e.d.ps.length (runT T (k + 1) x)) := by
  obtain ⟨hm, rfl⟩ := entOf_mem hx
  have hF : runT T (k + 1) e.g = runB e.d.N.length e.d.ps.length (e.b (runT T k)) := by
    funext ds S
    exact runT_succ hx ds S
  rw [hF]
  refine fn_one F (hT e hm).sc ((hT e hm).body (runT T k)) fun y g hy => ?_
  have := hg y g hy
  cases g with
  | cst d => exact this
  | free => exact this
  | fn dfl shs =>
    obtain ⟨e', he', rfl, rfl⟩ := this
    exact tab_ok hT hg k y e' he'

/-! ### the law's own call -/
theorem rds_ints {K : PySem.W.Frag} {mw : MW} {o : Wd} : ∀ ns : List Int, RDs K mw o (ns.map D.int) (ns.map V.int)
  | [] => .nil
  | n :: ns => .cons (.int n) (rds_ints ns)
/-- the abstract heap of the entry: the script alone, unless it is the module's own -/
def H1 (K : PySem.W.Frag) (a : Addr) (ob : Obj) (ns : List Int) : Hp := fun b => if b = a ∧ K.lookup a = none then some (.frz ob (.lst (ns.map V.int))) else none
theorem law_g {P : Program} {w : World} {K : PySem.W.Frag} {mg mb : Str → Option Value} {k : Nat} {fa a : Addr} {fd : FuncData} {x : Str} {F : List D → Sto → Out D} {s : Shared} {vs : List Value} {ns : List Int} {S' : Sto}
    (KX : K.In s.heap) (hns : s.heap.Ns mainGlobals mg) (hb : s.heap.Ns builtinsNs mb) (hbb : ∀ x : Str, x ≠ "__name__" → mb x = bootBuiltins x) (hlim : s.heap.NoLimit) (hg : s.gens = #[])
    (ha : s.heap.get? a = some { cls := .type "list", data := .seq vs.toArray }) (hi : IntsAre vs ns) (hl : ns.length ≤ sizeLine) (hr : Rm k callerA)
    (G : ∀ base : Heap, K.In base → base.Ns mainGlobals mg → FnG P w K mg base k fa fd [x] (spD K ⟨mg, w⟩ 1 F)) (hbind : ∀ (s : Shared) (u : Value), BindsTo s fd ⟨[u], []⟩ [(x, u)])
    (hF : F [.fz (ns.map D.int)] [] = .ok (.bl true) S') :
    codeAny (model P w) callerA (.call (.ref fa) ⟨[.ref a], []⟩) (fun r s' => r = .ok (.ret (.bool true)) ∧ OldK s.heap s'.heap ∧ s'.os = s.os ∧ AllBare s'.gens) s := by
  generalize hob : ({ cls := .type "list", data := .seq vs.toArray } : Obj) = ob at ha
  have rv := vals_ints hi
  have hlen := hi.length
  generalize hH : H1 K a ob ns = H
  have hH0 : ∀ b u, H b = some u → b = a ∧ K.lookup a = none ∧ u = .frz ob (.lst (ns.map V.int)) := fun b u e => by
    rw [← hH] at e
    unfold H1 at e
    split at e
    · rename_i h; cases e; exact ⟨h.1, h.2, rfl⟩
    · cases e
  have hok : HOk P w H s.heap := fun b u e => by
    obtain ⟨rfl, _, rfl⟩ := hH0 b u e
    refine ⟨ha, by rw [List.length_map]; exact hl, vs, 0, rv, ?_⟩
    rw [ha, ← hob]
  have sq : SqF K H a (ns.map V.int) := by
    cases hk : K.lookup a with
    | none => exact .inl ⟨ob, by rw [← hH]; exact if_pos ⟨rfl, hk⟩⟩
    | some o2 =>
      have e := KX a o2 hk
      rw [ha] at e
      cases e
      refine .inr (.inr ⟨ob, vs.toArray, 0, hk, ?_, ?_, ?_, ?_, ?_⟩)
      · rw [← hob]
      · rw [← hob]
      · rw [← hob]
      · rw [List.size_toArray, hlen]; exact hl
      · simpa using rv
  have bget : ∀ {b : Addr} {o : Obj}, s.heap.get? b = some o → H b = none → (hidT s.heap H).get? b = some o := fun e n => hidT_get e n
  have nodict : ∀ {b : Addr} {o : Obj} {es : Array DictEntry} {ep : Nat}, s.heap.get? b = some o → o.data = .dict es ep → H b = none := fun {b o es ep} e d => by
    cases q : H b with
    | none => rfl
    | some u =>
      obtain ⟨rfl, _, _⟩ := hH0 b u q
      rw [ha] at e
      cases e
      rw [← hob] at d
      cases d
  have nsB : ∀ {b : Addr} {m : Str → Option Value}, s.heap.Ns b m → (hidT s.heap H).Ns b m := fun {b m} ⟨o, es, ep, e, d, r⟩ => ⟨o, es, ep, bget e (nodict e d), d, r⟩
  have KB : K.In (hidT s.heap H) := fun b o e => bget (KX b o e) (by
    cases q : H b with
    | none => rfl
    | some u =>
      obtain ⟨rfl, hk, _⟩ := hH0 b u q
      rw [hk] at e
      cases e)
  obtain ⟨mc, l1, l2⟩ := hlim
  have hM : Mod K mg (hidT s.heap H) := ⟨KB, nsB hns, ⟨mb, nsB hb, hbb⟩, mc, nsB l1, l2⟩
  have e0 : Env0 P w K mg (hidT s.heap H) callerA [] s H := ⟨rfl, hM, fun b o e => of_hidT e, Nat.le_of_eq (hidT_size _ _), trivial, fun b hb => (nomatch (show b ∈ ([] : List Addr) from hb)), hok, .of_eq hg⟩
  have hsp : spD K ⟨mg, w⟩ 1 F [.ref a] H (fun v _ => v = .bl true) (fun _ _ _ => False) := by
    refine ⟨⟨[], H⟩, [.fz (ns.map D.int)], [], rfl, .cons (.fz sq (rds_ints ns)) .nil, ⟨rfl, List.Pairwise.nil, fun n x e => by simp at e⟩, rfl, ?_⟩
    rw [hF]
    exact fun o' _ _ v rd => by cases rd; rfl
  refine codeAny_mono ((G _ KB (nsB hns)).run callerA [] s H ⟨[.ref a], []⟩ [.ref a] [.ref a] _ _ hr e0 (hbind s (.ref a)) (.cons rfl .nil) hsp) fun r s' h => ?_
  cases r with
  | error e =>
    have ⟨_, _, _, _, _, _, _, _, _, _, _, _, z⟩ := h
    exact z.elim
  | ok fl =>
    cases fl with
    | ret u =>
      obtain ⟨v, H', os, bare, un, hok', rr, q⟩ := h
      have q : v = .bl true := q
      subst q
      obtain rfl : u = Value.bool true := rr
      refine ⟨rfl, .of_keep fun b o e => ?_, os, bare⟩
      cases qq : H b with
      | none => exact un.keep b o e qq (fun z => (nomatch (show b ∈ ([] : List Addr) from z))) (fun z => (nomatch z))
      | some u =>
        obtain ⟨rfl, _, rfl⟩ := hH0 b u qq
        have z2 := un.frzs b ob _ qq
        obtain ⟨e2, _⟩ := hok' b _ z2
        rw [ha] at e
        cases e
        exact e2
    | next => exact False.elim h
    | brk => exact False.elim h
    | cont => exact False.elim h
/-- THE END: a law over the table -/
theorem walk_t {l : PySem.W.OpenLaw} {n k : Nat} {q : Program} {loose : List Str} {XP : (Str → Option Value) → Heap → Prop} {YP : World → Heap → Prop} {d : DefRec} {T : List Ent} {kE kS : Nat} {gl : Str → Option Gb} {e : Ent} {x : Str}
    (hn : l.most = some n) (hn2 : n ≤ sizeLine) (hdf : d.params.defaults = []) (hr : Rm (k + 1) callerA) (he : entOf T d.name = some e) (hps : e.d.ps = [x])
    (hK : ∀ (w : World) (mg : Str → Option Value) (h : Heap), YP w h → h.Ns mainGlobals mg → ∃ K : PySem.W.Frag, K.In h ∧ (∀ e ∈ T, EntOk K ⟨mg, w⟩ kE kS gl e) ∧ (∀ x g, gl x = some g → GlOk K ⟨mg, w⟩ T x g) ∧
      ∀ (fd : FuncData) (f : Addr), FunD K e.d.nm e.qual (defArgs e.d.st) (defBody e.d.st) (defScope e.d.st) e.dvs [] f fd → ∀ (s : Shared) (u : Value), BindsTo s fd ⟨[u], []⟩ [(x, u)])
    (hF : ∀ ns : List Int, ns.length ≤ n → (∀ i ∈ ns, Builtin.Int.intBits i ≤ 1048576) → ∃ S', runT T (k + 1) d.name [.fz (ns.map D.int)] [] = .ok (.bl true) S') :
    PySem.W.WalkO q loose XP YP l.row.toRowW d [] (fun f vs => PySem.call f vs) := by
  refine Att.attach_callB hn hdf fun w _ s₁ mg mb fa o pm cd doc a vs ns G Y ho hd hcd hmg hobj hints hlen hbits hg => ?_
  obtain ⟨K, KX, hT, hG, hB⟩ := hK w mg s₁.heap Y G.T.g
  obtain ⟨S', hS⟩ := hF ns hlen hbits
  obtain ⟨hm, hge⟩ := entOf_mem he
  obtain ⟨f, fd, h1, h2, h3⟩ := (hT e hm).ex
  have hfa : f = fa := by
    have h1 : mg e.g = some (.ref f) := h1
    rw [hge, hmg] at h1
    exact (Value.ref.inj (Option.some.inj h1)).symm
  subst hfa
  refine law_g (F := runT T (k + 1) d.name) (x := x) KX G.T.g G.T.b G.T.builtins G.T.nolimit hg hobj hints (Nat.le_trans hlen hn2) hr (fun base KB nb => ?_) (hB fd f h2) hS
  have z := tab_fn (P := l.prog) (w := w) (base := base) hT hG (k := k) he h2
  rw [hps] at z
  exact z
end PV

set_option Elab.async false
set_option linter.all false
set_option maxRecDepth 100000
set_option maxHeartbeats 3999000
namespace PV
open L2 PyProof.Rows PySem PySem.Spec

/-! ### what the head is asked -/
def all2 {α β : Type} (f : α → β → Bool) : List α → List β → Bool
  | [], [] => true
  | a :: r, b :: s => f a b && all2 f r s
  | _, _ => false
def cstB (K : PySem.W.Frag) : Nat → Value → D → Bool
  | _, .none, .non => true
  | _, .bool b, .bl c => b == c
  | _, .int i _, .int j => decide (i = j)
  | _, .str x _, .str y => decide (x = y)
  | n + 1, .ref a, .tup ds => (match K.lookup a with
    | some ⟨.type c, _, .seq its _, _⟩ => decide (c = "tuple") && (decide (its.size ≤ sizeLine) && all2 (cstB K n) its.toList ds)
    | _ => false)
  | _, _, _ => false
theorem all2_ok {K : PySem.W.Frag} {mw : MW} {f : Value → D → Bool} (hf : ∀ u d, f u d = true → ∃ v, RelV v u ∧ ∀ o : Wd, RD K mw o d v) : ∀ {us : List Value} {ds : List D}, all2 f us ds = true → ∃ vs, Vals vs us ∧ ∀ o : Wd, RDs K mw o ds vs
  | [], [], _ => ⟨[], .nil, fun _ => .nil⟩
  | [], _ :: _, h => by cases h
  | _ :: _, [], h => by cases h
  | u :: us, d :: ds, h => by
    obtain ⟨h1, h2⟩ := Bool.and_eq_true_iff.mp (show (f u d && all2 f us ds) = true from h)
    obtain ⟨v, a1, a2⟩ := hf u d h1
    obtain ⟨vs, b1, b2⟩ := all2_ok hf h2
    exact ⟨v :: vs, .cons a1 b1, fun o => .cons (a2 o) (b2 o)⟩
theorem cstB_ok {K : PySem.W.Frag} {mw : MW} : ∀ (n : Nat) (u : Value) (d : D), cstB K n u d = true → ∃ v, RelV v u ∧ ∀ o : Wd, RD K mw o d v := by
  intro n
  induction n with
  | zero =>
    intro u d h
    cases u <;> cases d <;> first | cases h | skip
    · exact ⟨.non, rfl, fun _ => .non⟩
    · rename_i b c
      have e : b = c := eq_of_beq (show (b == c) = true from h)
      exact ⟨.bl b, rfl, fun _ => by rw [e]; exact .bl c⟩
    · rename_i i t j
      obtain rfl := of_decide_eq_true (p := i = j) h
      exact ⟨.int i, ⟨t, rfl⟩, fun _ => .int i⟩
    · rename_i x t y
      obtain rfl := of_decide_eq_true (p := x = y) h
      exact ⟨.str x, ⟨t, rfl⟩, fun _ => .str x⟩
  | succ n ih =>
    intro u d h
    cases u <;> cases d <;> first | cases h | skip
    · exact ⟨.non, rfl, fun _ => .non⟩
    · rename_i b c
      have e : b = c := eq_of_beq (show (b == c) = true from h)
      exact ⟨.bl b, rfl, fun _ => by rw [e]; exact .bl c⟩
    · rename_i i t j
      obtain rfl := of_decide_eq_true (p := i = j) h
      exact ⟨.int i, ⟨t, rfl⟩, fun _ => .int i⟩
    · rename_i x t y
      obtain rfl := of_decide_eq_true (p := x = y) h
      exact ⟨.str x, ⟨t, rfl⟩, fun _ => .str x⟩
    · rename_i a ds
      have h : (match K.lookup a with
        | some ⟨.type c, _, .seq its _, _⟩ => decide (c = "tuple") && (decide (its.size ≤ sizeLine) && all2 (cstB K n) its.toList ds)
        | _ => false) = true := h
      split at h
      · rename_i c od its m sl q
        obtain ⟨h1, h2⟩ := Bool.and_eq_true_iff.mp h
        obtain ⟨h3, h4⟩ := Bool.and_eq_true_iff.mp h2
        obtain ⟨vs, b1, b2⟩ := all2_ok ih h4
        exact ⟨.ref a, rfl, fun o => .tup (.inr ⟨_, its, m, q, congrArg Value.type (of_decide_eq_true h1), rfl, of_decide_eq_true h3, b1⟩) (b2 o)⟩
      · cases h
/-- a name of the module, as the table has it -/
def gbB (K : PySem.W.Frag) (x : Str) : Gb → Bool
  | .cst d => (match PySem.W.nsIn K mainGlobals x with
    | some (some u) => cstB K 8 u d
    | _ => false)
  | .free => decide (PySem.W.nsIn K mainGlobals x = some none)
  | .fn _ _ => decide (PySem.W.nsIn K mainGlobals x = some (some (.ref (He.ga K x))))
def dvOf : D → He.Dv
  | .bl b => .bl b
  | .int i => .int i
  | .str x => .str x
  | _ => .non
def ddOf (e : Ent) : He.DefD := ⟨(e.g, none), e.d.nm, e.qual, defArgs e.d.st, defBody e.d.st, defScope e.d.st, e.dfl.map dvOf, []⟩
def chk (gt : List (Str × Gb)) (T : List Ent) (K : PySem.W.Frag) : Bool := (gt.all fun p => gbB K p.1 p.2) && (T.all fun e => decide (PySem.W.nsIn K mainGlobals e.g = some (some (.ref (He.ga K e.g)))) && (ddOf e).ok K)
abbrev AlP : Type := Bool × List He.FnW
def obsP (gt : List (Str × Gb)) (T : List Ent) (K : PySem.W.Frag) : AlP := (chk gt T K, T.map fun e => He.fnW K (ddOf e).at_)
def valP (T : List Ent) : AlP := (true, T.map fun e => (ddOf e).val)
def hookP (n : Nat) (gt : List (Str × Gb)) (T : List Ent) : PySem.W.Hook where
  α := AlP
  obs := fun s => obsP gt T (He.frG s.heap.get? (He.asD s.heap.get? n))
  val := fun _ => valP T
  says := fun _ h => ∃ K : PySem.W.Frag, K.In h ∧ obsP gt T K = valP T
  of := fun _ _ e => ⟨_, He.frG_in, e⟩
  keeps _ _ _ x k := x.imp fun _ y => ⟨y.1.keeps k, y.2⟩
def obP (n : Nat) (gt : List (Str × Gb)) (T : List Ent) (s : PySem.W.SharedT) : AlP := obsP gt T (He.frG (HandSHeadRun.getT s) (He.asD (HandSHeadRun.getT s) n))
theorem obP_eq (n : Nat) (gt : List (Str × Gb)) (T : List Ent) (s : PySem.W.SharedT) : obP n gt T s = (hookP n gt T).obs s.abs := by
  have e : HandSHeadRun.getT s = s.abs.heap.get? := funext (HandSHeadRun.getT_eq s)
  unfold obP
  rw [e]
  rfl
def glOf (gt : List (Str × Gb)) : Str → Option Gb := fun x => gt.lookup x
theorem dv_v {K : PySem.W.Frag} : ∀ ds : List D, (ds.map dvOf).map (He.Dv.v K) = ds.map vOf
  | [] => rfl
  | d :: ds => by
    rw [List.map_cons, List.map_cons, List.map_cons, dv_v ds]
    congr 1
    cases d <;> rfl
/-- what is shown of each def apart from the head -/
structure EntS (kE kS : Nat) (gt : List (Str × Gb)) (e : Ent) : Prop where
  sc : FnScope e.d.N e.d.ps (defScope e.d.st)
  df : e.dfl.all isScal = true
  body : ∀ C : Fns, compS kE kS (ceOf (glOf gt) e.d C) (defBody e.d.st) = some (e.b C)
  bnd : ∀ (K : PySem.W.Frag) (f : Addr) (fd : FuncData), FunD K e.d.nm e.qual (defArgs e.d.st) (defBody e.d.st) (defScope e.d.st) e.dvs [] f fd →
    ∀ sh ∈ e.shs, ∃ its, Vals e.dvs its ∧ ∀ (s : Shared) (us ws : List Value), K.In s.heap → us.length = sh.n → ws.length = sh.ks.length → BindsTo s fd ⟨us, sh.ks.zip ws⟩ (e.d.ps.zip (arr us ws its sh.src))
/-- the table of names is that of the defs -/
def tabB (gt : List (Str × Gb)) (T : List Ent) : Prop := ∀ x dfl shs, (x, Gb.fn dfl shs) ∈ gt → ∃ e, entOf T x = some e ∧ e.dfl = dfl ∧ e.shs = shs
theorem says_ok {gt : List (Str × Gb)} {T : List Ent} {K : PySem.W.Frag} {mw : MW} {h : Heap} {kE kS : Nat} (KX : K.In h) (G : h.Ns mainGlobals mw.mg) (c : obsP gt T K = valP T) (hS : ∀ e ∈ T, EntS kE kS gt e) (hT : tabB gt T) :
    (∀ e ∈ T, EntOk K mw kE kS (glOf gt) e) ∧ ∀ x g, glOf gt x = some g → GlOk K mw T x g := by
  have c1 : chk gt T K = true := congrArg (fun z : AlP => z.1) c
  have c2 : T.map (fun e => He.fnW K (ddOf e).at_) = T.map fun e => (ddOf e).val := congrArg (fun z : AlP => z.2) c
  obtain ⟨c3, c4⟩ := Bool.and_eq_true_iff.mp c1
  refine ⟨fun e he => ?_, fun x g hg => ?_⟩
  · obtain ⟨k1, k2⟩ := Bool.and_eq_true_iff.mp (List.all_eq_true.mp c4 e he)
    have k3 : He.fnW K (ddOf e).at_ = (ddOf e).val := List.map_inj_left.mp c2 e he
    obtain ⟨fd, F⟩ := He.DefD.funD k3 k2
    have F2 : FunD K e.d.nm e.qual (defArgs e.d.st) (defBody e.d.st) (defScope e.d.st) e.dvs [] (He.ga K e.g) fd := by
      have e1 : (ddOf e).dvs K = e.dvs := dv_v e.dfl
      rw [e1] at F
      exact F
    exact ⟨⟨_, fd, PySem.W.mg_of KX G (of_decide_eq_true k1), F2, (hS e he).bnd K _ fd F2⟩, (hS e he).sc, fun o => scal_rds (hS e he).df, (hS e he).body⟩
  · have hm : (x, g) ∈ gt := PySem.mem_of_lookup hg
    have k := List.all_eq_true.mp c3 (x, g) hm
    cases g with
    | cst d =>
      have k : (match PySem.W.nsIn K mainGlobals x with
        | some (some u) => cstB K 8 u d
        | _ => false) = true := k
      split at k
      · rename_i u e
        obtain ⟨v, a1, a2⟩ := cstB_ok (mw := mw) 8 u d k
        exact ⟨v, u, PySem.W.mg_of KX G e, a1, a2⟩
      · cases k
    | free => exact PySem.W.mg_none_of KX G (of_decide_eq_true k)
    | fn dfl shs => exact hT x dfl shs hm
end PV
namespace PV
open L2 PyProof.Rows PySem PySem.Spec
def gtOf (base : List (Str × Gb)) (T : List Ent) : List (Str × Gb) := base ++ T.map fun e => (e.g, .fn e.dfl e.shs)
def noFn : Gb → Bool
  | .fn _ _ => false
  | _ => true
theorem entOf_of {T : List Ent} (hn : (T.map (·.g)).Nodup) {e : Ent} (he : e ∈ T) : entOf T e.g = some e := by
  unfold entOf
  induction T with
  | nil => cases he
  | cons t r ih =>
    have ⟨h1, h2⟩ := List.nodup_cons.mp hn
    cases he with
    | head => rw [List.find?_cons_of_pos (by simp)]
    | tail _ he =>
      have : ¬ (t.g == e.g) = true := fun z => h1 (List.mem_map.mpr ⟨e, he, (eq_of_beq z).symm⟩)
      rw [List.find?_cons_of_neg (p := fun x : Ent => x.g == e.g) this]
      exact ih h2 he
theorem tab_of {base : List (Str × Gb)} {T : List Ent} (hb : (base.all fun p => noFn p.2) = true) (hn : (T.map (·.g)).Nodup) : tabB (gtOf base T) T := by
  intro x dfl shs h
  match List.mem_append.mp h with
  | .inl h => exact nomatch List.all_eq_true.mp hb _ h
  | .inr h => exact (List.mem_map.mp h).elim fun e ⟨he, q⟩ => by cases q; exact ⟨e, entOf_of hn he, rfl, rfl⟩
end PV

set_option Elab.async false
set_option linter.all false
set_option maxRecDepth 100000
set_option maxHeartbeats 3999000
namespace PV
open L2 PyProof.Rows PySem PySem.Spec

/-! ### runs that end well -/
def Ok {α : Type} (o : Out α) (Q : α → Sto → Prop) : Prop := match o with
  | .ok a S => Q a S
  | _ => False
def Then {α β : Type} (f : α → Sto → Out β) (Q : β → Sto → Prop) (a : α) (S : Sto) : Prop := Ok (f a S) Q
@[simp] theorem then_ap {α β : Type} {f : α → Sto → Out β} {Q : β → Sto → Prop} {a : α} {S : Sto} : Then f Q a S ↔ Ok (f a S) Q := by exact Iff.rfl
@[simp] theorem ok_ok {α : Type} {a : α} {S : Sto} {Q : α → Sto → Prop} : Ok (.ok a S) Q ↔ Q a S := by exact Iff.rfl
@[simp] theorem ok_stk {α : Type} {Q : α → Sto → Prop} : Ok (.stk : Out α) Q ↔ False := by exact Iff.rfl
@[simp] theorem ok_bind {α β : Type} {o : Out α} {f : α → Sto → Out β} {Q : β → Sto → Prop} : Ok (o.bind f) Q ↔ Ok o (Then f Q) := by
  cases o <;> exact Iff.rfl
theorem Ok.mono {α : Type} {o : Out α} {Q Q' : α → Sto → Prop} (h : Ok o Q) (hm : ∀ a S, Q a S → Q' a S) : Ok o Q' := by
  cases o with
  | ok a S => exact hm a S h
  | _ => exact h
theorem Ok.ex {α : Type} {o : Out α} {Q : α → Sto → Prop} (h : Ok o Q) : ∃ a S, o = .ok a S ∧ Q a S := by
  cases o with
  | ok a S => exact ⟨a, S, rfl, h⟩
  | _ => exact False.elim h
theorem Ok.of {α : Type} {o : Out α} {Q : α → Sto → Prop} {a : α} {S : Sto} (h : o = .ok a S) (q : Q a S) : Ok o Q := by rw [h]; exact q
@[simp] theorem ok_ite {α : Type} {c : Prop} [Decidable c] {o o' : Out α} {Q : α → Sto → Prop} : Ok (if c then o else o') Q ↔ (if c then Ok o Q else Ok o' Q) := by
  split <;> exact Iff.rfl
@[simp] theorem bind_ite {α β : Type} {c : Prop} [Decidable c] {o o' : Out α} {f : α → Sto → Out β} : (if c then o else o').bind f = if c then o.bind f else o'.bind f := by
  split <;> rfl
@[simp] theorem lift_ite {c : Prop} [Decidable c] {o o' : PR} : lift (if c then o else o') = if c then lift o else lift o' := by
  split <;> rfl

/-! ### evaluation, step by step: what is still to be done is a name -/
section
variable {env : Env} {S : Sto} {d d1 d2 e : D} {ds : List D} {i j : Int} {g g' : D → D → Sto → PR} {u : D → Sto → PR} {w : List D → Sto → PR} {m : D → List D → Sto → PR} {fa fb fc fe : FE} {fr fk : FA} {t t' : FT} {f f' : FS} {n : Nat} {b : Bool}
def ofO : Option (Option D) → Sto → Out D
  | some (some d), S => .ok d S
  | _, _ => .stk
@[simp] theorem ofO_s : ofO (some (some d)) S = .ok d S := by exact rfl
@[simp] theorem v_var : eVar n env S = ofO env[n]? S := by
  unfold eVar ofO
  split <;> simp_all
@[simp] theorem v_c : eC d env S = .ok d S := by exact rfl
def kBin2 (g : D → D → Sto → PR) (d1 : D) : D → Sto → Out D := fun d2 S2 => lift (g d1 d2 S2)
@[simp] theorem kBin2_v : kBin2 g d1 d2 S = lift (g d1 d2 S) := by exact rfl
def kBin (g : D → D → Sto → PR) (fb : FE) (env : Env) : D → Sto → Out D := fun d1 S1 => (fb env S1).bind (kBin2 g d1)
@[simp] theorem kBin_v : kBin g fb env d1 S = (fb env S).bind (kBin2 g d1) := by exact rfl
@[simp] theorem v_bin : eBin g fa fb env S = (fa env S).bind (kBin g fb env) := by exact rfl
def kUn (u : D → Sto → PR) : D → Sto → Out D := fun d1 S1 => lift (u d1 S1)
@[simp] theorem kUn_v : kUn u d S = lift (u d S) := by exact rfl
@[simp] theorem v_un : eUn u fa env S = (fa env S).bind (kUn u) := by exact rfl
@[simp] theorem v_nil : aNil env S = .ok [] S := by exact rfl
def kCons2 (d : D) : List D → Sto → Out (List D) := fun ds S2 => .ok (d :: ds) S2
@[simp] theorem kCons2_v : kCons2 d ds S = .ok (d :: ds) S := by exact rfl
def kCons (fr : FA) (env : Env) : D → Sto → Out (List D) := fun d S1 => (fr env S1).bind (kCons2 d)
@[simp] theorem kCons_v : kCons fr env d S = (fr env S).bind (kCons2 d) := by exact rfl
@[simp] theorem v_cons : aCons fe fr env S = (fe env S).bind (kCons fr env) := by exact rfl
def kTup : List D → Sto → Out D := fun ds S1 => .ok (.tup ds) S1
@[simp] theorem kTup_v : kTup ds S = .ok (.tup ds) S := by exact rfl
@[simp] theorem v_tup : eTup fr env S = (fr env S).bind kTup := by exact rfl
def kLst : List D → Sto → Out D := fun ds S1 => .ok (.loc S1.length) (S1 ++ [.lst ds])
@[simp] theorem kLst_v : kLst ds S = .ok (.loc S.length) (S ++ [.lst ds]) := by exact rfl
@[simp] theorem v_lst : eLst fr env S = (fr env S).bind kLst := by exact rfl
def kCB (w : List D → Sto → PR) : List D → Sto → Out D := fun ds S1 => lift (w ds S1)
@[simp] theorem kCB_v : kCB w ds S = lift (w ds S) := by exact rfl
@[simp] theorem v_cb : eCB w fr env S = (fr env S).bind (kCB w) := by exact rfl
def kIfe {α : Type} (a c : Env → Sto → Out α) (env : Env) : Bool → Sto → Out α := fun b S1 => if b = true then a env S1 else c env S1
@[simp] theorem kIfe_v {α : Type} {a c : Env → Sto → Out α} : kIfe a c env b S = if b = true then a env S else c env S := by exact rfl
@[simp] theorem v_ifx : eIfx t fa fb env S = (t env S).bind (kIfe fa fb env) := by exact rfl
@[simp] theorem v_if : sIf t f f' env S = (t env S).bind (kIfe f f' env) := by exact rfl
def ofB : Option Bool → Sto → Out Bool
  | some b, S => .ok b S
  | none, _ => .stk
@[simp] theorem ofB_s : ofB (some b) S = .ok b S := by exact rfl
def kVal : D → Sto → Out Bool := fun d S1 => ofB (truD d S1) S1
@[simp] theorem kVal_v : kVal d S = ofB (truD d S) S := by exact rfl
@[simp] theorem v_val : tVal fe env S = (fe env S).bind kVal := by
  unfold tVal
  congr 1
  funext d S1
  unfold kVal ofB
  split <;> simp_all
def kNot : Bool → Sto → Out Bool := fun b S1 => .ok (!b) S1
@[simp] theorem kNot_v : kNot b S = .ok (!b) S := by exact rfl
@[simp] theorem v_not : tNotF t env S = (t env S).bind kNot := by exact rfl
def kAnd (t' : FT) (env : Env) : Bool → Sto → Out Bool := fun b S1 => if b = true then t' env S1 else .ok false S1
@[simp] theorem kAnd_v : kAnd t' env b S = if b = true then t' env S else .ok false S := by exact rfl
@[simp] theorem v_and : tAndF t t' env S = (t env S).bind (kAnd t' env) := by exact rfl
def kOr (t' : FT) (env : Env) : Bool → Sto → Out Bool := fun b S1 => if b = true then .ok true S1 else t' env S1
@[simp] theorem kOr_v : kOr t' env b S = if b = true then .ok true S else t' env S := by exact rfl
@[simp] theorem v_or : tOrF t t' env S = (t env S).bind (kOr t' env) := by exact rfl
def kEa2 (fb : FE) (env : Env) (d : D) : Bool → Sto → Out D := fun b S1 => if b = true then fb env S1 else .ok d S1
@[simp] theorem kEa2_v : kEa2 fb env d b S = if b = true then fb env S else .ok d S := by exact rfl
def kEa (fb : FE) (env : Env) : D → Sto → Out D := fun d S1 => (ofB (truD d S1) S1).bind (kEa2 fb env d)
@[simp] theorem kEa_v : kEa fb env d S = (ofB (truD d S) S).bind (kEa2 fb env d) := by exact rfl
@[simp] theorem v_eand : eAnd fa fb env S = (fa env S).bind (kEa fb env) := by
  unfold eAnd
  congr 1
  funext d S1
  unfold kEa ofB kEa2
  split <;> simp_all
def kEo2 (fb : FE) (env : Env) (d : D) : Bool → Sto → Out D := fun b S1 => if b = true then .ok d S1 else fb env S1
@[simp] theorem kEo2_v : kEo2 fb env d b S = if b = true then .ok d S else fb env S := by exact rfl
def kEo (fb : FE) (env : Env) : D → Sto → Out D := fun d S1 => (ofB (truD d S1) S1).bind (kEo2 fb env d)
@[simp] theorem kEo_v : kEo fb env d S = (ofB (truD d S) S).bind (kEo2 fb env d) := by exact rfl
@[simp] theorem v_eor : eOr fa fb env S = (fa env S).bind (kEo fb env) := by
  unfold eOr
  congr 1
  funext d S1
  unfold kEo ofB kEo2
  split <;> simp_all
def kEn2 : Bool → Sto → Out D := fun b S1 => .ok (.bl (!b)) S1
@[simp] theorem kEn2_v : kEn2 b S = .ok (.bl (!b)) S := by exact rfl
def kEn : D → Sto → Out D := fun d S1 => (ofB (truD d S1) S1).bind kEn2
@[simp] theorem kEn_v : kEn d S = (ofB (truD d S) S).bind kEn2 := by exact rfl
@[simp] theorem v_enot : eNot fa env S = (fa env S).bind kEn := by
  unfold eNot
  congr 1
  funext d S1
  unfold kEn ofB kEn2
  split <;> simp_all
def kTb : D → Sto → Out Bool
  | .bl b, S1 => .ok b S1
  | _, _ => .stk
@[simp] theorem kTb_v : kTb (.bl b) S = .ok b S := by exact rfl
@[simp] theorem v_tb : tB' fe env S = (fe env S).bind kTb := by
  unfold tB'
  congr 1
  funext d S1
  cases d <;> rfl
def kCh3 (g' : D → D → Sto → PR) (d2 : D) : D → Sto → Out D := fun d3 S4 => lift (g' d2 d3 S4)
@[simp] theorem kCh3_v {d3 : D} : kCh3 g' d2 d3 S = lift (g' d2 d3 S) := by exact rfl
def kCh2 (g' : D → D → Sto → PR) (fc : FE) (env : Env) (d2 : D) : Bool → Sto → Out D := fun b S3 => if b = true then (fc env S3).bind (kCh3 g' d2) else .ok (.bl false) S3
@[simp] theorem kCh2_v : kCh2 g' fc env d2 b S = if b = true then (fc env S).bind (kCh3 g' d2) else .ok (.bl false) S := by exact rfl
def kCh1 (g g' : D → D → Sto → PR) (fc : FE) (env : Env) (d1 : D) : D → Sto → Out D := fun d2 S2 => ((lift (g d1 d2 S2)).bind kTb).bind (kCh2 g' fc env d2)
@[simp] theorem kCh1_v : kCh1 g g' fc env d1 d2 S = ((lift (g d1 d2 S)).bind kTb).bind (kCh2 g' fc env d2) := by exact rfl
def kCh (g g' : D → D → Sto → PR) (fb fc : FE) (env : Env) : D → Sto → Out D := fun d1 S1 => (fb env S1).bind (kCh1 g g' fc env d1)
@[simp] theorem kCh_v : kCh g g' fb fc env d1 S = (fb env S).bind (kCh1 g g' fc env d1) := by exact rfl
theorem bind_assoc {α β γ : Type} {o : Out α} {f : α → Sto → Out β} {h : β → Sto → Out γ} : (o.bind f).bind h = o.bind fun a S => (f a S).bind h := by
  cases o <;> rfl
@[simp] theorem v_ch : eCh g g' fa fb fc env S = (fa env S).bind (kCh g g' fb fc env) := by
  unfold eCh
  congr 1
  funext d1 S1
  unfold kCh
  congr 1
  funext d2 S2
  unfold kCh1
  rw [bind_assoc]
  congr 1
  funext z S3
  cases z with
  | bl b => cases b <;> rfl
  | _ => rfl
@[simp] theorem v_yes : tYes' env S = .ok true S := by exact rfl
@[simp] theorem v_snil : sNil env S = .ok (.nx env) S := by exact rfl
def kSeq (f' : FS) : Fl → Sto → Out Fl
  | .nx e, S1 => f' e S1
  | .rt d, S1 => .ok (.rt d) S1
  | .bk e, S1 => .ok (.bk e) S1
  | .ct e, S1 => .ok (.ct e) S1
@[simp] theorem kSeq_nx : kSeq f' (.nx env) S = f' env S := by exact rfl
@[simp] theorem kSeq_rt : kSeq f' (.rt d) S = .ok (.rt d) S := by exact rfl
@[simp] theorem kSeq_bk : kSeq f' (.bk env) S = .ok (.bk env) S := by exact rfl
@[simp] theorem kSeq_ct : kSeq f' (.ct env) S = .ok (.ct env) S := by exact rfl
@[simp] theorem v_seq : sSeq f f' env S = (f env S).bind (kSeq f') := by
  unfold sSeq
  congr 1
  funext fl S1
  cases fl <;> rfl
@[simp] theorem v_brk : sBrk env S = .ok (.bk env) S := by exact rfl
@[simp] theorem v_cnt : sCnt env S = .ok (.ct env) S := by exact rfl
def kExpr (env : Env) : D → Sto → Out Fl := fun _ S1 => .ok (.nx env) S1
@[simp] theorem kExpr_v : kExpr env d S = .ok (.nx env) S := by exact rfl
@[simp] theorem v_sexpr : sExpr fe env S = (fe env S).bind (kExpr env) := by exact rfl
def kRet : D → Sto → Out Fl := fun d S1 => .ok (.rt d) S1
@[simp] theorem kRet_v : kRet d S = .ok (.rt d) S := by exact rfl
@[simp] theorem v_ret : sRet fe env S = (fe env S).bind kRet := by exact rfl
@[simp] theorem v_retn : sRetN env S = .ok (.rt .non) S := by exact rfl
def kNx : Env → Sto → Out Fl := fun env1 S2 => .ok (.nx env1) S2
@[simp] theorem kNx_v : kNx env S = .ok (.nx env) S := by exact rfl
def kAsg (gg : FG) (env : Env) : D → Sto → Out Fl := fun d S1 => (gg d env S1).bind kNx
@[simp] theorem kAsg_v {gg : FG} : kAsg gg env d S = (gg d env S).bind kNx := by exact rfl
@[simp] theorem v_asg {gg : FG} : sAsg fe gg env S = (fe env S).bind (kAsg gg env) := by exact rfl
@[simp] theorem v_nm : gNm n d env S = .ok (env.set n (some d)) S := by exact rfl
@[simp] theorem v_tp {gs : List FG} : gTp gs (.tup ds) env S = gAll gs ds env S := by exact rfl
@[simp] theorem v_all0 : gAll [] [] env S = .ok env S := by exact rfl
def kAll (gs : List FG) (ds : List D) : Env → Sto → Out Env := fun env1 S1 => gAll gs ds env1 S1
@[simp] theorem kAll_v {gs : List FG} : kAll gs ds env S = gAll gs ds env S := by exact rfl
@[simp] theorem v_all1 {gg : FG} {gs : List FG} : gAll (gg :: gs) (d :: ds) env S = (gg d env S).bind (kAll gs ds) := by exact rfl
def ofSt : Option Sto → Env → Out Env
  | some S3, env => .ok env S3
  | none, _ => .stk
@[simp] theorem ofSt_s : ofSt (some S) env = .ok env S := by exact rfl
def kSb2 (env : Env) (d o : D) : D → Sto → Out Env := fun i S2 => ofSt (setDD o i d S2) env
@[simp] theorem kSb2_v {o i : D} : kSb2 env d o i S = ofSt (setDD o i d S) env := by exact rfl
def kSb (fb : FE) (env : Env) (d : D) : D → Sto → Out Env := fun o S1 => (fb env S1).bind (kSb2 env d o)
@[simp] theorem kSb_v {o : D} : kSb fb env d o S = (fb env S).bind (kSb2 env d o) := by exact rfl
@[simp] theorem v_gsb : gSb fa fb d env S = (fa env S).bind (kSb fb env d) := by
  unfold gSb
  congr 1
  funext o S1
  unfold kSb
  congr 1
  funext i S2
  unfold kSb2 ofSt
  split <;> simp_all
def kPar (a c : Nat) (env : Env) : List D → Sto → Out Fl
  | [d, e], S1 => .ok (.nx ((env.set a (some d)).set c (some e))) S1
  | _, _ => .stk
@[simp] theorem kPar_v {a c : Nat} : kPar a c env [d, e] S = .ok (.nx ((env.set a (some d)).set c (some e))) S := by exact rfl
@[simp] theorem v_par {a c : Nat} : sPar a c fr env S = (fr env S).bind (kPar a c env) := by
  unfold sPar
  congr 1
  funext ds S1
  unfold kPar
  split <;> simp_all
def kPar3 (a c h : Nat) (env : Env) : List D → Sto → Out Fl
  | [d, e, f], S1 => .ok (.nx (((env.set a (some d)).set c (some e)).set h (some f))) S1
  | _, _ => .stk
@[simp] theorem kPar3_v {a c h : Nat} {f : D} : kPar3 a c h env [d, e, f] S = .ok (.nx (((env.set a (some d)).set c (some e)).set h (some f))) S := by exact rfl
@[simp] theorem v_par3 {a c h : Nat} : sPar3 a c h fr env S = (fr env S).bind (kPar3 a c h env) := by
  unfold sPar3
  congr 1
  funext ds S1
  unfold kPar3
  split <;> simp_all
def kAug3 (n : Nat) (env : Env) : D → Sto → Out Fl := fun z S2 => .ok (.nx (env.set n (some z))) S2
@[simp] theorem kAug3_v : kAug3 n env d S = .ok (.nx (env.set n (some d))) S := by exact rfl
def kAug2 (n : Nat) (g : D → D → Sto → PR) (env : Env) (x : D) : D → Sto → Out Fl := fun y S1 => (lift (g x y S1)).bind (kAug3 n env)
@[simp] theorem kAug2_v : kAug2 n g env d e S = (lift (g d e S)).bind (kAug3 n env) := by exact rfl
def kAug (n : Nat) (g : D → D → Sto → PR) (fe : FE) (env : Env) : D → Sto → Out Fl := fun x S => (fe env S).bind (kAug2 n g env x)
@[simp] theorem kAug_v : kAug n g fe env d S = (fe env S).bind (kAug2 n g env d) := by exact rfl
@[simp] theorem v_aug : sAug n g fe env S = (ofO env[n]? S).bind (kAug n g fe env) := by
  unfold sAug ofO
  split <;> simp_all <;> rfl
def kCall2 (F : List D → Sto → Out D) (src : List PV.Src) (dfl ds : List D) : List D → Sto → Out D := fun zs S2 => F (arr ds zs dfl src) S2
@[simp] theorem kCall2_v {F : List D → Sto → Out D} {src : List PV.Src} {dfl zs : List D} : kCall2 F src dfl ds zs S = F (arr ds zs dfl src) S := by exact rfl
def kCall (F : List D → Sto → Out D) (src : List PV.Src) (dfl : List D) (fk : FA) (env : Env) : List D → Sto → Out D := fun ds S1 => (fk env S1).bind (kCall2 F src dfl ds)
@[simp] theorem kCall_v {F : List D → Sto → Out D} {src : List PV.Src} {dfl : List D} : kCall F src dfl fk env ds S = (fk env S).bind (kCall2 F src dfl ds) := by exact rfl
@[simp] theorem v_call {F : List D → Sto → Out D} {src : List PV.Src} {dfl : List D} : eCall F src dfl fr fk env S = (fr env S).bind (kCall F src dfl fk env) := by exact rfl
def kM2 (m : D → List D → Sto → PR) (d : D) : List D → Sto → Out D := fun ds S2 => lift (m d ds S2)
@[simp] theorem kM2_v : kM2 m d ds S = lift (m d ds S) := by exact rfl
def kM (m : D → List D → Sto → PR) (fr : FA) (env : Env) : D → Sto → Out D
  | .loc n, S1 => (match lstAt S1 n with
    | some _ => (fr env S1).bind (kM2 m (.loc n))
    | none => .stk)
  | _, _ => .stk
theorem kM_v (h : lstAt S n = some ds) : kM m fr env (.loc n) S = (fr env S).bind (kM2 m (.loc n)) := by simp [kM, h]
@[simp] theorem v_m : eM m fa fr env S = (fa env S).bind (kM m fr env) := by
  unfold eM
  congr 1
  funext d S1
  cases d <;> rfl
def kSl3 (d : D) (l : Option Int) : Option Int → Sto → Out D := fun h S3 => lift (slD d l h S3)
@[simp] theorem kSl3_v {l h : Option Int} : kSl3 d l h S = lift (slD d l h S) := by exact rfl
def kSl2 (d : D) (fh : FO) (env : Env) : Option Int → Sto → Out D := fun l S2 => (fh env S2).bind (kSl3 d l)
@[simp] theorem kSl2_v {fh : FO} {l : Option Int} : kSl2 d fh env l S = (fh env S).bind (kSl3 d l) := by exact rfl
def kSl (fl fh : FO) (env : Env) : D → Sto → Out D := fun d S1 => (fl env S1).bind (kSl2 d fh env)
@[simp] theorem kSl_v {fl fh : FO} : kSl fl fh env d S = (fl env S).bind (kSl2 d fh env) := by exact rfl
@[simp] theorem v_sl {fl fh : FO} : eSl fa fl fh env S = (fa env S).bind (kSl fl fh env) := by exact rfl
def kRev (fb : FE) (env : Env) : D → Sto → Out D := fun d S1 => (fb env S1).bind (kRev2 d)
@[simp] theorem kRev_v : kRev fb env d S = (fb env S).bind (kRev2 d) := by exact rfl
@[simp] theorem kRev2_v : kRev2 d (.int (-1)) S = lift (revD d S) := by
  show (if (-1 : Int) = -1 then lift (revD d S) else .stk) = _
  rw [if_pos rfl]
@[simp] theorem v_rev : eRev fa fb env S = (fa env S).bind (kRev fb env) := by exact rfl
@[simp] theorem p_revt : revD (.tup ds) S = some (.tup ds.reverse, S) := by exact rfl
@[simp] theorem v_on : oNone env S = .ok none S := by exact rfl
def kOs : D → Sto → Out (Option Int)
  | .int i, S1 => .ok (some i) S1
  | _, _ => .stk
@[simp] theorem kOs_v : kOs (.int i) S = .ok (some i) S := by exact rfl
@[simp] theorem v_os : oSome fe env S = (fe env S).bind kOs := by
  unfold oSome
  congr 1
  funext d S1
  cases d <;> rfl
def kFor (gg : FG) (f : FS) (env : Env) : IT → Sto → Out Fl := fun it S1 => forF it gg f (turns it S1 + 1) 0 env S1
@[simp] theorem kFor_v {gg : FG} {it : IT} : kFor gg f env it S = forF it gg f (turns it S + 1) 0 env S := by exact rfl
@[simp] theorem v_for {fi : FI} {gg : FG} : sFor fi gg f env S = (fi env S).bind (kFor gg f env) := by exact rfl
def ofI : Option IT → Sto → Out IT
  | some it, S => .ok it S
  | none, _ => .stk
@[simp] theorem ofI_s {it : IT} : ofI (some it) S = .ok it S := by exact rfl
def kIseq : D → Sto → Out IT := fun d S1 => ofI (itOf d S1) S1
@[simp] theorem kIseq_v : kIseq d S = ofI (itOf d S) S := by exact rfl
@[simp] theorem v_iseq : iSeq fe env S = (fe env S).bind kIseq := by
  unfold iSeq
  congr 1
  funext d S1
  unfold kIseq ofI
  split <;> simp_all
def kIrg : List D → Sto → Out IT
  | [.int j], S1 => if small62 j = true then .ok (.items (upTo 0 j.toNat)) S1 else .stk
  | [.int i, .int j], S1 => if small62 i = true ∧ small62 j = true then .ok (.items (upTo i (j - i).toNat)) S1 else .stk
  | _, _ => .stk
@[simp] theorem kIrg_1 : kIrg [.int j] S = if small62 j = true then .ok (.items (upTo 0 j.toNat)) S else .stk := by exact rfl
@[simp] theorem kIrg_2 : kIrg [.int i, .int j] S = if small62 i = true ∧ small62 j = true then .ok (.items (upTo i (j - i).toNat)) S else .stk := by exact rfl
@[simp] theorem v_irg : iRg fr env S = (fr env S).bind kIrg := by
  unfold iRg
  congr 1
  funext ds S1
  unfold kIrg
  split <;> simp_all
def kLc2 : List D → Sto → Out D := fun ds S2 => .ok (.loc S2.length) (S2 ++ [.lst ds])
@[simp] theorem kLc2_v : kLc2 ds S = .ok (.loc S.length) (S ++ [.lst ds]) := by exact rfl
def kLc (vs : List Nat) (gg : FG) (t : FT) (fe : FE) (env : Env) : IT → Sto → Out D := fun it S1 => (nox (lcF it gg t fe (wipeE env vs) (turns it S1 + 1) 0 [] S1)).bind kLc2
@[simp] theorem kLc_v {vs : List Nat} {gg : FG} {it : IT} : kLc vs gg t fe env it S = (nox (lcF it gg t fe (wipeE env vs) (turns it S + 1) 0 [] S)).bind kLc2 := by exact rfl
@[simp] theorem v_lc {vs : List Nat} {fi : FI} {gg : FG} : eLc vs fi gg t fe env S = (fi env S).bind (kLc vs gg t fe env) := by exact rfl
@[simp] theorem nox_ok {α : Type} {a : α} : nox (.ok a S) = .ok a S := by exact rfl
def kFs2 (it : IT) (gg : FG) (f : FS) (k i : Nat) : Fl → Sto → Out Fl
  | .nx e, S2 => forF it gg f k (i + 1) e S2
  | .ct e, S2 => forF it gg f k (i + 1) e S2
  | .bk e, S2 => .ok (.nx e) S2
  | .rt d, S2 => .ok (.rt d) S2
@[simp] theorem kFs2_nx {it : IT} {gg : FG} {k i : Nat} : kFs2 it gg f k i (.nx env) S = forF it gg f k (i + 1) env S := by exact rfl
@[simp] theorem kFs2_ct {it : IT} {gg : FG} {k i : Nat} : kFs2 it gg f k i (.ct env) S = forF it gg f k (i + 1) env S := by exact rfl
@[simp] theorem kFs2_bk {it : IT} {gg : FG} {k i : Nat} : kFs2 it gg f k i (.bk env) S = .ok (.nx env) S := by exact rfl
@[simp] theorem kFs2_rt {it : IT} {gg : FG} {k i : Nat} : kFs2 it gg f k i (.rt d) S = .ok (.rt d) S := by exact rfl
def kFs1 (it : IT) (gg : FG) (f : FS) (k i : Nat) : Env → Sto → Out Fl := fun env1 S1 => (f env1 S1).bind (kFs2 it gg f k i)
@[simp] theorem kFs1_v {it : IT} {gg : FG} {k i : Nat} : kFs1 it gg f k i env S = (f env S).bind (kFs2 it gg f k i) := by exact rfl
def kFs (it : IT) (gg : FG) (f : FS) (k i : Nat) (env : Env) (S : Sto) : Option (Option D) → Out Fl
  | none => .stk
  | some none => .ok (.nx env) S
  | some (some d) => (gg d env S).bind (kFs1 it gg f k i)
@[simp] theorem kFs_n {it : IT} {gg : FG} {k i : Nat} : kFs it gg f k i env S (some none) = .ok (.nx env) S := by exact rfl
@[simp] theorem kFs_s {it : IT} {gg : FG} {k i : Nat} : kFs it gg f k i env S (some (some d)) = (gg d env S).bind (kFs1 it gg f k i) := by exact rfl
theorem v_fors {it : IT} {gg : FG} {k i : Nat} : forF it gg f (k + 1) i env S = kFs it gg f k i env S (nxt it i S) := by
  rw [forF]
  rcases nxt it i S with _ | _ | d
  · rfl
  · rfl
  · show (gg d env S).bind _ = (gg d env S).bind _
    congr 1
    funext e1 S1
    unfold kFs1
    congr 1
    funext fl S2
    cases fl <;> rfl
def kLs3 (it : IT) (gg : FG) (t : FT) (fe : FE) (env0 : Env) (k i : Nat) (acc : List D) : D → Sto → Out (List D) := fun y S3 => if acc.length < sizeLine then lcF it gg t fe env0 k (i + 1) (acc ++ [y]) S3 else .stk
@[simp] theorem kLs3_v {it : IT} {gg : FG} {k i : Nat} {acc : List D} : kLs3 it gg t fe env k i acc d S = if acc.length < sizeLine then lcF it gg t fe env k (i + 1) (acc ++ [d]) S else .stk := by exact rfl
def kLs2 (it : IT) (gg : FG) (t : FT) (fe : FE) (env0 : Env) (k i : Nat) (acc : List D) (env1 : Env) : Bool → Sto → Out (List D) := fun b S2 => if b = true then (fe env1 S2).bind (kLs3 it gg t fe env0 k i acc) else lcF it gg t fe env0 k (i + 1) acc S2
@[simp] theorem kLs2_v {it : IT} {gg : FG} {k i : Nat} {acc : List D} {env1 : Env} : kLs2 it gg t fe env k i acc env1 b S = if b = true then (fe env1 S).bind (kLs3 it gg t fe env k i acc) else lcF it gg t fe env k (i + 1) acc S := by exact rfl
def kLs1 (it : IT) (gg : FG) (t : FT) (fe : FE) (env0 : Env) (k i : Nat) (acc : List D) : Env → Sto → Out (List D) := fun env1 S1 => (t env1 S1).bind (kLs2 it gg t fe env0 k i acc env1)
@[simp] theorem kLs1_v {it : IT} {gg : FG} {k i : Nat} {acc : List D} {env1 : Env} : kLs1 it gg t fe env k i acc env1 S = (t env1 S).bind (kLs2 it gg t fe env k i acc env1) := by exact rfl
def kLs (it : IT) (gg : FG) (t : FT) (fe : FE) (env0 : Env) (k i : Nat) (acc : List D) (S : Sto) : Option (Option D) → Out (List D)
  | none => .stk
  | some none => .ok acc S
  | some (some d) => (gg d env0 S).bind (kLs1 it gg t fe env0 k i acc)
@[simp] theorem kLs_n {it : IT} {gg : FG} {k i : Nat} {acc : List D} : kLs it gg t fe env k i acc S (some none) = .ok acc S := by exact rfl
@[simp] theorem kLs_s {it : IT} {gg : FG} {k i : Nat} {acc : List D} : kLs it gg t fe env k i acc S (some (some d)) = (gg d env S).bind (kLs1 it gg t fe env k i acc) := by exact rfl
theorem v_lcs {it : IT} {gg : FG} {k i : Nat} {acc : List D} : lcF it gg t fe env (k + 1) i acc S = kLs it gg t fe env k i acc S (nxt it i S) := by
  rw [lcF]
  rcases nxt it i S with _ | _ | d <;> rfl
def kRun : Fl → Sto → Out D
  | .rt d, S1 => .ok d S1
  | .nx _, S1 => .ok .non S1
  | _, _ => .stk
@[simp] theorem kRun_rt : kRun (.rt d) S = .ok d S := by exact rfl
@[simp] theorem kRun_nx : kRun (.nx env) S = .ok .non S := by exact rfl
theorem run_eq {nN np : Nat} : runB nN np f ds S = if ds.length = np then (f (ds.map some ++ List.replicate (nN - ds.length) none) S).bind kRun else .stk := by
  unfold runB
  split
  · congr 1
    funext fl S1
    cases fl <;> rfl
  · rfl
@[simp] theorem runB0 {nN : Nat} : runB nN 0 f [] S = (f (List.replicate nN none) S).bind kRun := by rw [run_eq]; simp
@[simp] theorem runB1 {nN : Nat} : runB nN 1 f [d] S = (f (some d :: List.replicate (nN - 1) none) S).bind kRun := by rw [run_eq]; rfl
@[simp] theorem runB2 {nN : Nat} : runB nN 2 f [d, e] S = (f (some d :: some e :: List.replicate (nN - 2) none) S).bind kRun := by rw [run_eq]; rfl
@[simp] theorem runB3 {nN : Nat} {a : D} : runB nN 3 f [d, e, a] S = (f (some d :: some e :: some a :: List.replicate (nN - 3) none) S).bind kRun := by rw [run_eq]; rfl
@[simp] theorem runB4 {nN : Nat} {a c : D} : runB nN 4 f [d, e, a, c] S = (f (some d :: some e :: some a :: some c :: List.replicate (nN - 4) none) S).bind kRun := by rw [run_eq]; rfl
end
end PV


set_option Elab.async false
set_option linter.all false
set_option maxRecDepth 100000
set_option maxHeartbeats 3999000
namespace PV
open L2 PyProof.Rows PySem PySem.Spec

/-! ### primitives on known things -/
section
variable {S : Sto} {i j : Int} {a b : Bool} {ds es : List D} {d : D} {n : Nat}
@[simp] theorem p_add : addD (.int i) (.int j) S = some (.int (i + j), S) := by exact rfl
@[simp] theorem p_sub : subD (.int i) (.int j) S = some (.int (i - j), S) := by exact rfl
@[simp] theorem p_neg : negD (.int i) S = some (.int (-i), S) := by exact rfl
@[simp] theorem p_iadd : iaddD (.int i) (.int j) S = some (.int (i + j), S) := by exact rfl
@[simp] theorem p_ord {op : Oc} : ordD op (.int i) (.int j) S = some (.bl (op.i i j), S) := by exact rfl
@[simp] theorem p_lt : Oc.i .lt i j = decide (i < j) := by exact rfl
@[simp] theorem p_le : Oc.i .le i j = decide (i ≤ j) := by exact rfl
@[simp] theorem p_gt : Oc.i .gt i j = decide (j < i) := by exact rfl
@[simp] theorem p_ge : Oc.i .ge i j = decide (j ≤ i) := by exact rfl
@[simp] theorem p_int : intD [.int i] S = some (.int i, S) := by exact rfl
@[simp] theorem p_intb : intD [.bl a] S = some (.int (if a then 1 else 0), S) := by exact rfl
@[simp] theorem p_abs : absD [.int i] S = some (.int i.natAbs, S) := by
  unfold absD
  simp only [Option.some.injEq, Prod.mk.injEq, D.int.injEq, and_true]
  split <;> omega
@[simp] theorem p_reprb : reprD [.bl a] S = some (.str (if a then "True" else "False"), S) := by exact rfl
@[simp] theorem p_is : isD d .non S = some (.bl (isNon d), S) := by exact rfl
@[simp] theorem p_isnot : isNotD d .non S = some (.bl (!isNon d), S) := by exact rfl
@[simp] theorem p_nn : isNon .non = true := by exact rfl
@[simp] theorem p_ni : isNon (.int i) = false := by exact rfl
@[simp] theorem p_nb : isNon (.bl a) = false := by exact rfl
@[simp] theorem p_nt : isNon (.tup ds) = false := by exact rfl
@[simp] theorem p_nl : isNon (.loc n) = false := by exact rfl
@[simp] theorem p_trb : truD (.bl a) S = some a := by exact rfl
@[simp] theorem p_tri : truD (.int i) S = some (i != 0) := by exact rfl
@[simp] theorem p_trn : truD .non S = some false := by exact rfl
@[simp] theorem p_trt : truD (.tup ds) S = some (!ds.isEmpty) := by exact rfl
@[simp] theorem p_seqt : seqOf S (.tup ds) = some ds := by exact rfl
@[simp] theorem p_seql : seqOf S (.loc n) = lstAt S n := by exact rfl
@[simp] theorem p_seqf : seqOf S (.fz ds) = some ds := by exact rfl
@[simp] theorem p_list : lisOf S (.loc n) = lstAt S n := by exact rfl
@[simp] theorem p_lisf : lisOf S (.fz ds) = some ds := by exact rfl
@[simp] theorem p_lent : lenD [.tup ds] S = some (.int ds.length, S) := by exact rfl
theorem p_lenl (h : lstAt S n = some ds) : lenD [.loc n] S = some (.int ds.length, S) := by simp [lenD, h]
@[simp] theorem p_ixt : ixDD (.tup ds) (.int i) S = (atI ds i).map fun d => (d, S) := by exact rfl
@[simp] theorem p_ixf : ixDD (.fz ds) (.int i) S = (atI ds i).map fun d => (d, S) := by exact rfl
theorem dc_lst (h : lstAt S n = some ds) : isDc S (.loc n) = none := by
  unfold lstAt at h
  unfold isDc
  split at h
  · rename_i e; simp [e]
  · cases h
theorem p_ixl (h : lstAt S n = some ds) : ixDD (.loc n) (.int i) S = (atI ds i).map fun d => (d, S) := by simp [ixDD, dc_lst h, ixD, h]
theorem p_inl (h : lstAt S n = some ds) : inDD d (.loc n) S = (inO S d (.loc n)).map fun b => (.bl b, S) := by simp [inDD, dc_lst h, inD]
theorem p_notinl (h : lstAt S n = some ds) : notInDD d (.loc n) S = (inO S d (.loc n)).map fun b => (.bl (!b), S) := by simp [notInDD, dc_lst h, notInD]
theorem p_setl (h : lstAt S n = some ds) {e : D} : setDD (.loc n) e d S = setD (.loc n) e d S := by simp [setDD, dc_lst h]
theorem ixN_nat {m : Nat} (h : n < m) : ixN m (n : Int) = some n := by
  unfold ixN
  rw [if_pos (by omega), if_pos (by omega)]
  simp
theorem atI_nat {α : Type} {xs : List α} : atI xs (n : Int) = xs[n]? := by
  unfold atI ixN
  rw [if_pos (by omega)]
  split
  · simp
  · rename_i h
    have h : ¬ n < xs.length := by omega
    simp only [Option.bind_none]
    rw [List.getElem?_eq_none (by omega)]
@[simp] theorem atI_0 {α : Type} {xs : List α} : atI xs 0 = xs[0]? := atI_nat (n := 0)
@[simp] theorem atI_1 {α : Type} {xs : List α} : atI xs 1 = xs[1]? := atI_nat (n := 1)
@[simp] theorem atI_2 {α : Type} {xs : List α} : atI xs 2 = xs[2]? := atI_nat (n := 2)
@[simp] theorem atI_3 {α : Type} {xs : List α} : atI xs 3 = xs[3]? := atI_nat (n := 3)
@[simp] theorem atI_4 {α : Type} {xs : List α} : atI xs 4 = xs[4]? := atI_nat (n := 4)
@[simp] theorem atI_5 {α : Type} {xs : List α} : atI xs 5 = xs[5]? := atI_nat (n := 5)
theorem atI_in {α : Type} {xs : List α} (h0 : 0 ≤ i) (h1 : i < xs.length) : ∃ x, atI xs i = some x ∧ x ∈ xs ∧ xs[i.toNat]? = some x := by
  obtain ⟨m, rfl⟩ : ∃ m : Nat, i = m := ⟨i.toNat, by omega⟩
  have hm : m < xs.length := by omega
  exact ⟨xs[m], by rw [atI_nat, List.getElem?_eq_getElem hm], List.getElem_mem hm, by simp [hm]⟩
theorem bits_lt {m : Nat} (h : i.natAbs < 2 ^ m) : Builtin.Int.intBits i ≤ m := by
  unfold Builtin.Int.intBits
  split
  · omega
  · rename_i h0
    have : i.natAbs ≠ 0 := by
      intro z
      have : i = 0 := by omega
      rw [this] at h0
      exact h0 rfl
    have := (Nat.log2_lt this).mpr h
    omega
theorem p_mul (m : Nat) {k : Nat} (hm : m ≤ 60000000 := by decide) (hk : k ≤ 60000000 := by decide) (hi : i.natAbs < 2 ^ m) (hj : j.natAbs < 2 ^ k) : mulD (.int i) (.int j) S = some (.int (i * j), S) := by
  have a := bits_lt hi
  have b := bits_lt hj
  have : mulOk i j = true := by
    unfold mulOk
    rw [decide_eq_true_eq]
    omega
  show (if mulOk i j = true then some (D.int (i * j), S) else none) = _
  rw [if_pos this]
theorem p_mul64 (hi : i.natAbs < 2 ^ 200) (hj : j.natAbs < 2 ^ 200) : mulD (.int i) (.int j) S = some (.int (i * j), S) := p_mul 200 (k := 200) (by decide) (by decide) hi hj
theorem p_mod (h : 0 < j) : modD (.int i) (.int j) S = some (.int (i % j), S) := by
  show (if 0 < j then some (D.int (i % j), S) else none) = _
  rw [if_pos h]
theorem p_fdiv (h : 0 < j) (hb : j < 2 ^ 200) : fdivD (.int i) (.int j) S = some (.int (i / j), S) := by
  show (if 0 < j ∧ j.natAbs.log2 < 9000 then some (D.int (i / j), S) else none) = _
  rw [if_pos]
  refine ⟨h, ?_⟩
  have h0 : j.natAbs ≠ 0 := by omega
  have : j.natAbs < 2 ^ 200 := by
    have e : ((2 ^ 200 : Nat) : Int) = (2 ^ 200 : Int) := by simp
    have : (j.natAbs : Int) < ((2 ^ 200 : Nat) : Int) := by rw [e]; rw [show ((j.natAbs : Nat) : Int) = j by omega]; exact hb
    exact Int.ofNat_lt.mp this
  have := (Nat.log2_lt h0).mpr this
  omega
theorem p_sq (hi : i.natAbs < 2 ^ 200) : powD (.int i) (.int 2) S = some (.int (i * i), S) := by
  have a := bits_lt hi
  have : powOk i 2 = true := by
    unfold powOk
    rw [decide_eq_true_eq]
    omega
  show (if powOk i 2 = true then some (D.int (i ^ 2), S) else none) = _
  rw [if_pos this, Int.pow_succ, Int.pow_succ, Int.pow_zero, Int.one_mul]
theorem p_pw (n : Nat) (h : powOk i (n : Int) = true) : powD (.int i) (.int (n : Int)) S = some (.int (i ^ n), S) := by
  show (if powOk i (n : Int) = true then some (D.int (i ^ (n : Int).toNat), S) else none) = _
  rw [if_pos h, Int.toNat_natCast]
@[simp] theorem p_10_9 : powD (.int 10) (.int 9) S = some (.int 1000000000, S) := p_pw 9 (by decide)
@[simp] theorem p_10_18 : powD (.int 10) (.int 18) S = some (.int 1000000000000000000, S) := p_pw 18 (by decide)
@[simp] theorem p_10_30 : powD (.int 10) (.int 30) S = some (.int 1000000000000000000000000000000, S) := p_pw 30 (by decide)
@[simp] theorem p_10_31 : powD (.int 10) (.int 31) S = some (.int 10000000000000000000000000000000, S) := p_pw 31 (by decide)

/-! ### equality -/
@[simp] theorem p_eqi : eqO S (.int i) (.int j) = some (decide (i = j)) := by
  show some (i == j) = _
  rfl
@[simp] theorem p_eqb : eqO S (.bl a) (.bl b) = some (a == b) := by exact rfl
@[simp] theorem p_eqD {d e : D} : eqD d e S = (eqO S d e).map fun b => (.bl b, S) := by exact rfl
@[simp] theorem p_neD {d e : D} : neD d e S = (eqO S d e).map fun b => (.bl (!b), S) := by exact rfl
/-! ### isinstance -/
@[simp] theorem p_isi_ii : isiD [.int i, .ty "int"] S = some (.bl true, S) := by exact rfl
@[simp] theorem p_isi_ib : isiD [.int i, .ty "bool"] S = some (.bl false, S) := by exact rfl
@[simp] theorem p_isi_tt : isiD [.tup ds, .ty "tuple"] S = some (.bl true, S) := by exact rfl
end

/-! ### the store -/
section
variable {S S' S'' : Sto} {n m : Nat} {ds es : List D} {G : Sto}
theorem lst_of (h : S[n]? = some (.lst ds)) : lstAt S n = some ds := by simp [lstAt, h]
theorem lst_to (h : lstAt S n = some ds) : S[n]? = some (.lst ds) := by
  unfold lstAt at h
  split at h
  · rename_i e; cases h; exact e
  · cases h
theorem lst_lt (h : lstAt S n = some ds) : n < S.length := by
  have := lst_to h
  exact (List.getElem?_eq_some_iff.mp this).1
@[simp] theorem lst_new : lstAt (S ++ [.lst ds]) S.length = some ds := lst_of (by simp)
@[simp] theorem lst_ap0 : lstAt (S ++ .lst ds :: G) S.length = some ds := lst_of (by simp)
@[simp] theorem lst_ap1 {a : SO} : lstAt (S ++ a :: .lst ds :: G) (S.length + 1) = some ds := lst_of (by simp)
@[simp] theorem lst_ap2 {a b : SO} : lstAt (S ++ a :: b :: .lst ds :: G) (S.length + 2) = some ds := lst_of (by simp)
@[simp] theorem lst_ap3 {a b c : SO} : lstAt (S ++ a :: b :: c :: .lst ds :: G) (S.length + 3) = some ds := lst_of (by simp)
theorem lst_app (h : lstAt S n = some ds) : lstAt (S ++ G) n = some ds := by
  have := lst_lt h
  exact lst_of (by rw [List.getElem?_append_left this]; exact lst_to h)
theorem lst_set (h : n < S.length) : lstAt (S.set n (.lst ds)) n = some ds := lst_of (by rw [List.getElem?_set_self h])
theorem lst_ne (h : n ≠ m) : lstAt (S.set n (.lst ds)) m = lstAt S m := by
  unfold lstAt
  rw [List.getElem?_set_ne h]
/-- all but W stays -/
structure Fr (W : List Nat) (S S' : Sto) : Prop where
  len : S.length ≤ S'.length
  at_ : ∀ i, i < S.length → i ∉ W → S'[i]? = S[i]?
theorem Fr.refl {W : List Nat} : Fr W S S := ⟨Nat.le_refl _, fun _ _ _ => rfl⟩
theorem Fr.trans {W : List Nat} (a : Fr W S S') (b : Fr W S' S'') : Fr W S S'' := ⟨Nat.le_trans a.len b.len, fun i h w => (b.at_ i (Nat.lt_of_lt_of_le h a.len) w).trans (a.at_ i h w)⟩
theorem Fr.app {W : List Nat} : Fr W S (S ++ G) := ⟨by simp, fun i h _ => List.getElem?_append_left h⟩
theorem Fr.set {W : List Nat} {x : SO} (h : n ∈ W) : Fr W S (S.set n x) := ⟨by simp, fun i _ w => List.getElem?_set_ne (fun e => by subst e; exact w h)⟩
theorem Fr.sub {W W' : List Nat} (a : Fr W S S') (h : ∀ i ∈ W, i < S.length → i ∈ W') : Fr W' S S' := ⟨a.len, fun i hi w => a.at_ i hi fun z => w (h i z hi)⟩
theorem Fr.lst {W : List Nat} (a : Fr W S S') (h : lstAt S n = some ds) (w : n ∉ W) : lstAt S' n = some ds := lst_of (by rw [a.at_ n (lst_lt h) w]; exact lst_to h)
/-- .. where the new ones may have been written -/
theorem Fr.drop {W : List Nat} (a : Fr W S' S'') (b : Fr [] S S') (h : ∀ i ∈ W, S.length ≤ i) : Fr [] S S'' := ⟨Nat.le_trans b.len a.len, fun i hi _ => (a.at_ i (Nat.lt_of_lt_of_le hi b.len) fun z => Nat.not_le.mpr hi (h i z)).trans (b.at_ i hi (List.not_mem_nil))⟩
end

/-! ### for: an invariant -/
def Fw (J : Env → Sto → Prop) (Q : Fl → Sto → Prop) : Fl → Sto → Prop
  | .nx e, S => J e S
  | .ct e, S => J e S
  | .bk e, S => Q (.nx e) S
  | .rt d, S => Q (.rt d) S
section
variable {J : Env → Sto → Prop} {Q : Fl → Sto → Prop} {e : Env} {S : Sto} {d : D}
@[simp] theorem Fw_nx : Fw J Q (.nx e) S = J e S := by exact rfl
@[simp] theorem Fw_ct : Fw J Q (.ct e) S = J e S := by exact rfl
@[simp] theorem Fw_bk : Fw J Q (.bk e) S = Q (.nx e) S := by exact rfl
@[simp] theorem Fw_rt : Fw J Q (.rt d) S = Q (.rt d) S := by exact rfl
end
theorem for_inv {it : IT} {g : FG} {b : FS} {xs : List D} {I : Nat → Env → Sto → Prop} {Q : Fl → Sto → Prop}
    (hn : ∀ i env S, i ≤ xs.length → I i env S → nxt it i S = some xs[i]?)
    (hs : ∀ i env S (h : i < xs.length), I i env S → ∀ J : Env → Sto → Prop, (∀ e S', I (i + 1) e S' → J e S') → Ok (g xs[i] env S) (Then b (Fw J Q)))
    (hd : ∀ env S, I xs.length env S → Q (.nx env) S) : ∀ (k i : Nat) (env : Env) (S : Sto), i + k = xs.length → I i env S → Ok (forF it g b (k + 1) i env S) Q
  | 0, i, env, S, hk, h => by
    have e : i = xs.length := by omega
    subst e
    rw [v_fors, hn _ env S (Nat.le_refl _) h]
    rw [List.getElem?_eq_none (Nat.le_refl _)]
    exact hd env S h
  | k + 1, i, env, S, hk, h => by
    have hl : i < xs.length := by omega
    rw [v_fors, hn _ env S (by omega) h, List.getElem?_eq_getElem hl, kFs_s, ok_bind]
    refine (hs i env S hl h _ fun _ _ z => z).mono fun e1 S1 h1 => ?_
    rw [then_ap, kFs1_v, ok_bind]
    refine Ok.mono (then_ap.mp h1) fun fl S2 h2 => ?_
    rw [then_ap]
    cases fl with
    | nx e => exact for_inv hn hs hd k (i + 1) e S2 (by omega) h2
    | ct e => exact for_inv hn hs hd k (i + 1) e S2 (by omega) h2
    | bk e => exact h2
    | rt d => exact h2
theorem for_items {g : FG} {b : FS} {xs : List D} {env : Env} {S : Sto} {Q : Fl → Sto → Prop} (I : Nat → Env → Sto → Prop) (h : I 0 env S)
    (hs : ∀ i env S (h : i < xs.length), I i env S → ∀ J : Env → Sto → Prop, (∀ e S', I (i + 1) e S' → J e S') → Ok (g xs[i] env S) (Then b (Fw J Q)))
    (hd : ∀ env S, I xs.length env S → Q (.nx env) S) : Ok (forF (.items xs) g b (turns (.items xs) S + 1) 0 env S) Q :=
  for_inv (xs := xs) (I := I) (fun _ _ _ _ _ => rfl) hs hd xs.length 0 env S (by omega) h
theorem for_live {g : FG} {b : FS} {xs : List D} {n : Nat} {env : Env} {S : Sto} {Q : Fl → Sto → Prop} (I : Nat → Env → Sto → Prop) (h : I 0 env S)
    (hl : ∀ i env S, I i env S → lstAt S n = some xs)
    (hs : ∀ i env S (h : i < xs.length), I i env S → ∀ J : Env → Sto → Prop, (∀ e S', I (i + 1) e S' → J e S') → Ok (g xs[i] env S) (Then b (Fw J Q)))
    (hd : ∀ env S, I xs.length env S → Q (.nx env) S) : Ok (forF (.live n) g b (turns (.live n) S + 1) 0 env S) Q := by
  have e : turns (.live n) S = xs.length := by simp [turns, hl 0 env S h]
  rw [e]
  exact for_inv (xs := xs) (I := I) (fun i env S _ h => by simp [nxt, hl i env S h]) hs hd xs.length 0 env S (by omega) h
/-- a range -/
theorem for_upTo {g : FG} {b : FS} {m : Nat} {env : Env} {S : Sto} {Q : Fl → Sto → Prop} (I : Nat → Env → Sto → Prop) (h : I 0 env S)
    (hs : ∀ i env S (h : i < m), I i env S → ∀ J : Env → Sto → Prop, (∀ e S', I (i + 1) e S' → J e S') → Ok (g (.int (i : Nat)) env S) (Then b (Fw J Q)))
    (hd : ∀ env S, I m env S → Q (.nx env) S) : Ok (forF (.items (upTo 0 m)) g b (turns (.items (upTo 0 m)) S + 1) 0 env S) Q := by
  have el : (upTo 0 m).length = m := upTo_length m 0
  refine for_items I h (fun i env S hi hI J hJ => ?_) (fun env S hI => hd env S (by rw [el] at hI; exact hI))
  have hi' : i < m := by rw [el] at hi; exact hi
  have e : (upTo 0 m)[i] = .int (i : Nat) := by
    have := upTo_get m 0 i hi'
    rw [List.getElem?_eq_getElem hi, Int.zero_add] at this
    exact Option.some.inj this
  rw [e]
  exact hs i env S hi' hI J hJ
end PV

set_option Elab.async false
set_option linter.all false
set_option maxRecDepth 100000
set_option maxHeartbeats 3999000
namespace PV
open L2 PyProof.Rows PySem PySem.Spec
abbrev Fuel := Nat → Fns
def Has (R : Fuel) (x : Str) (nN np : Nat) (B : Fns → FS) : Prop := ∀ k ds S, R (k + 1) x ds S = runB nN np (B (R k)) ds S
def X_is_integer (C : Fns) : FS :=
 (sSeq (sRet (eAnd (eCB isiD (aCons (eVar 0) (aCons (eC (.ty "int")) aNil))) (eNot (eCB isiD (aCons (eVar 0) (aCons (eC (.ty "bool")) aNil))))))
 sNil)
-- is_integer: 1 1
def X_is_between (C : Fns) : FS :=
 (sSeq (sRet (eAnd (eCall (C "is_integer") [.pos 0] [] (aCons (eVar 0) aNil) aNil) (eCh (ordD .le) (ordD .le) (eVar 1) (eVar 0) (eVar 2))))
 sNil)
-- is_between: 3 3
def X_is_coordinate (C : Fns) : FS :=
 (sSeq (sRet (eCall (C "is_between") [.pos 0, .pos 1, .pos 2] [] (aCons (eVar 0) (aCons (eUn negD (eC (.int 1000000000000000000000000000000))) (aCons (eC (.int 1000000000000000000000000000000)) aNil))) aNil))
 sNil)
-- is_coordinate: 1 1
def X_is_point (C : Fns) : FS :=
 (sSeq (sRet (eAnd (eCB isiD (aCons (eVar 0) (aCons (eC (.ty "tuple")) aNil))) (eAnd (eBin eqD (eCB lenD (aCons (eVar 0) aNil)) (eC (.int 2))) (eAnd (eCall (C "is_coordinate") [.pos 0] [] (aCons (eBin ixDD (eVar 0) (eC (.int 0))) aNil) aNil) (eCall (C "is_coordinate") [.pos 0] [] (aCons (eBin ixDD (eVar 0) (eC (.int 1))) aNil) aNil)))))
 sNil)
-- is_point: 1 1
def X_require_point (C : Fns) : FS :=
 (sSeq (sIf (tNotF (tVal (eCall (C "is_point") [.pos 0] [] (aCons (eVar 0) aNil) aNil)))
 (sSeq sStk
 sNil)
 sNil)
 sNil)
-- require_point: 1 1
def X_is_interval (C : Fns) : FS :=
 (sSeq (sIf (tNotF (tVal (eCB allD (aCons (eLc [2] (iSeq (eTup (aCons (eVar 0) (aCons (eVar 1) aNil)))) (gNm 2) tYes' (eOr (eBin isD (eVar 2) (eC .non)) (eCall (C "is_between") [.pos 0, .pos 1, .pos 2] [] (aCons (eVar 2) (aCons (eUn negD (eC (.int 10000000000000000000000000000000))) (aCons (eC (.int 10000000000000000000000000000000)) aNil))) aNil))) aNil))))
 (sSeq (sRet (eC (.bl false)))
 sNil)
 sNil)
 (sSeq (sRet (eOr (eBin isD (eVar 0) (eC .non)) (eOr (eBin isD (eVar 1) (eC .non)) (eBin (ordD .le) (eVar 0) (eVar 1)))))
 sNil))
-- is_interval: 3 2
def X_is_rectangle (C : Fns) : FS :=
 (sSeq (sIf (tOrF (tNotF (tVal (eCB isiD (aCons (eVar 0) (aCons (eC (.ty "tuple")) aNil))))) (tB' (eBin neD (eCB lenD (aCons (eVar 0) aNil)) (eC (.int 4)))))
 (sSeq (sRet (eC (.bl false)))
 sNil)
 sNil)
 (sSeq (sRet (eAnd (eCall (C "is_interval") [.pos 0, .pos 1] [] (aCons (eBin ixDD (eVar 0) (eC (.int 0))) (aCons (eBin ixDD (eVar 0) (eC (.int 2))) aNil)) aNil) (eCall (C "is_interval") [.pos 0, .pos 1] [] (aCons (eBin ixDD (eVar 0) (eC (.int 1))) (aCons (eBin ixDD (eVar 0) (eC (.int 3))) aNil)) aNil)))
 sNil))
-- is_rectangle: 1 1
def X_require_rectangle (C : Fns) : FS :=
 (sSeq (sIf (tNotF (tVal (eCall (C "is_rectangle") [.pos 0] [] (aCons (eVar 0) aNil) aNil)))
 (sSeq sStk
 sNil)
 sNil)
 sNil)
-- require_rectangle: 1 1
def X_holds (C : Fns) : FS :=
 (sSeq (sFor (iSeq (eTup (aCons (eC (.int 0)) (aCons (eC (.int 1)) aNil)))) (gNm 2)
 (sSeq (sPar 3 4 (aCons (eBin ixDD (eVar 0) (eVar 2)) (aCons (eBin ixDD (eVar 0) (eBin addD (eVar 2) (eC (.int 2)))) aNil)))
 (sSeq (sIf (tOrF (tAndF (tB' (eBin isNotD (eVar 3) (eC .non))) (tB' (eBin (ordD .lt) (eBin ixDD (eVar 1) (eVar 2)) (eVar 3)))) (tAndF (tB' (eBin isNotD (eVar 4) (eC .non))) (tB' (eBin (ordD .gt) (eBin ixDD (eVar 1) (eVar 2)) (eVar 4)))))
 (sSeq (sRet (eC (.bl false)))
 sNil)
 sNil)
 sNil)))
 (sSeq (sRet (eC (.bl true)))
 sNil))
-- holds: 5 2
def X_is_inside (C : Fns) : FS :=
 (sSeq (sExpr (eCall (C "require_point") [.pos 0] [] (aCons (eVar 0) aNil) aNil))
 (sSeq (sExpr (eCall (C "require_rectangle") [.pos 0] [] (aCons (eVar 1) aNil) aNil))
 (sSeq (sRet (eCall (C "holds") [.pos 0, .pos 1] [] (aCons (eVar 1) (aCons (eVar 0) aNil)) aNil))
 sNil)))
-- is_inside: 2 2
def X_distance (C : Fns) : FS :=
 (sSeq (sExpr (eCall (C "require_point") [.pos 0] [] (aCons (eVar 0) aNil) aNil))
 (sSeq (sExpr (eCall (C "require_point") [.pos 0] [] (aCons (eVar 1) aNil) aNil))
 (sSeq (sRet (eBin addD (eBin powD (eBin subD (eBin ixDD (eVar 0) (eC (.int 0))) (eBin ixDD (eVar 1) (eC (.int 0)))) (eC (.int 2))) (eBin powD (eBin subD (eBin ixDD (eVar 0) (eC (.int 1))) (eBin ixDD (eVar 1) (eC (.int 1)))) (eC (.int 2)))))
 sNil)))
-- distance: 2 2
def X_gap (C : Fns) : FS :=
 (sSeq (sExpr (eCall (C "require_point") [.pos 0] [] (aCons (eVar 0) aNil) aNil))
 (sSeq (sExpr (eCall (C "require_rectangle") [.pos 0] [] (aCons (eVar 1) aNil) aNil))
 (sSeq (sRet (eCall (C "gap_of") [.pos 0, .pos 1] [] (aCons (eVar 0) (aCons (eVar 1) aNil)) aNil))
 sNil)))
-- gap: 2 2
def X_gap_of (C : Fns) : FS :=
 (sSeq (sAsg (eC (.int 0)) (gNm 2))
 (sSeq (sFor (iSeq (eTup (aCons (eC (.int 0)) (aCons (eC (.int 1)) aNil)))) (gNm 3)
 (sSeq (sPar 4 5 (aCons (eBin ixDD (eVar 1) (eVar 3)) (aCons (eBin ixDD (eVar 1) (eBin addD (eVar 3) (eC (.int 2)))) aNil)))
 (sSeq (sIf (tAndF (tB' (eBin isNotD (eVar 4) (eC .non))) (tB' (eBin (ordD .lt) (eBin ixDD (eVar 0) (eVar 3)) (eVar 4))))
 (sSeq (sAug 2 iaddD (eBin powD (eBin subD (eVar 4) (eBin ixDD (eVar 0) (eVar 3))) (eC (.int 2))))
 sNil)
 sNil)
 (sSeq (sIf (tAndF (tB' (eBin isNotD (eVar 5) (eC .non))) (tB' (eBin (ordD .gt) (eBin ixDD (eVar 0) (eVar 3)) (eVar 5))))
 (sSeq (sAug 2 iaddD (eBin powD (eBin subD (eBin ixDD (eVar 0) (eVar 3)) (eVar 5)) (eC (.int 2))))
 sNil)
 sNil)
 sNil))))
 (sSeq (sRet (eVar 2))
 sNil)))
-- gap_of: 6 2
def X__law_mixed (C : Fns) : FS :=
 (sSeq (sAsg (eBin modD (eCB intD (aCons (eBin mulD (eBin addD (eBin modD (eCB intD (aCons (eVar 0) aNil)) (eC (.int 2147483646))) (eC (.int 1))) (eBin addD (eBin mulD (eVar 1) (eC (.int 7919))) (eC (.int 104729)))) aNil)) (eC (.int 2147483647))) (gNm 2))
 (sSeq (sAsg (eBin modD (eCB intD (aCons (eBin mulD (eBin addD (eVar 2) (eBin mulD (eBin modD (eCB intD (aCons (eBin fdivD (eVar 0) (eC (.int 2147483646))) aNil)) (eC (.int 1000003))) (eBin addD (eVar 1) (eC (.int 31))))) (eC (.int 48271))) aNil)) (eC (.int 2147483629))) (gNm 2))
 (sSeq (sAsg (eBin modD (eCB intD (aCons (eBin mulD (eVar 2) (eBin addD (eBin addD (eBin fdivD (eVar 2) (eC (.int 1013))) (eC (.int 69621))) (eVar 1))) aNil)) (eC (.int 2147483587))) (gNm 2))
 (sSeq (sRet (eBin modD (eCB intD (aCons (eBin mulD (eVar 2) (eBin addD (eBin fdivD (eVar 2) (eC (.int 2003))) (eC (.int 40692)))) aNil)) (eC (.int 2147483563))))
 sNil))))
-- _law_mixed: 3 2
def X__law_source (C : Fns) : FS :=
 (sSeq (sIf (tB' (eBin (ordD .ge) (eCB absD (aCons (eVar 0) aNil)) (eBin powD (eC (.int 10)) (eC (.int 18)))))
 (sSeq (sRet (eLst (aCons (eCB absD (aCons (eVar 0) aNil)) (aCons (eCB absD (aCons (eVar 0) aNil)) (aCons (eC (.int 0)) aNil)))))
 sNil)
 sNil)
 (sSeq (sRet (eLst (aCons (eC (.int 0)) (aCons (eCB absD (aCons (eVar 0) aNil)) (aCons (eC (.int 0)) aNil)))))
 sNil))
-- _law_source: 1 1
def X__law_take (C : Fns) : FS :=
 (sSeq (sIf (tB' (eBin (ordD .gt) (eBin ixDD (eVar 0) (eC (.int 0))) (eC (.int 0))))
 (sSeq (sAsg (eBin modD (eCB intD (aCons (eBin ixDD (eVar 0) (eC (.int 0))) aNil)) (eVar 1)) (gNm 2))
 (sSeq (sAsg (eBin fdivD (eBin ixDD (eVar 0) (eC (.int 0))) (eVar 1)) (gSb (eVar 0) (eC (.int 0))))
 (sSeq (sRet (eVar 2))
 sNil)))
 sNil)
 (sSeq (sAsg (eBin addD (eBin ixDD (eVar 0) (eC (.int 2))) (eC (.int 1))) (gSb (eVar 0) (eC (.int 2))))
 (sSeq (sRet (eBin modD (eCB intD (aCons (eCall (C "_law_mixed") [.pos 0, .pos 1] [] (aCons (eBin ixDD (eVar 0) (eC (.int 1))) (aCons (eBin ixDD (eVar 0) (eC (.int 2))) aNil)) aNil) aNil)) (eVar 1)))
 sNil)))
-- _law_take: 3 2
def X__law_pick (C : Fns) : FS :=
 (sSeq (sRet (eBin ixDD (eVar 1) (eCall (C "_law_take") [.pos 0, .pos 1] [] (aCons (eVar 0) (aCons (eCB lenD (aCons (eVar 1) aNil)) aNil)) aNil)))
 sNil)
-- _law_pick: 2 2
def X__law_spots (C : Fns) : FS :=
 (sSeq (sPar 2 3 (aCons (eCall (C "_law_take") [.pos 0, .pos 1] [] (aCons (eVar 0) (aCons (eBin addD (eVar 1) (eC (.int 1))) aNil)) aNil) (aCons (eCall (C "_law_pick") [.pos 0, .pos 1] [] (aCons (eVar 0) (aCons (eLst (aCons (eC (.int 3)) (aCons (eC (.int 6)) (aCons (eC (.int 20)) (aCons (eBin powD (eC (.int 10)) (eC (.int 9))) (aCons (eBin powD (eC (.int 10)) (eC (.int 30))) aNil)))))) aNil)) aNil) aNil)))
 (sSeq (sAsg (eLst aNil) (gNm 4))
 (sSeq (sFor (iRg (aCons (eVar 2) aNil)) (gNm 5)
 (sSeq (sAsg (eTup (aCons (eBin subD (eCall (C "_law_take") [.pos 0, .pos 1] [] (aCons (eVar 0) (aCons (eBin addD (eBin mulD (eC (.int 2)) (eVar 3)) (eC (.int 1))) aNil)) aNil) (eVar 3)) (aCons (eBin subD (eCall (C "_law_take") [.pos 0, .pos 1] [] (aCons (eVar 0) (aCons (eBin addD (eBin mulD (eC (.int 2)) (eVar 3)) (eC (.int 1))) aNil)) aNil) (eVar 3)) aNil))) (gNm 6))
 (sSeq (sAsg (eBin addD (eVar 4) (eBin mulD (eLst (aCons (eVar 6) aNil)) (eCB intD (aCons (eBin notInDD (eVar 6) (eVar 4)) aNil)))) (gNm 4))
 sNil)))
 (sSeq (sRet (eVar 4))
 sNil))))
-- _law_spots: 7 2
section
variable {R : Fuel} {k : Nat} {S : Sto} {i j a b : Int}
theorem is_integer_int (H : Has R "is_integer" 1 1 X_is_integer) : R (k + 1) "is_integer" [.int i] S = .ok (.bl true) S := by
  rw [H]
  rfl
structure Pts (R : Fuel) : Prop where
  h1 : Has R "is_integer" 1 1 X_is_integer
  h2 : Has R "is_between" 3 3 X_is_between
  h3 : Has R "is_coordinate" 1 1 X_is_coordinate
  h4 : Has R "is_point" 1 1 X_is_point
theorem is_between_int (H : Pts R) : R (k + 2) "is_between" [.int i, .int a, .int b] S = .ok (.bl (decide (a ≤ i) && decide (i ≤ b))) S := by
  rw [H.h2]
  simp [X_is_between, arr, pick, is_integer_int H.h1]
  by_cases h : a ≤ i <;> simp [h]
def cTop : Int := 1000000000000000000000000000000
theorem is_coordinate_int (H : Pts R) : R (k + 3) "is_coordinate" [.int i] S = .ok (.bl (decide (-cTop ≤ i) && decide (i ≤ cTop))) S := by
  rw [H.h3]
  simp [X_is_coordinate, arr, pick, is_between_int H, cTop]
  rfl
/-- a point -/
def pD (p : Int × Int) : D := .tup [.int p.1, .int p.2]
def PtOk (p : Int × Int) : Prop := -cTop ≤ p.1 ∧ p.1 ≤ cTop ∧ -cTop ≤ p.2 ∧ p.2 ≤ cTop
theorem is_point_pt (H : Pts R) {p : Int × Int} (hp : PtOk p) : R (k + 4) "is_point" [pD p] S = .ok (.bl true) S := by
  obtain ⟨h1, h2, h3, h4⟩ := hp
  rw [H.h4]
  simp [X_is_point, arr, pick, is_coordinate_int H, pD, h1, h2, h3, h4]
theorem require_point_pt (H : Pts R) (H5 : Has R "require_point" 1 1 X_require_point) {p : Int × Int} (hp : PtOk p) : R (k + 5) "require_point" [pD p] S = .ok .non S := by
  rw [H5]
  simp [X_require_point, arr, pick, is_point_pt H hp]

/-! rectangles -/
def oD : Option Int → D
  | none => .non
  | some i => .int i
@[simp] theorem oD_n : oD none = .non := by exact rfl
@[simp] theorem oD_s {i : Int} : oD (some i) = .int i := by exact rfl
def bTop : Int := 10000000000000000000000000000000
def EndOk (o : Option Int) : Prop := ∀ i, o = some i → -bTop ≤ i ∧ i ≤ bTop
def IvOk (l h : Option Int) : Prop := EndOk l ∧ EndOk h ∧ ∀ i j, l = some i → h = some j → i ≤ j
structure Box where
  x0 : Option Int
  y0 : Option Int
  x1 : Option Int
  y1 : Option Int
def bD (q : Box) : D := .tup [oD q.x0, oD q.y0, oD q.x1, oD q.y1]
def BoxOk (q : Box) : Prop := IvOk q.x0 q.x1 ∧ IvOk q.y0 q.y1
structure Rcs (R : Fuel) : Prop where
  h0 : Pts R
  h1 : Has R "is_interval" 3 2 X_is_interval
  h2 : Has R "is_rectangle" 1 1 X_is_rectangle
  h3 : Has R "require_rectangle" 1 1 X_require_rectangle
  h4 : Has R "holds" 5 2 X_holds
  h5 : Has R "gap_of" 6 2 X_gap_of
theorem is_interval_iv (H : Rcs R) {l h : Option Int} (hv : IvOk l h) : ∃ G, R (k + 3) "is_interval" [oD l, oD h] S = .ok (.bl true) (S ++ G) := by
  obtain ⟨h1, h2, h3⟩ := hv
  have hz : sizeLine = 16777216 := rfl
  rw [H.h1]
  cases l with
  | none =>
    cases h with
    | none =>
      refine ⟨[.lst [.bl true, .bl true]], ?_⟩
      simp [X_is_interval, arr, pick, itOf, turns, v_lcs, nxt, is_between_int H.h0, hz, nox, wipeE, allD, boolsOf, mapO]
    | some j =>
      have := h2 j rfl
      simp only [bTop] at this
      refine ⟨[.lst [.bl true, .bl true]], ?_⟩
      simp [X_is_interval, arr, pick, itOf, turns, v_lcs, nxt, is_between_int H.h0, hz, nox, wipeE, allD, boolsOf, mapO, this]
  | some i =>
    have t1 := h1 i rfl
    simp only [bTop] at t1
    cases h with
    | none =>
      refine ⟨[.lst [.bl true, .bl true]], ?_⟩
      simp [X_is_interval, arr, pick, itOf, turns, v_lcs, nxt, is_between_int H.h0, hz, nox, wipeE, allD, boolsOf, mapO, t1]
    | some j =>
      have t2 := h2 j rfl
      simp only [bTop] at t2
      have t3 := h3 i j rfl rfl
      refine ⟨[.lst [.bl true, .bl true]], ?_⟩
      simp [X_is_interval, arr, pick, itOf, turns, v_lcs, nxt, is_between_int H.h0, hz, nox, wipeE, allD, boolsOf, mapO, t1, t2, t3]
theorem is_rectangle_box (H : Rcs R) {q : Box} (hq : BoxOk q) : ∃ G, R (k + 4) "is_rectangle" [bD q] S = .ok (.bl true) (S ++ G) := by
  rw [H.h2]
  obtain ⟨G1, e1⟩ := is_interval_iv (k := k) (S := S) H hq.1
  obtain ⟨G2, e2⟩ := is_interval_iv (k := k) (S := S ++ G1) H hq.2
  refine ⟨G1 ++ G2, ?_⟩
  simp [X_is_rectangle, arr, pick, bD, e1, e2]
theorem require_rectangle_box (H : Rcs R) {q : Box} (hq : BoxOk q) : ∃ G, R (k + 5) "require_rectangle" [bD q] S = .ok .non (S ++ G) := by
  rw [H.h3]
  obtain ⟨G, e⟩ := is_rectangle_box (k := k) (S := S) H hq
  exact ⟨G, by simp [X_require_rectangle, arr, pick, e]⟩
def inS (l h : Option Int) (x : Int) : Bool := (match l with | none => true | some i => decide (i ≤ x)) && (match h with | none => true | some j => decide (x ≤ j))
def inB (q : Box) (p : Int × Int) : Bool := inS q.x0 q.x1 p.1 && inS q.y0 q.y1 p.2
theorem holds_box (H : Rcs R) {q : Box} {p : Int × Int} : R (k + 1) "holds" [bD q, pD p] S = .ok (.bl (inB q p)) S := by
  rw [H.h4]
  obtain ⟨x0, y0, x1, y1⟩ := q
  obtain ⟨x, y⟩ := p
  cases x0 <;> cases x1 <;> cases y0 <;> cases y1 <;> simp [X_holds, itOf, turns, v_fors, nxt, bD, pD, inB, inS]
  all_goals
    (repeat' split) <;> simp <;> omega
def sq (i : Int) : Int := i * i
def gapS (l h : Option Int) (x : Int) : Int := (match l with | none => 0 | some i => if x < i then (i - x) * (i - x) else 0) + (match h with | none => 0 | some j => if j < x then (x - j) * (x - j) else 0)
def gapB (q : Box) (p : Int × Int) : Int := gapS q.x0 q.x1 p.1 + gapS q.y0 q.y1 p.2
theorem sq_end {o : Option Int} {x : Int} (h : EndOk o) (h1 : -1000000000000000000000000000000 ≤ x) (h2 : x ≤ 1000000000000000000000000000000) : ∀ i, o = some i → (∀ S, powD (.int (i - x)) (.int 2) S = some (.int ((i - x) * (i - x)), S)) ∧ ∀ S, powD (.int (x - i)) (.int 2) S = some (.int ((x - i) * (x - i)), S) := by
  intro i e
  have := h i e
  simp only [bTop] at this
  exact ⟨fun S => p_sq (by omega), fun S => p_sq (by omega)⟩
theorem gap_of_box (H : Rcs R) {q : Box} {p : Int × Int} (hq : BoxOk q) (hp : PtOk p) : R (k + 1) "gap_of" [pD p, bD q] S = .ok (.int (gapB q p)) S := by
  rw [H.h5]
  obtain ⟨x0, y0, x1, y1⟩ := q
  obtain ⟨x, y⟩ := p
  obtain ⟨⟨a1, a2, _⟩, ⟨a3, a4, _⟩⟩ := hq
  obtain ⟨b1, b2, b3, b4⟩ := hp
  simp only [cTop] at b1 b2 b3 b4
  have s1 := sq_end a1 b1 b2
  have s2 := sq_end a2 b1 b2
  have s3 := sq_end a3 b3 b4
  have s4 := sq_end a4 b3 b4
  clear a1 a2 a3 a4 b1 b2 b3 b4
  cases x0 <;> cases x1 <;> cases y0 <;> cases y1 <;> simp only [Option.some.injEq, forall_eq', reduceCtorEq, false_implies, implies_true] at s1 s2 s3 s4 <;> simp [X_gap_of, itOf, turns, v_fors, nxt, bD, pD, gapB, gapS, s1, s2, s3, s4]
  all_goals
    (repeat' split) <;> simp [Int.add_assoc]

end
end PV

set_option Elab.async false
set_option linter.all false
set_option maxRecDepth 100000
set_option maxHeartbeats 3999000
namespace PV
open L2 PyProof.Rows PySem PySem.Spec
structure Drw (R : Fuel) : Prop where
  h1 : Has R "_law_mixed" 3 2 X__law_mixed
  h2 : Has R "_law_source" 1 1 X__law_source
  h3 : Has R "_law_take" 3 2 X__law_take
  h4 : Has R "_law_pick" 2 2 X__law_pick
section
variable {R : Fuel} {k : Nat} {S : Sto} {n m : Nat} {i j a b c : Int}
theorem mul_bd {p q : Nat} (ha : a.natAbs < 2 ^ p) (hb : b.natAbs < 2 ^ q) : (a * b).natAbs < 2 ^ (p + q) := by
  rw [Int.natAbs_mul, Nat.pow_add]
  exact Nat.mul_lt_mul'' ha hb
theorem mixed_ok (H : Drw R) (hb : 0 ≤ b) (hc : 0 ≤ c) (hm : c ≤ 1152921504606846976) : ∃ v, R (k + 1) "_law_mixed" [.int b, .int c] S = .ok (.int v) S ∧ 0 ≤ v := by
  rw [H.h1]
  simp [X__law_mixed, p_mod]
  rw [p_mul64 (by omega) (by omega)]
  simp
  rw [p_mul64 (by omega) (by omega)]
  simp [p_mod]
  generalize hf : (b % 2147483646 + 1) * (c * 7919 + 104729) % 2147483647 = f1
  have h1 : 0 ≤ f1 ∧ f1 < 2147483647 := by
    rw [← hf]
    exact ⟨Int.emod_nonneg _ (by omega), Int.emod_lt_of_pos _ (by omega)⟩
  rw [p_fdiv (by omega) (by omega)]
  simp [p_mod]
  have h2 : 0 ≤ b / 2147483646 % 1000003 ∧ b / 2147483646 % 1000003 < 1000003 := ⟨Int.emod_nonneg _ (by omega), Int.emod_lt_of_pos _ (by omega)⟩
  generalize b / 2147483646 % 1000003 = g1 at *
  rw [p_mul64 (by omega) (by omega)]
  simp
  have h3 : (g1 * (c + 31)).natAbs < 2 ^ (21 + 62) := mul_bd (by omega) (by omega)
  generalize g1 * (c + 31) = g2 at *
  rw [p_mul64 (by omega) (by omega)]
  simp [p_mod]
  generalize hf2 : (f1 + g2) * 48271 % 2147483629 = f2
  have h4 : 0 ≤ f2 ∧ f2 < 2147483629 := by
    rw [← hf2]
    exact ⟨Int.emod_nonneg _ (by omega), Int.emod_lt_of_pos _ (by omega)⟩
  rw [p_fdiv (by omega) (by omega)]
  simp
  have h5 : 0 ≤ f2 / 1013 ∧ f2 / 1013 < 2147483629 := by omega
  rw [p_mul64 (by omega) (by omega)]
  simp [p_mod]
  generalize hf3 : f2 * (f2 / 1013 + 69621 + c) % 2147483587 = f3
  have h6 : 0 ≤ f3 ∧ f3 < 2147483587 := by
    rw [← hf3]
    exact ⟨Int.emod_nonneg _ (by omega), Int.emod_lt_of_pos _ (by omega)⟩
  rw [p_fdiv (by omega) (by omega)]
  simp
  rw [p_mul64 (by omega) (by omega)]
  simp [p_mod]
  exact Int.emod_nonneg _ (by omega)
/-- a source of draws: at n, m more at least -/
def SrcAt (S : Sto) (n m : Nat) : Prop := ∃ a b c : Int, lstAt S n = some [.int a, .int b, .int c] ∧ 0 ≤ a ∧ 0 ≤ b ∧ 0 ≤ c ∧ c + m ≤ 1152921504606846976
theorem SrcAt.le {m' : Nat} (h : SrcAt S n m) (hm : m' ≤ m) : SrcAt S n m' := by
  obtain ⟨a, b, c, h1, h2, h3, h4, h5⟩ := h
  exact ⟨a, b, c, h1, h2, h3, h4, by omega⟩
theorem SrcAt.lt (h : SrcAt S n m) : n < S.length := by
  obtain ⟨a, b, c, h1, h2, h3, h4, h5⟩ := h
  exact lst_lt h1
theorem SrcAt.fr {S' : Sto} {W : List Nat} (h : SrcAt S n m) (f : Fr W S S') (hn : n ∉ W) : SrcAt S' n m := by
  obtain ⟨a, b, c, h1, h2⟩ := h
  exact ⟨a, b, c, f.lst h1 hn, h2⟩
theorem SrcAt.app {G : Sto} (h : SrcAt S n m) : SrcAt (S ++ G) n m := h.fr (W := []) .app (List.not_mem_nil)
theorem source_ok (H : Drw R) (i : Int) : ∃ a b, R (k + 1) "_law_source" [.int i] S = .ok (.loc S.length) (S ++ [.lst [.int a, .int b, .int 0]]) ∧ 0 ≤ a ∧ 0 ≤ b := by
  rw [H.h2]
  simp [X__law_source]
  split
  · exact ⟨_, _, rfl, by omega, by omega⟩
  · exact ⟨_, _, rfl, by omega, by omega⟩
theorem source_at (H : Drw R) (i : Int) : Ok (R (k + 1) "_law_source" [.int i] S) fun d S' => d = .loc S.length ∧ S'.length = S.length + 1 ∧ Fr [] S S' ∧ SrcAt S' S.length 1152921504606846976 := by
  obtain ⟨a, b, e, h1, h2⟩ := source_ok (k := k) (S := S) H i
  exact .of e ⟨rfl, by simp, .app, a, b, 0, lst_new, h1, h2, by omega, by omega⟩
theorem set_src {x y z v : D} (h : lstAt S n = some [x, y, z]) : setDD (.loc n) (.int 0) v S = some (S.set n (.lst [v, y, z])) ∧ setDD (.loc n) (.int 2) v S = some (S.set n (.lst [x, y, v])) := by
  rw [p_setl h, p_setl h]
  constructor <;> simp [setD, h, ixN]
theorem take_ok (H : Drw R) (h : SrcAt S n (m + 1)) (hj : 0 < j) (hb : j < 2 ^ 200) : Ok (R (k + 2) "_law_take" [.loc n, .int j] S) fun d S' => ∃ v, d = .int v ∧ 0 ≤ v ∧ v < j ∧ S'.length = S.length ∧ Fr [n] S S' ∧ SrcAt S' n m := by
  obtain ⟨a, b, c, hl, h1, h2, h3, h4⟩ := h
  have hn := lst_lt hl
  rw [H.h3]
  simp [X__law_take, p_ixl hl]
  split
  · rename_i ha
    simp [p_mod hj, p_ixl hl, p_fdiv hj hb, (set_src hl).1]
    exact ⟨Int.emod_nonneg _ (by omega), Int.emod_lt_of_pos _ hj, .set (by simp), _, _, _, lst_set hn, Int.ediv_nonneg h1 (by omega), h2, h3, by omega⟩
  · simp [p_ixl hl, (set_src hl).2]
    have hl' : lstAt (S.set n (.lst [.int a, .int b, .int (c + 1)])) n = some [.int a, .int b, .int (c + 1)] := lst_set hn
    simp [p_ixl hl', arr, pick]
    obtain ⟨v, e, hv⟩ := mixed_ok (k := k) (S := S.set n (.lst [.int a, .int b, .int (c + 1)])) (b := b) (c := c + 1) H h2 (by omega) (by omega)
    simp [e, p_mod hj]
    exact ⟨Int.emod_nonneg _ (by omega), Int.emod_lt_of_pos _ hj, .set (by simp), _, _, _, hl', h1, h2, by omega, by omega⟩
theorem pick_ok (H : Drw R) {p : Nat} {xs : List D} (h : SrcAt S n (m + 1)) (hp : lstAt S p = some xs) (hne : p ≠ n) (h0 : xs ≠ []) (hl : xs.length < 2 ^ 100) : Ok (R (k + 3) "_law_pick" [.loc n, .loc p] S) fun d S' => d ∈ xs ∧ S'.length = S.length ∧ Fr [n] S S' ∧ SrcAt S' n m := by
  rw [H.h4]
  simp [X__law_pick, p_lenl hp, arr, pick]
  have hpos : 0 < xs.length := List.length_pos_iff.mpr h0
  refine (take_ok (k := k) H h (j := xs.length) (by omega) (by omega)).mono ?_
  rintro d S' ⟨v, rfl, hv0, hv1, hl', hf, hs⟩
  have hp' := hf.lst hp (by simp [hne])
  obtain ⟨x, e1, e2, e3⟩ := atI_in hv0 hv1
  simp [p_ixl hp', e1]
  exact ⟨e2, hl', hf, hs⟩
end
end PV

set_option Elab.async false
set_option linter.all false
set_option maxRecDepth 100000
set_option maxHeartbeats 3999000
namespace PV
open L2 PyProof.Rows PySem PySem.Spec
section
variable {R : Fuel} {k : Nat} {S : Sto} {n m : Nat} {i j a b c : Int} {xs ys : List D}
theorem p_cat {p q : Nat} (h1 : lstAt S p = some xs) (h2 : lstAt S q = some ys) (hz : xs.length + ys.length ≤ 16777216) : addD (.loc p) (.loc q) S = some (.loc S.length, S ++ [.lst (xs ++ ys)]) := by
  have hz' : xs.length + ys.length ≤ sizeLine := hz
  simp [addD, h1, h2, hz']
theorem p_rep1 {p : Nat} (h1 : lstAt S p = some xs) (hz : xs.length ≤ 16777216) : mulD (.loc p) (.int 1) S = some (.loc S.length, S ++ [.lst xs]) := by
  have hz' : xs.length ≤ sizeLine := hz
  simp [mulD, h1, hz']
theorem p_rep0 {p : Nat} (h1 : lstAt S p = some xs) : mulD (.loc p) (.int 0) S = some (.loc S.length, S ++ [.lst []]) := by
  simp [mulD, h1]
theorem ok_abs {α : Type} {o : Out α} {Q : α → Sto → Prop} (h : ∀ Q' : α → Sto → Prop, (∀ a S, Q a S → Q' a S) → Ok o Q') : Ok o Q := h Q fun _ _ h => h
/-! points as data -/
def pP (p : Int × Int) : PyData := .tuple [.int p.1, .int p.2]
theorem snap_pt {d : Nat} (p : Int × Int) : snap S (d + 1) (pD p) = some (pP p) := by
  cases d <;> rfl
theorem mapO_map {α β γ : Type} {f : β → Option γ} {g : α → β} {h : α → γ} (e : ∀ a, f (g a) = some (h a)) : ∀ l : List α, mapO f (l.map g) = some (l.map h)
  | [] => rfl
  | a :: r => by simp [mapO, e a, mapO_map e r]
theorem snap_pts {d p : Nat} {ps : List (Int × Int)} (h : lstAt S p = some (ps.map pD)) : snap S (d + 2) (.loc p) = some (.list (ps.map pP)) := by
  show (match lstAt S p with
    | some ds => (mapO (snap S (d + 1)) ds).map PyData.list
    | none => none) = _
  rw [h]
  simp [mapO_map (fun a => snap_pt (S := S) (d := d) a)]
theorem lay_pts : ∀ ps : List (Int × Int), PyData.canLayAll0 (ps.map pP) = true
  | [] => rfl
  | p :: r => by simp [PyData.canLayAll0, lay_pts r, pP, PyData.canLay0]
theorem dep_pts : ∀ ps : List (Int × Int), PyData.depthAll (ps.map pP) ≤ 1
  | [] => by simp [PyData.depthAll]
  | p :: r => by
    have := dep_pts r
    simp [PyData.depthAll, pP, PyData.depth]
    omega
theorem shp_pt (p : Int × Int) : SeqAt.shaped (pP p) = true := by
  simp [SeqAt.shaped, pP, PyData.canLay0, PyData.canLayAll0, PyData.depth, PyData.depthAll]
theorem shp_pts (ps : List (Int × Int)) : SeqAt.shaped (.list (ps.map pP)) = true := by
  have := dep_pts ps
  simp [SeqAt.shaped, PyData.canLay0, lay_pts, PyData.depth]
  omega
theorem eqv_pt (p q : Int × Int) : PyData.eqv (pP p) (pP q) = decide (p = q) := by
  obtain ⟨a, b⟩ := p
  obtain ⟨c, d⟩ := q
  simp only [pP, PyData.eqv, PyData.eqvAll, Bool.and_true]
  rw [Bool.eq_iff_iff]
  simp [Prod.ext_iff]
theorem in_pts {p : Nat} {ps : List (Int × Int)} (h : lstAt S p = some (ps.map pD)) (q : Int × Int) : inO S (pD q) (.loc p) = some (decide (q ∈ ps)) := by
  unfold inO
  rw [show deep = 62 + 2 from rfl, snap_pts h, show (62 + 2 : Nat) = 63 + 1 from rfl, snap_pt]
  simp only [shp_pt, shp_pts, and_self, if_true, List.any_map, Function.comp_def, eqv_pt]
  congr 1
  rw [Bool.eq_iff_iff]
  simp
theorem eq_pts {p r : Nat} {ps qs : List (Int × Int)} (h : lstAt S p = some (ps.map pD)) (h' : lstAt S r = some (qs.map pD)) : eqO S (.loc p) (.loc r) = some (decide (ps = qs)) := by
  unfold eqO
  rw [show deep = 62 + 2 from rfl, snap_pts h, snap_pts h']
  simp only [shp_pts, and_self, if_true]
  congr 1
  simp only [PyData.eqv]
  clear h h'
  induction ps generalizing qs with
  | nil => cases qs <;> simp [PyData.eqvAll]
  | cons a r ih =>
    cases qs with
    | nil => simp [PyData.eqvAll]
    | cons b s => 
      simp only [List.map_cons, PyData.eqvAll, eqv_pt, ih]
      rw [Bool.eq_iff_iff]
      simp
/-! the points that a law draws -/
theorem spots_ok (H : Drw R) (Hs : Has R "_law_spots" 7 2 X__law_spots) {most : Nat} (hm : most ≤ 1000) (h : SrcAt S n (m + 2 * most + 2)) :
    Ok (R (k + 4) "_law_spots" [.loc n, .int most] S) fun d S' => ∃ (p : Nat) (ps : List (Int × Int)), d = .loc p ∧ S.length ≤ p ∧ lstAt S' p = some (ps.map pD) ∧ ps.length ≤ most ∧ (∀ q ∈ ps, PtOk q) ∧ ps.Nodup ∧ Fr [n] S S' ∧ SrcAt S' n m := by
  have hn := h.lt
  refine ok_abs fun Q hQ => ?_
  rw [Hs]
  simp [X__law_spots, arr, pick]
  refine (take_ok (k := k + 1) (m := m + 2 * most + 1) H h (j := (most : Int) + 1) (by omega) (by omega)).mono ?_
  rintro d S1 ⟨v, rfl, hv0, hv1, hl1, hf1, hs1⟩
  simp
  refine (pick_ok (k := k) (p := S1.length) (m := m + 2 * most) H hs1.app lst_new (by omega) (by simp) (by simp)).mono ?_
  rintro d S2 ⟨hw, hl2, hf2, hs2⟩
  have hf2 : Fr [n] S S2 := (hf1.trans .app).trans hf2
  have hs62 : small62 v = true := by
    unfold small62
    rw [decide_eq_true_eq]
    omega
  obtain ⟨w, rfl, hw0, hw1⟩ : ∃ w : Int, d = .int w ∧ 3 ≤ w ∧ w ≤ cTop := by
    simp at hw
    rcases hw with rfl | rfl | rfl | rfl | rfl <;> exact ⟨_, rfl, by decide, by decide⟩
  simp [hs62]
  refine for_upTo (I := fun t env S' => ∃ (p : Nat) (ps : List (Int × Int)) (x y : Option D), env = [some (.loc n), some (.int most), some (.int v), some (.int w), some (.loc p), x, y] ∧ S.length ≤ p ∧ lstAt S' p = some (ps.map pD) ∧ ps.length ≤ t ∧ (∀ q ∈ ps, PtOk q) ∧ ps.Nodup ∧ Fr [n] S S' ∧ SrcAt S' n (m + 2 * most - 2 * t)) ?_ ?_ ?_
  · exact ⟨S2.length, [], none, none, rfl, by have := hf2.len; omega, by simp, by simp, by simp, by simp, hf2.trans .app, hs2.app.le (by omega)⟩
  · rintro t env S3 ht ⟨p, ps, x, y, rfl, hp, hl, hps, hok, hnd, hf, hs⟩ J hJ
    have e2 : m + 2 * most - 2 * t = (m + 2 * most - 2 * (t + 1)) + 1 + 1 := by omega
    rw [e2] at hs
    simp only [cTop] at hw1
    have hmul : ∀ S : Sto, mulD (.int 2) (.int w) S = some (.int (2 * w), S) := fun S => p_mul64 (by omega) (by omega)
    simp [arr, pick, hmul]
    refine (take_ok (k := k + 1) H hs (j := 2 * w + 1) (by omega) (by omega)).mono ?_
    rintro d S4 ⟨v1, rfl, hx0, hx1, hl4, hf4, hs4⟩
    simp [arr, pick, hmul]
    refine (take_ok (k := k + 1) H hs4 (j := 2 * w + 1) (by omega) (by omega)).mono ?_
    rintro d S5 ⟨v2, rfl, hy0, hy1, hl5, hf5, hs5⟩
    have hpn : p ∉ [n] := by
      simp
      omega
    have hl := hf5.lst (hf4.lst hl hpn) hpn
    have hf' : Fr [n] S S5 := (hf.trans hf4).trans hf5
    have hin := in_pts (S := S5 ++ [.lst [pD (v1 - w, v2 - w)]]) (lst_app hl) (v1 - w, v2 - w)
    simp [pD] at hin ⊢
    simp [p_notinl (lst_app hl), hin]
    have hq : PtOk (v1 - w, v2 - w) := ⟨by simp only [cTop]; omega, by simp only [cTop]; omega, by simp only [cTop]; omega, by simp only [cTop]; omega⟩
    split
    · rw [p_rep0 lst_new]
      simp
      rw [p_cat (lst_app hl) lst_ap1 (by simp; omega)]
      simp
      exact hJ _ _ ⟨_, ps, _, _, rfl, by have := hf'.len; simp; omega, by simp, by omega, hok, hnd, hf'.trans .app, hs5.app⟩
    · rename_i hni
      rw [p_rep1 lst_new (by simp)]
      simp
      rw [p_cat (lst_app hl) lst_ap1 (by simp; omega)]
      simp
      refine hJ _ _ ⟨_, ps ++ [(v1 - w, v2 - w)], _, _, rfl, by have := hf'.len; simp; omega, by simp [pD], by simp; omega, ?_, ?_, hf'.trans .app, hs5.app⟩
      · intro q hqq
        rcases List.mem_append.mp hqq with z | z
        · exact hok q z
        · rw [List.mem_singleton.mp z]; exact hq
      · rw [List.nodup_append]
        refine ⟨hnd, by simp, fun x hx y hy => ?_⟩
        rw [List.mem_singleton.mp hy]
        rintro rfl
        exact hni hx
  · rintro env S3 ⟨p, ps, x, y, rfl, hp, hl, hps, hok, hnd, hf, hs⟩
    simp
    exact hQ _ _ ⟨p, ps, rfl, hp, hl, by omega, hok, hnd, hf, hs.le (by omega)⟩
end
end PV

set_option Elab.async false
set_option linter.all false
set_option maxRecDepth 100000
set_option maxHeartbeats 3999000
namespace PV
open L2 PyProof.Rows PySem PySem.Spec
section
variable {S : Sto} {n : Nat} {xs ys : List D}
@[simp] theorem lstAt_0 : lstAt (.lst xs :: S) 0 = some xs := by exact rfl
@[simp] theorem lstAt_s {a : SO} : lstAt (a :: S) (n + 1) = lstAt S n := by exact rfl
theorem p_sll {lo hi : Option Int} (h : lstAt S n = some xs) : slD (.loc n) lo hi S = some (.loc S.length, S ++ [.lst (PV.cutD xs lo hi)]) := by
  simp [slD, h]
theorem p_addF (h : lstAt S n = some ys) (hz : xs.length + ys.length ≤ 16777216) : addD (.fz xs) (.loc n) S = some (.loc S.length, S ++ [.lst (xs ++ ys)]) := by
  have hz' : xs.length + ys.length ≤ sizeLine := hz
  simp [addD, h, hz']
theorem cut_mem {lo hi : Option Int} {d : D} (h : d ∈ PV.cutD xs lo hi) : d ∈ xs := by
  unfold PV.cutD at h
  exact List.mem_of_mem_drop (List.mem_of_mem_take h)
/-- (script + [0])[:c] -/
theorem cells {env : Env} {ns : List Int} (c : Int) (hl : ns.length ≤ 63) : ∃ ms : List Int, eSl (eBin addD (eVar 0) (eLst (aCons (eC (.int 0)) aNil))) oNone (oSome (eC (.int c))) (some (.fz (ns.map D.int)) :: env) [] = .ok (.loc 2) [.lst [.int 0], .lst (ns.map D.int ++ [.int 0]), .lst (ms.map D.int)] ∧ ∀ i ∈ ms, i ∈ ns ∨ i = 0 := by
  have hz : (ns.map D.int).length + [D.int 0].length ≤ 16777216 := by
    simp
    omega
  have e1 : addD (.fz (ns.map D.int)) (.loc 0) [.lst [.int 0]] = some (.loc 1, [.lst [.int 0], .lst (ns.map D.int ++ [.int 0])]) := p_addF (S := [.lst [.int 0]]) (n := 0) rfl hz
  have e2 : ns.map D.int ++ [.int 0] = (ns ++ [0]).map D.int := by simp
  have e3 : ∃ ms : List Int, PV.cutD (ns.map D.int ++ [.int 0]) none (some c) = ms.map D.int ∧ ∀ i ∈ ms, i ∈ ns ++ [0] := by
    rw [e2]
    unfold PV.cutD
    exact ⟨_, by rw [← List.map_drop, ← List.map_take], fun i hi => List.mem_of_mem_drop (List.mem_of_mem_take hi)⟩
  obtain ⟨ms, h1, h2⟩ := e3
  refine ⟨ms, ?_, fun i hi => by simpa using h2 i hi⟩
  have e4 : slD (.loc 1) none (some c) [.lst [.int 0], .lst (ns.map D.int ++ [.int 0])] = some (.loc 2, [.lst [.int 0], .lst (ns.map D.int ++ [.int 0]), .lst (ms.map D.int)]) := by
    rw [p_sll (xs := ns.map D.int ++ [.int 0]) rfl, h1]
    rfl
  simp [e1, e4]
theorem eq_str {x : Str} (h : PyData.strOk x = true) : eqO S (.str x) (.str x) = some true := by
  show (if SeqAt.shaped (.str x) = true ∧ SeqAt.shaped (.str x) = true then some (PyData.eqv (.str x) (.str x)) else none) = _
  simp [SeqAt.shaped, PyData.canLay0, h, PyData.depth, PyData.eqv]
theorem eq_tf (b : Bool) : eqO S (.str (if b then "True" else "False")) (.str (if b then "True" else "False")) = some true := by
  cases b
  · exact eq_str (by decide +kernel)
  · exact eq_str (by decide +kernel)
theorem it_loc (h : lstAt S n = some xs) : itOf (.loc n) S = some (.live n) := by simp [itOf, h]
end
end PV

set_option Elab.async false
set_option linter.all false
set_option maxRecDepth 100000
set_option maxHeartbeats 3999000
namespace PV
open L2 PyProof.Rows PySem PySem.Spec

/-! ### comprehensions: an invariant -/
def LcY (acc : List D) (J : List D → Sto → Prop) : D → Sto → Prop := fun y S => J (acc ++ [y]) S
def LcB (e : FE) (acc : List D) (J : List D → Sto → Prop) (env1 : Env) : Bool → Sto → Prop := fun b S => if b = true then Ok (e env1 S) (LcY acc J) else J acc S
def LcT (t : FT) (e : FE) (acc : List D) (J : List D → Sto → Prop) : Env → Sto → Prop := fun env1 S => Ok (t env1 S) (LcB e acc J env1)
section
variable {t : FT} {e : FE} {acc : List D} {J : List D → Sto → Prop} {env : Env} {S : Sto} {b : Bool} {y : D}
@[simp] theorem LcY_v : LcY acc J y S = J (acc ++ [y]) S := by exact rfl
@[simp] theorem LcB_v : LcB e acc J env b S = if b = true then Ok (e env S) (LcY acc J) else J acc S := by exact rfl
@[simp] theorem LcT_v : LcT t e acc J env S = Ok (t env S) (LcB e acc J env) := by exact rfl
@[simp] theorem ok_nox {α : Type} {o : Out α} {Q : α → Sto → Prop} : Ok (nox o) Q ↔ Ok o Q := by
  cases o <;> exact Iff.rfl
end
theorem lc_inv {it : IT} {g : FG} {t : FT} {e : FE} {env0 : Env} {xs : List D} {I : Nat → List D → Sto → Prop} {Q : List D → Sto → Prop} (hz : xs.length ≤ 16777216)
    (hn : ∀ i acc S, i ≤ xs.length → I i acc S → nxt it i S = some xs[i]?)
    (hs : ∀ i acc S (h : i < xs.length), I i acc S → ∀ J : List D → Sto → Prop, (∀ a S', I (i + 1) a S' → J a S') → Ok (g xs[i] env0 S) (LcT t e acc J))
    (hd : ∀ acc S, I xs.length acc S → Q acc S) : ∀ (k i : Nat) (acc : List D) (S : Sto), i + k = xs.length → acc.length ≤ i → I i acc S → Ok (lcF it g t e env0 (k + 1) i acc S) Q
  | 0, i, acc, S, hk, hl, h => by
    have e : i = xs.length := by omega
    subst e
    rw [v_lcs, hn _ acc S (Nat.le_refl _) h, List.getElem?_eq_none (Nat.le_refl _)]
    exact hd acc S h
  | k + 1, i, acc, S, hk, hl, h => by
    have hi : i < xs.length := by omega
    rw [v_lcs, hn _ acc S (by omega) h, List.getElem?_eq_getElem hi, kLs_s, ok_bind]
    refine (hs i acc S hi h (fun a S' => a.length ≤ i + 1 → Ok (lcF it g t e env0 (k + 1) (i + 1) a S') Q) fun a S' ha hal => lc_inv hz hn hs hd k (i + 1) a S' (by omega) hal ha).mono fun e1 S1 h1 => ?_
    rw [then_ap, kLs1_v, ok_bind]
    rw [LcT_v] at h1
    refine h1.mono fun b S2 h2 => ?_
    rw [then_ap, kLs2_v, ok_ite]
    rw [LcB_v] at h2
    split at h2
    · rename_i hb
      rw [if_pos hb, ok_bind]
      refine h2.mono fun y S3 h3 => ?_
      rw [LcY_v] at h3
      rw [then_ap, kLs3_v, ok_ite, if_pos (show acc.length < sizeLine by show acc.length < 16777216; omega)]
      exact h3 (by simp; omega)
    · rename_i hb
      rw [if_neg hb]
      exact h2 (by omega)
theorem lc_items {g : FG} {t : FT} {e : FE} {env0 : Env} {xs : List D} {S : Sto} {Q : List D → Sto → Prop} (I : Nat → List D → Sto → Prop) (hz : xs.length ≤ 16777216) (h : I 0 [] S)
    (hs : ∀ i acc S (h : i < xs.length), I i acc S → ∀ J : List D → Sto → Prop, (∀ a S', I (i + 1) a S' → J a S') → Ok (g xs[i] env0 S) (LcT t e acc J))
    (hd : ∀ acc S, I xs.length acc S → Q acc S) : Ok (lcF (.items xs) g t e env0 (turns (.items xs) S + 1) 0 [] S) Q :=
  lc_inv (I := I) hz (fun _ _ _ _ _ => rfl) hs hd xs.length 0 [] S (by omega) (by simp) h
theorem lc_live {g : FG} {t : FT} {e : FE} {env0 : Env} {xs : List D} {n : Nat} {S : Sto} {Q : List D → Sto → Prop} (I : Nat → List D → Sto → Prop) (hz : xs.length ≤ 16777216) (h : I 0 [] S)
    (hl : ∀ i acc S, I i acc S → lstAt S n = some xs)
    (hs : ∀ i acc S (h : i < xs.length), I i acc S → ∀ J : List D → Sto → Prop, (∀ a S', I (i + 1) a S' → J a S') → Ok (g xs[i] env0 S) (LcT t e acc J))
    (hd : ∀ acc S, I xs.length acc S → Q acc S) : Ok (lcF (.live n) g t e env0 (turns (.live n) S + 1) 0 [] S) Q := by
  have e1 : turns (.live n) S = xs.length := by simp [turns, hl 0 [] S h]
  rw [e1]
  exact lc_inv (I := I) hz (fun i acc S _ h => by simp [nxt, hl i acc S h]) hs hd xs.length 0 [] S (by omega) (by simp) h
end PV

set_option Elab.async false
set_option linter.all false
set_option maxRecDepth 100000
set_option maxHeartbeats 3999000
namespace PV
open L2 PyProof.Rows PySem PySem.Spec
def X__law_end (C : Fns) : FS :=
 (sSeq (sAsg (eCall (C "_law_take") [.pos 0, .pos 1] [] (aCons (eVar 0) (aCons (eC (.int 5)) aNil)) aNil) (gNm 3))
 (sSeq (sIf (tOrF (tB' (eBin eqD (eVar 3) (eC (.int 0)))) (tB' (eBin eqD (eVar 1) (eLst aNil))))
 (sSeq (sRet (eCall (C "_law_pick") [.pos 0, .pos 1] [] (aCons (eVar 0) (aCons (eLst (aCons (eC .non) (aCons (eC .non) (aCons (eC (.int 0)) (aCons (eUn negD (eBin powD (eC (.int 10)) (eC (.int 31)))) (aCons (eBin powD (eC (.int 10)) (eC (.int 31))) aNil)))))) aNil)) aNil))
 sNil)
 sNil)
 (sSeq (sRet (eBin addD (eBin ixDD (eCall (C "_law_pick") [.pos 0, .pos 1] [] (aCons (eVar 0) (aCons (eVar 1) aNil)) aNil) (eVar 2)) (eBin ixDD (eLst (aCons (eC (.int 0)) (aCons (eC (.int 0)) (aCons (eC (.int 1)) (aCons (eUn negD (eC (.int 1))) aNil))))) (eBin subD (eVar 3) (eC (.int 1))))))
 sNil)))
-- _law_end: 4 3
def X__law_box (C : Fns) : FS :=
 (sSeq (sAsg (eLst aNil) (gNm 2))
 (sSeq (sFor (iRg (aCons (eC (.int 2)) aNil)) (gNm 3)
 (sSeq (sPar 4 5 (aCons (eCall (C "_law_end") [.pos 0, .pos 1, .pos 2] [] (aCons (eVar 0) (aCons (eVar 1) (aCons (eVar 3) aNil))) aNil) (aCons (eCall (C "_law_end") [.pos 0, .pos 1, .pos 2] [] (aCons (eVar 0) (aCons (eVar 1) (aCons (eVar 3) aNil))) aNil) aNil)))
 (sSeq (sIf (tAndF (tB' (eBin isNotD (eVar 4) (eC .non))) (tAndF (tB' (eBin isNotD (eVar 5) (eC .non))) (tB' (eBin (ordD .gt) (eVar 4) (eVar 5)))))
 (sSeq (sPar 4 5 (aCons (eVar 5) (aCons (eVar 4) aNil)))
 sNil)
 sNil)
 (sSeq (sExpr (eM appendD (eVar 2) (aCons (eTup (aCons (eVar 4) (aCons (eVar 5) aNil))) aNil)))
 sNil))))
 (sSeq (sRet (eTup (aCons (eBin ixDD (eBin ixDD (eVar 2) (eC (.int 0))) (eC (.int 0))) (aCons (eBin ixDD (eBin ixDD (eVar 2) (eC (.int 1))) (eC (.int 0))) (aCons (eBin ixDD (eBin ixDD (eVar 2) (eC (.int 0))) (eC (.int 1))) (aCons (eBin ixDD (eBin ixDD (eVar 2) (eC (.int 1))) (eC (.int 1))) aNil))))))
 sNil)))
-- _law_box: 6 2
def X__law_holds (C : Fns) : FS :=
 (sSeq (sFor (iRg (aCons (eC (.int 2)) aNil)) (gNm 2)
 (sSeq (sIf (tAndF (tB' (eBin isNotD (eBin ixDD (eVar 0) (eVar 2)) (eC .non))) (tB' (eBin (ordD .lt) (eBin ixDD (eVar 1) (eVar 2)) (eBin ixDD (eVar 0) (eVar 2)))))
 (sSeq (sRet (eC (.bl false)))
 sNil)
 sNil)
 (sSeq (sIf (tAndF (tB' (eBin isNotD (eBin ixDD (eVar 0) (eBin addD (eVar 2) (eC (.int 2)))) (eC .non))) (tB' (eBin (ordD .gt) (eBin ixDD (eVar 1) (eVar 2)) (eBin ixDD (eVar 0) (eBin addD (eVar 2) (eC (.int 2)))))))
 (sSeq (sRet (eC (.bl false)))
 sNil)
 sNil)
 sNil)))
 (sSeq (sRet (eC (.bl true)))
 sNil))
-- _law_holds: 3 2
def X__law_gap (C : Fns) : FS :=
 (sSeq (sAsg (eC (.int 0)) (gNm 2))
 (sSeq (sFor (iRg (aCons (eC (.int 2)) aNil)) (gNm 3)
 (sSeq (sPar 4 5 (aCons (eBin ixDD (eVar 1) (eVar 3)) (aCons (eBin ixDD (eVar 1) (eBin addD (eVar 3) (eC (.int 2)))) aNil)))
 (sSeq (sAsg (eC (.int 0)) (gNm 6))
 (sSeq (sIf (tAndF (tB' (eBin isNotD (eVar 4) (eC .non))) (tB' (eBin (ordD .lt) (eBin ixDD (eVar 0) (eVar 3)) (eVar 4))))
 (sSeq (sAsg (eBin subD (eVar 4) (eBin ixDD (eVar 0) (eVar 3))) (gNm 6))
 sNil)
 sNil)
 (sSeq (sIf (tAndF (tB' (eBin isNotD (eVar 5) (eC .non))) (tB' (eBin (ordD .gt) (eBin ixDD (eVar 0) (eVar 3)) (eVar 5))))
 (sSeq (sAsg (eBin subD (eBin ixDD (eVar 0) (eVar 3)) (eVar 5)) (gNm 6))
 sNil)
 sNil)
 (sSeq (sAsg (eBin addD (eVar 2) (eBin mulD (eVar 6) (eVar 6))) (gNm 2))
 sNil))))))
 (sSeq (sRet (eVar 2))
 sNil)))
-- _law_gap: 7 2
structure Bxs (R : Fuel) : Prop where
  h1 : Drw R
  h2 : Has R "_law_end" 4 3 X__law_end
  h3 : Has R "_law_box" 6 2 X__law_box
  h4 : Has R "_law_holds" 3 2 X__law_holds
section
variable {R : Fuel} {k : Nat} {S : Sto} {n m p : Nat} {ps : List (Int × Int)}
theorem end_ok (H : Bxs R) {l : Int} (hl : l = 0 ∨ l = 1) (h : SrcAt S n (m + 2)) (hp : lstAt S p = some (ps.map pD)) (hne : p ≠ n) (hok : ∀ q ∈ ps, PtOk q) (hz : ps.length ≤ 1000) :
    Ok (R (k + 4) "_law_end" [.loc n, .loc p, .int l] S) fun d S' => ∃ o, d = oD o ∧ EndOk o ∧ PV.Fr [n] S S' ∧ SrcAt S' n m := by
  have hn := h.lt
  refine ok_abs fun Q hQ => ?_
  rw [H.h2]
  simp [X__law_end, arr, pick]
  refine (take_ok (k := k + 1) (m := m + 1) H.h1 h (j := 5) (by omega) (by omega)).mono ?_
  rintro d S1 ⟨v, rfl, hv0, hv1, hl1, hf1, hs1⟩
  simp
  have hp1 := hf1.lst hp (by simp [hne])
  by_cases hv : v = 0
  · subst hv
    simp [arr, pick]
    refine (pick_ok (k := k) (p := S1.length) (m := m) H.h1 hs1.app lst_new (by omega) (by simp) (by simp)).mono ?_
    rintro d S2 ⟨hw, hl2, hf2, hs2⟩
    simp
    apply hQ
    have hfr := (hf1.trans .app).trans hf2
    simp at hw
    rcases hw with rfl | rfl | rfl | rfl
    · exact ⟨none, rfl, by simp [EndOk], hfr, hs2⟩
    · exact ⟨some 0, rfl, by simp [EndOk, bTop], hfr, hs2⟩
    · exact ⟨some (-10000000000000000000000000000000), rfl, by simp [EndOk, bTop], hfr, hs2⟩
    · exact ⟨some 10000000000000000000000000000000, rfl, by simp [EndOk, bTop], hfr, hs2⟩
  · simp [hv]
    have heq : eqO (S1 ++ [.lst []]) (.loc p) (.loc S1.length) = some (decide (ps = [])) := eq_pts (lst_app hp1) (qs := []) (lst_new (S := S1) (ds := []))
    simp [heq]
    by_cases hps : ps = []
    · subst hps
      simp [arr, pick]
      refine (pick_ok (k := k) (p := S1.length + 1) (m := m) H.h1 hs1.app lst_ap1 (by omega) (by simp) (by simp)).mono ?_
      rintro d S2 ⟨hw, hl2, hf2, hs2⟩
      simp
      apply hQ
      have hfr := (hf1.trans .app).trans hf2
      simp at hw
      rcases hw with rfl | rfl | rfl | rfl
      · exact ⟨none, rfl, by simp [EndOk], hfr, hs2⟩
      · exact ⟨some 0, rfl, by simp [EndOk, bTop], hfr, hs2⟩
      · exact ⟨some (-10000000000000000000000000000000), rfl, by simp [EndOk, bTop], hfr, hs2⟩
      · exact ⟨some 10000000000000000000000000000000, rfl, by simp [EndOk, bTop], hfr, hs2⟩
    · simp [hps, arr, pick]
      refine (pick_ok (k := k) (p := p) (m := m) H.h1 hs1.app (lst_app hp1) hne (by simp [hps]) (by simp; omega)).mono ?_
      rintro d S2 ⟨hw, hl2, hf2, hs2⟩
      have hfr := (hf1.trans .app).trans hf2
      obtain ⟨⟨x, y⟩, hq, rfl⟩ := List.mem_map.mp hw
      obtain ⟨b1, b2, b3, b4⟩ := hok _ hq
      simp only [cTop] at b1 b2 b3 b4
      obtain ⟨z, hz, hz1, hz2⟩ : ∃ z : Int, (∀ S : Sto, ixDD (pD (x, y)) (.int l) S = some (.int z, S)) ∧ -1000000000000000000000000000000 ≤ z ∧ z ≤ 1000000000000000000000000000000 := by
        rcases hl with rfl | rfl
        · exact ⟨x, fun S => by simp [pD], b1, b2⟩
        · exact ⟨y, fun S => by simp [pD], b3, b4⟩
      simp [hz]
      have hv4 : v = 1 ∨ v = 2 ∨ v = 3 ∨ v = 4 := by omega
      rcases hv4 with rfl | rfl | rfl | rfl <;> simp [p_ixl lst_ap0]
      · exact hQ _ _ ⟨some z, rfl, by simp [EndOk, bTop]; omega, hfr.trans .app, hs2.app⟩
      · exact hQ _ _ ⟨some z, rfl, by simp [EndOk, bTop]; omega, hfr.trans .app, hs2.app⟩
      · exact hQ _ _ ⟨some (z + 1), rfl, by simp [EndOk, bTop]; omega, hfr.trans .app, hs2.app⟩
      · exact hQ _ _ ⟨some (z + -1), rfl, by simp [EndOk, bTop]; omega, hfr.trans .app, hs2.app⟩
/-- ends in order -/
def swp (a b : Option Int) : Option Int × Option Int := match a, b with
  | some i, some j => if j < i then (some j, some i) else (some i, some j)
  | a, b => (a, b)
theorem swp_ok {a b : Option Int} (ha : EndOk a) (hb : EndOk b) : IvOk (swp a b).1 (swp a b).2 := by
  cases a <;> cases b <;> simp [swp, IvOk, EndOk] at ha hb ⊢
  · exact hb
  · exact ha
  · split <;> simp [EndOk] <;> omega
theorem s62_2 : small62 2 = true := by decide
theorem s62_5 : small62 5 = true := by decide
def turnB (C : Fns) : FS := (sSeq (sPar 4 5 (aCons (eCall (C "_law_end") [.pos 0, .pos 1, .pos 2] [] (aCons (eVar 0) (aCons (eVar 1) (aCons (eVar 3) aNil))) aNil) (aCons (eCall (C "_law_end") [.pos 0, .pos 1, .pos 2] [] (aCons (eVar 0) (aCons (eVar 1) (aCons (eVar 3) aNil))) aNil) aNil)))
 (sSeq (sIf (tAndF (tB' (eBin isNotD (eVar 4) (eC .non))) (tAndF (tB' (eBin isNotD (eVar 5) (eC .non))) (tB' (eBin (ordD .gt) (eVar 4) (eVar 5)))))
 (sSeq (sPar 4 5 (aCons (eVar 5) (aCons (eVar 4) aNil)))
 sNil)
 sNil)
 (sSeq (sExpr (eM appendD (eVar 2) (aCons (eTup (aCons (eVar 4) (aCons (eVar 5) aNil))) aNil)))
 sNil)))
theorem p_app {xs : List D} {d : D} (h : lstAt S p = some xs) (hz : xs.length < 16777216) : appendD (.loc p) [d] S = some (.non, S.set p (.lst (xs ++ [d]))) := by
  have hz' : xs.length < sizeLine := hz
  simp [appendD, h, hz']
theorem turn_ok (H : Bxs R) {l : Int} {q : Nat} {xs : List D} {x y : Option D} (hl : l = 0 ∨ l = 1) (h : SrcAt S n (m + 4)) (hp : lstAt S p = some (ps.map pD)) (hne : p ≠ n) (hok : ∀ q ∈ ps, PtOk q) (hz : ps.length ≤ 1000)
    (hq : lstAt S q = some xs) (hqn : q ≠ n) (hqp : q ≠ p) (hxl : xs.length < 2) :
    Ok (turnB (R (k + 4)) [some (.loc n), some (.loc p), some (.loc q), some (.int l), x, y] S) fun fl S' => ∃ o o' x' y', fl = .nx [some (.loc n), some (.loc p), some (.loc q), some (.int l), x', y'] ∧ IvOk o o' ∧ lstAt S' q = some (xs ++ [.tup [oD o, oD o']]) ∧ PV.Fr [n, q] S S' ∧ SrcAt S' n m := by
  have hn := h.lt
  refine ok_abs fun Q hQ => ?_
  simp [turnB, arr, pick]
  refine (end_ok (k := k) H (m := m + 2) hl h hp hne hok hz).mono ?_
  rintro d S1 ⟨o1, rfl, he1, hf1, hs1⟩
  simp [arr, pick]
  refine (end_ok (k := k) H (m := m) hl hs1 (hf1.lst hp (by simp [hne])) hne hok hz).mono ?_
  rintro d S2 ⟨o2, rfl, he2, hf2, hs2⟩
  have hf : PV.Fr [n] S S2 := hf1.trans hf2
  have hq2 := hf.lst hq (by simp [hqn])
  have hlt := lst_lt hq2
  have main : ∀ d e : Option Int, IvOk d e → ∀ x' y', Q (.nx [some (.loc n), some (.loc p), some (.loc q), some (.int l), x', y']) (S2.set q (.lst (xs ++ [.tup [oD d, oD e]]))) := by
    intro d e hde x' y'
    refine hQ _ _ ⟨d, e, x', y', rfl, hde, lst_set hlt, (hf.sub (by simp)).trans (.set (by simp)), ?_⟩
    obtain ⟨a, b, c, z1, z2⟩ := hs2
    exact ⟨a, b, c, by rw [lst_ne hqn]; exact z1, z2⟩
  have hw := swp_ok he1 he2
  cases o1 <;> cases o2 <;> simp [kM_v hq2, p_app hq2 (by omega)]
  · exact main none none hw _ _
  · exact main none (some _) hw _ _
  · exact main (some _) none hw _ _
  · rename_i i j
    simp only [swp] at hw
    split
    · rename_i hlt
      rw [if_pos hlt] at hw
      exact main (some j) (some i) hw _ _
    · rename_i hlt
      rw [if_neg hlt] at hw
      exact main (some i) (some j) hw _ _
theorem box_ok (H : Bxs R) (h : SrcAt S n (m + 8)) (hp : lstAt S p = some (ps.map pD)) (hne : p ≠ n) (hok : ∀ q ∈ ps, PtOk q) (hz : ps.length ≤ 1000) :
    Ok (R (k + 5) "_law_box" [.loc n, .loc p] S) fun d S' => ∃ q, d = bD q ∧ BoxOk q ∧ PV.Fr [n] S S' ∧ SrcAt S' n m := by
  have hn := h.lt
  have hpl := lst_lt hp
  refine ok_abs fun Q hQ => ?_
  rw [H.h3]
  have e : X__law_box (R (k + 4)) = sSeq (sAsg (eLst aNil) (gNm 2)) (sSeq (sFor (iRg (aCons (eC (.int 2)) aNil)) (gNm 3) (turnB (R (k + 4))))
    (sSeq (sRet (eTup (aCons (eBin ixDD (eBin ixDD (eVar 2) (eC (.int 0))) (eC (.int 0))) (aCons (eBin ixDD (eBin ixDD (eVar 2) (eC (.int 1))) (eC (.int 0))) (aCons (eBin ixDD (eBin ixDD (eVar 2) (eC (.int 0))) (eC (.int 1))) (aCons (eBin ixDD (eBin ixDD (eVar 2) (eC (.int 1))) (eC (.int 1))) aNil)))))) sNil)) := rfl
  rw [e]
  simp [s62_2, turns, PV.upTo, v_fors, nxt]
  refine (turn_ok (k := k) H (m := m + 4) (q := S.length) (l := 0) (xs := []) (.inl rfl) h.app (lst_app hp) hne hok hz lst_new (by omega) (by omega) (by simp)).mono ?_
  rintro fl S1 ⟨a, b, x1, y1, rfl, hv1, hl1, hf1, hs1⟩
  simp [v_fors, nxt]
  have hp1 := hf1.lst (lst_app hp) (by simp; omega)
  refine (turn_ok (k := k) H (m := m) (q := S.length) (l := 1) (.inr rfl) hs1 hp1 hne hok hz hl1 (by omega) (by omega) (by simp)).mono ?_
  rintro fl S2 ⟨c, d, x2, y2, rfl, hv2, hl2, hf2, hs2⟩
  simp [v_fors, nxt, p_ixl hl2]
  have hf : PV.Fr [n] S S2 := by
    have := hf1.trans hf2
    exact ⟨by have := this.len; simp at this; omega, fun i hi hw => by
      rw [this.at_ i (by simp; omega) (by simp at hw ⊢; omega), List.getElem?_append_left hi]⟩
  exact hQ _ _ ⟨⟨a, c, b, d⟩, rfl, ⟨hv1, hv2⟩, hf, hs2⟩
theorem lholds (H : Bxs R) {q : Box} {p : Int × Int} : R (k + 1) "_law_holds" [bD q, pD p] S = .ok (.bl (inB q p)) S := by
  rw [H.h4]
  obtain ⟨x0, y0, x1, y1⟩ := q
  obtain ⟨x, y⟩ := p
  cases x0 <;> cases x1 <;> cases y0 <;> cases y1 <;> simp [X__law_holds, s62_2, PV.upTo, turns, v_fors, nxt, bD, pD, inB, inS]
  all_goals
    (repeat' split) <;> simp <;> omega
theorem mu_end {o : Option Int} {x : Int} (h : EndOk o) (h1 : -1000000000000000000000000000000 ≤ x) (h2 : x ≤ 1000000000000000000000000000000) : ∀ i, o = some i → (∀ S, mulD (.int (i - x)) (.int (i - x)) S = some (.int ((i - x) * (i - x)), S)) ∧ ∀ S, mulD (.int (x - i)) (.int (x - i)) S = some (.int ((x - i) * (x - i)), S) := by
  intro i e
  have := h i e
  simp only [bTop] at this
  exact ⟨fun S => p_mul64 (by omega) (by omega), fun S => p_mul64 (by omega) (by omega)⟩
theorem lgap (H : Has R "_law_gap" 7 2 X__law_gap) {q : Box} {p : Int × Int} (hq : BoxOk q) (hp : PtOk p) : R (k + 1) "_law_gap" [pD p, bD q] S = .ok (.int (gapB q p)) S := by
  rw [H]
  obtain ⟨x0, y0, x1, y1⟩ := q
  obtain ⟨x, y⟩ := p
  obtain ⟨⟨a1, a2, a5⟩, ⟨a3, a4, a6⟩⟩ := hq
  obtain ⟨b1, b2, b3, b4⟩ := hp
  simp only [cTop] at b1 b2 b3 b4
  have z0 : ∀ S : Sto, mulD (.int 0) (.int 0) S = some (.int 0, S) := fun S => p_mul64 (by omega) (by omega)
  replace a5 : ∀ i, x0 = some i → ∀ j, x1 = some j → i ≤ j := fun i e j e' => a5 i j e e'
  replace a6 : ∀ i, y0 = some i → ∀ j, y1 = some j → i ≤ j := fun i e j e' => a6 i j e e'
  have s1 := mu_end a1 b1 b2
  have s2 := mu_end a2 b1 b2
  have s3 := mu_end a3 b3 b4
  have s4 := mu_end a4 b3 b4
  clear a1 a2 a3 a4 b1 b2 b3 b4
  cases x0 <;> cases x1 <;> cases y0 <;> cases y1 <;> simp only [Option.some.injEq, forall_eq', reduceCtorEq, false_implies, implies_true] at s1 s2 s3 s4 a5 a6 <;> simp [X__law_gap, s62_2, PV.upTo, turns, v_fors, nxt, bD, pD, gapB, gapS, z0, s1, s2, s3, s4]
  all_goals
    (repeat' split) <;> simp [z0, s1, s2, s3, s4, Int.add_assoc] <;> omega
theorem gapS_nn (l h : Option Int) (x : Int) : 0 ≤ gapS l h x ∧ (gapS l h x = 0 ↔ inS l h x = true) := by
  have sp : ∀ a b : Int, a < b → 0 < (b - a) * (b - a) := fun a b h => Int.mul_pos (by omega) (by omega)
  cases l <;> cases h <;> simp [gapS, inS]
  · rename_i j
    split
    · rename_i hx
      have := sp _ _ hx
      omega
    · omega
  · rename_i j
    split
    · rename_i hx
      have := sp _ _ hx
      omega
    · omega
  · rename_i i j
    have h1 := sp x i
    have h2 := sp j x
    generalize (i - x) * (i - x) = u at *
    generalize (x - j) * (x - j) = w at *
    split <;> split <;> omega
theorem gap_zero (q : Box) (p : Int × Int) : decide (gapB q p = 0) = inB q p := by
  obtain ⟨h1, h2⟩ := gapS_nn q.x0 q.x1 p.1
  obtain ⟨h3, h4⟩ := gapS_nn q.y0 q.y1 p.2
  unfold gapB inB
  rw [Bool.eq_iff_iff, Bool.and_eq_true, ← h2, ← h4, decide_eq_true_eq]
  omega
end
def X__law_far (C : Fns) : FS :=
 (sSeq (sRet (eBin addD (eBin mulD (eBin subD (eBin ixDD (eVar 0) (eC (.int 0))) (eBin ixDD (eVar 1) (eC (.int 0)))) (eBin subD (eBin ixDD (eVar 0) (eC (.int 0))) (eBin ixDD (eVar 1) (eC (.int 0))))) (eBin mulD (eBin subD (eBin ixDD (eVar 0) (eC (.int 1))) (eBin ixDD (eVar 1) (eC (.int 1)))) (eBin subD (eBin ixDD (eVar 0) (eC (.int 1))) (eBin ixDD (eVar 1) (eC (.int 1)))))))
 sNil)
-- _law_far: 2 2
structure Pub (R : Fuel) : Prop where
  h1 : Rcs R
  h2 : Has R "is_inside" 2 2 X_is_inside
  h3 : Has R "gap" 2 2 X_gap
  h4 : Has R "distance" 2 2 X_distance
  h5 : Has R "require_point" 1 1 X_require_point
section
variable {R : Fuel} {k : Nat} {S : Sto} {n m p : Nat} {ps : List (Int × Int)}
theorem is_inside_ok (H : Pub R) {q : Box} {p : Int × Int} (hq : BoxOk q) (hp : PtOk p) : ∃ G, R (k + 6) "is_inside" [pD p, bD q] S = .ok (.bl (inB q p)) (S ++ G) := by
  rw [H.h2]
  obtain ⟨G, e⟩ := require_rectangle_box (k := k) (S := S) H.h1 hq
  exact ⟨G, by simp [X_is_inside, arr, pick, require_point_pt H.h1.h0 H.h5 hp, e, holds_box H.h1]⟩
theorem gap_ok (H : Pub R) {q : Box} {p : Int × Int} (hq : BoxOk q) (hp : PtOk p) : ∃ G, R (k + 6) "gap" [pD p, bD q] S = .ok (.int (gapB q p)) (S ++ G) := by
  rw [H.h3]
  obtain ⟨G, e⟩ := require_rectangle_box (k := k) (S := S) H.h1 hq
  exact ⟨G, by simp [X_gap, arr, pick, require_point_pt H.h1.h0 H.h5 hp, e, gap_of_box H.h1 hq hp]⟩
def farP (p q : Int × Int) : Int := (p.1 - q.1) * (p.1 - q.1) + (p.2 - q.2) * (p.2 - q.2)
theorem distance_ok (H : Pub R) {p q : Int × Int} (hp : PtOk p) (hq : PtOk q) : R (k + 6) "distance" [pD p, pD q] S = .ok (.int (farP p q)) S := by
  rw [H.h4]
  have a := hp
  have b := hq
  obtain ⟨a1, a2, a3, a4⟩ := hp
  obtain ⟨b1, b2, b3, b4⟩ := hq
  simp only [cTop] at a1 a2 a3 a4 b1 b2 b3 b4
  have z1 : ∀ S : Sto, powD (.int (p.1 - q.1)) (.int 2) S = _ := fun S => p_sq (by omega)
  have z2 : ∀ S : Sto, powD (.int (p.2 - q.2)) (.int 2) S = _ := fun S => p_sq (by omega)
  simp [X_distance, arr, pick, require_point_pt H.h1.h0 H.h5 a, require_point_pt H.h1.h0 H.h5 b]
  simp [pD, z1, z2, farP]
theorem far_ok (H : Has R "_law_far" 2 2 X__law_far) {p q : Int × Int} (hp : PtOk p) (hq : PtOk q) : R (k + 1) "_law_far" [pD p, pD q] S = .ok (.int (farP p q)) S := by
  rw [H]
  obtain ⟨a1, a2, a3, a4⟩ := hp
  obtain ⟨b1, b2, b3, b4⟩ := hq
  simp only [cTop] at a1 a2 a3 a4 b1 b2 b3 b4
  have z1 : ∀ S : Sto, mulD (.int (p.1 - q.1)) (.int (p.1 - q.1)) S = _ := fun S => p_mul64 (by omega) (by omega)
  have z2 : ∀ S : Sto, mulD (.int (p.2 - q.2)) (.int (p.2 - q.2)) S = _ := fun S => p_mul64 (by omega) (by omega)
  simp [X__law_far, pD, z1, z2, farP]
theorem farP_comm (p q : Int × Int) : farP p q = farP q p := by
  unfold farP
  rw [show p.1 - q.1 = -(q.1 - p.1) by omega, show p.2 - q.2 = -(q.2 - p.2) by omega, Int.neg_mul_neg, Int.neg_mul_neg]
theorem eq_pt (p q : Int × Int) : eqO S (pD p) (pD q) = some (decide (p = q)) := by
  unfold eqO
  rw [show deep = 63 + 1 from rfl, snap_pt, snap_pt]
  simp only [shp_pt, and_self, if_true, eqv_pt]
theorem farP_zero (p q : Int × Int) : decide (farP p q = 0) = decide (p = q) := by
  have nn : ∀ a : Int, 0 ≤ a * a := fun a => by
    rcases Int.le_total 0 a with h | h
    · exact Int.mul_nonneg h h
    · exact Int.mul_nonneg_of_nonpos_of_nonpos h h
  have h1 := nn (p.1 - q.1)
  have h2 := nn (p.2 - q.2)
  rw [Bool.eq_iff_iff]
  simp only [decide_eq_true_eq]
  unfold farP
  constructor
  · intro h
    have a : (p.1 - q.1) * (p.1 - q.1) = 0 := by omega
    have b : (p.2 - q.2) * (p.2 - q.2) = 0 := by omega
    rw [Int.mul_eq_zero, or_self] at a b
    exact Prod.ext (by omega) (by omega)
  · rintro rfl
    simp
end
end PV

set_option Elab.async false
set_option linter.all false
set_option maxRecDepth 100000
set_option maxHeartbeats 0
namespace Lw
open L2 PyProof.Rows PySem PySem.Spec PV
def top (i : Nat) : Stmt := PySem.Challenge.pw_planesplits_k06_whole_gaps_and_distances.main.body.getD i (.Pass ⟨0, 0, 0, 0⟩)
def b_is_integer (C : Fns) : FS :=
 (sSeq (sRet (eAnd (eCB isiD (aCons (eVar 0) (aCons (eC (.ty "int")) aNil))) (eNot (eCB isiD (aCons (eVar 0) (aCons (eC (.ty "bool")) aNil))))))
 sNil)
def e_is_integer : Ent := { g := "is_integer", d := { nm := "is_integer", st := top 7, N := ["value"], ps := ["value"] }, qual := "is_integer", dfl := [], shs := [⟨1, [], [.pos 0]⟩], b := b_is_integer }
def b_is_between (C : Fns) : FS :=
 (sSeq (sRet (eAnd (eCall (C "is_integer") [.pos 0] [] (aCons (eVar 0) aNil) aNil) (eCh (ordD .le) (ordD .le) (eVar 1) (eVar 0) (eVar 2))))
 sNil)
def e_is_between : Ent := { g := "is_between", d := { nm := "is_between", st := top 8, N := ["value", "low", "high"], ps := ["value", "low", "high"] }, qual := "is_between", dfl := [], shs := [⟨3, [], [.pos 0, .pos 1, .pos 2]⟩], b := b_is_between }
def b_is_coordinate (C : Fns) : FS :=
 (sSeq (sRet (eCall (C "is_between") [.pos 0, .pos 1, .pos 2] [] (aCons (eVar 0) (aCons (eUn negD (eC (.int 1000000000000000000000000000000))) (aCons (eC (.int 1000000000000000000000000000000)) aNil))) aNil))
 sNil)
def e_is_coordinate : Ent := { g := "is_coordinate", d := { nm := "is_coordinate", st := top 9, N := ["value"], ps := ["value"] }, qual := "is_coordinate", dfl := [], shs := [⟨1, [], [.pos 0]⟩], b := b_is_coordinate }
def b_is_point (C : Fns) : FS :=
 (sSeq (sRet (eAnd (eCB isiD (aCons (eVar 0) (aCons (eC (.ty "tuple")) aNil))) (eAnd (eBin eqD (eCB lenD (aCons (eVar 0) aNil)) (eC (.int 2))) (eAnd (eCall (C "is_coordinate") [.pos 0] [] (aCons (eBin ixDD (eVar 0) (eC (.int 0))) aNil) aNil) (eCall (C "is_coordinate") [.pos 0] [] (aCons (eBin ixDD (eVar 0) (eC (.int 1))) aNil) aNil)))))
 sNil)
def e_is_point : Ent := { g := "is_point", d := { nm := "is_point", st := top 10, N := ["value"], ps := ["value"] }, qual := "is_point", dfl := [], shs := [⟨1, [], [.pos 0]⟩], b := b_is_point }
def b_require_point (C : Fns) : FS :=
 (sSeq (sIf (tNotF (tVal (eCall (C "is_point") [.pos 0] [] (aCons (eVar 0) aNil) aNil)))
 (sSeq sStk
 sNil)
 sNil)
 sNil)
def e_require_point : Ent := { g := "require_point", d := { nm := "require_point", st := top 11, N := ["value"], ps := ["value"] }, qual := "require_point", dfl := [], shs := [⟨1, [], [.pos 0]⟩], b := b_require_point }
def b_is_interval (C : Fns) : FS :=
 (sSeq (sIf (tNotF (tVal (eCB allD (aCons (eLc [2] (iSeq (eTup (aCons (eVar 0) (aCons (eVar 1) aNil)))) (gNm 2) tYes' (eOr (eBin isD (eVar 2) (eC .non)) (eCall (C "is_between") [.pos 0, .pos 1, .pos 2] [] (aCons (eVar 2) (aCons (eUn negD (eC (.int 10000000000000000000000000000000))) (aCons (eC (.int 10000000000000000000000000000000)) aNil))) aNil))) aNil))))
 (sSeq (sRet (eC (.bl false)))
 sNil)
 sNil)
 (sSeq (sRet (eOr (eBin isD (eVar 0) (eC .non)) (eOr (eBin isD (eVar 1) (eC .non)) (eBin (ordD .le) (eVar 0) (eVar 1)))))
 sNil))
def e_is_interval : Ent := { g := "is_interval", d := { nm := "is_interval", st := top 12, N := ["low", "high", "value"], ps := ["low", "high"] }, qual := "is_interval", dfl := [], shs := [⟨2, [], [.pos 0, .pos 1]⟩], b := b_is_interval }
def b_is_rectangle (C : Fns) : FS :=
 (sSeq (sIf (tOrF (tNotF (tVal (eCB isiD (aCons (eVar 0) (aCons (eC (.ty "tuple")) aNil))))) (tB' (eBin neD (eCB lenD (aCons (eVar 0) aNil)) (eC (.int 4)))))
 (sSeq (sRet (eC (.bl false)))
 sNil)
 sNil)
 (sSeq (sRet (eAnd (eCall (C "is_interval") [.pos 0, .pos 1] [] (aCons (eBin ixDD (eVar 0) (eC (.int 0))) (aCons (eBin ixDD (eVar 0) (eC (.int 2))) aNil)) aNil) (eCall (C "is_interval") [.pos 0, .pos 1] [] (aCons (eBin ixDD (eVar 0) (eC (.int 1))) (aCons (eBin ixDD (eVar 0) (eC (.int 3))) aNil)) aNil)))
 sNil))
def e_is_rectangle : Ent := { g := "is_rectangle", d := { nm := "is_rectangle", st := top 13, N := ["value"], ps := ["value"] }, qual := "is_rectangle", dfl := [], shs := [⟨1, [], [.pos 0]⟩], b := b_is_rectangle }
def b_require_rectangle (C : Fns) : FS :=
 (sSeq (sIf (tNotF (tVal (eCall (C "is_rectangle") [.pos 0] [] (aCons (eVar 0) aNil) aNil)))
 (sSeq sStk
 sNil)
 sNil)
 sNil)
def e_require_rectangle : Ent := { g := "require_rectangle", d := { nm := "require_rectangle", st := top 14, N := ["value"], ps := ["value"] }, qual := "require_rectangle", dfl := [], shs := [⟨1, [], [.pos 0]⟩], b := b_require_rectangle }
def b_holds (C : Fns) : FS :=
 (sSeq (sFor (iSeq (eTup (aCons (eC (.int 0)) (aCons (eC (.int 1)) aNil)))) (gNm 2)
 (sSeq (sPar 3 4 (aCons (eBin ixDD (eVar 0) (eVar 2)) (aCons (eBin ixDD (eVar 0) (eBin addD (eVar 2) (eC (.int 2)))) aNil)))
 (sSeq (sIf (tOrF (tAndF (tB' (eBin isNotD (eVar 3) (eC .non))) (tB' (eBin (ordD .lt) (eBin ixDD (eVar 1) (eVar 2)) (eVar 3)))) (tAndF (tB' (eBin isNotD (eVar 4) (eC .non))) (tB' (eBin (ordD .gt) (eBin ixDD (eVar 1) (eVar 2)) (eVar 4)))))
 (sSeq (sRet (eC (.bl false)))
 sNil)
 sNil)
 sNil)))
 (sSeq (sRet (eC (.bl true)))
 sNil))
def e_holds : Ent := { g := "holds", d := { nm := "holds", st := top 15, N := ["rectangle", "point", "axis", "low", "high"], ps := ["rectangle", "point"] }, qual := "holds", dfl := [], shs := [⟨2, [], [.pos 0, .pos 1]⟩], b := b_holds }
def b_is_inside (C : Fns) : FS :=
 (sSeq (sExpr (eCall (C "require_point") [.pos 0] [] (aCons (eVar 0) aNil) aNil))
 (sSeq (sExpr (eCall (C "require_rectangle") [.pos 0] [] (aCons (eVar 1) aNil) aNil))
 (sSeq (sRet (eCall (C "holds") [.pos 0, .pos 1] [] (aCons (eVar 1) (aCons (eVar 0) aNil)) aNil))
 sNil)))
def e_is_inside : Ent := { g := "is_inside", d := { nm := "is_inside", st := top 16, N := ["point", "rectangle"], ps := ["point", "rectangle"] }, qual := "is_inside", dfl := [], shs := [⟨2, [], [.pos 0, .pos 1]⟩], b := b_is_inside }
def b_distance (C : Fns) : FS :=
 (sSeq (sExpr (eCall (C "require_point") [.pos 0] [] (aCons (eVar 0) aNil) aNil))
 (sSeq (sExpr (eCall (C "require_point") [.pos 0] [] (aCons (eVar 1) aNil) aNil))
 (sSeq (sRet (eBin addD (eBin powD (eBin subD (eBin ixDD (eVar 0) (eC (.int 0))) (eBin ixDD (eVar 1) (eC (.int 0)))) (eC (.int 2))) (eBin powD (eBin subD (eBin ixDD (eVar 0) (eC (.int 1))) (eBin ixDD (eVar 1) (eC (.int 1)))) (eC (.int 2)))))
 sNil)))
def e_distance : Ent := { g := "distance", d := { nm := "distance", st := top 17, N := ["point", "other"], ps := ["point", "other"] }, qual := "distance", dfl := [], shs := [⟨2, [], [.pos 0, .pos 1]⟩], b := b_distance }
def b_gap (C : Fns) : FS :=
 (sSeq (sExpr (eCall (C "require_point") [.pos 0] [] (aCons (eVar 0) aNil) aNil))
 (sSeq (sExpr (eCall (C "require_rectangle") [.pos 0] [] (aCons (eVar 1) aNil) aNil))
 (sSeq (sRet (eCall (C "gap_of") [.pos 0, .pos 1] [] (aCons (eVar 0) (aCons (eVar 1) aNil)) aNil))
 sNil)))
def e_gap : Ent := { g := "gap", d := { nm := "gap", st := top 18, N := ["point", "rectangle"], ps := ["point", "rectangle"] }, qual := "gap", dfl := [], shs := [⟨2, [], [.pos 0, .pos 1]⟩], b := b_gap }
def b_gap_of (C : Fns) : FS :=
 (sSeq (sAsg (eC (.int 0)) (gNm 2))
 (sSeq (sFor (iSeq (eTup (aCons (eC (.int 0)) (aCons (eC (.int 1)) aNil)))) (gNm 3)
 (sSeq (sPar 4 5 (aCons (eBin ixDD (eVar 1) (eVar 3)) (aCons (eBin ixDD (eVar 1) (eBin addD (eVar 3) (eC (.int 2)))) aNil)))
 (sSeq (sIf (tAndF (tB' (eBin isNotD (eVar 4) (eC .non))) (tB' (eBin (ordD .lt) (eBin ixDD (eVar 0) (eVar 3)) (eVar 4))))
 (sSeq (sAug 2 iaddD (eBin powD (eBin subD (eVar 4) (eBin ixDD (eVar 0) (eVar 3))) (eC (.int 2))))
 sNil)
 sNil)
 (sSeq (sIf (tAndF (tB' (eBin isNotD (eVar 5) (eC .non))) (tB' (eBin (ordD .gt) (eBin ixDD (eVar 0) (eVar 3)) (eVar 5))))
 (sSeq (sAug 2 iaddD (eBin powD (eBin subD (eBin ixDD (eVar 0) (eVar 3)) (eVar 5)) (eC (.int 2))))
 sNil)
 sNil)
 sNil))))
 (sSeq (sRet (eVar 2))
 sNil)))
def e_gap_of : Ent := { g := "gap_of", d := { nm := "gap_of", st := top 19, N := ["point", "rectangle", "found", "axis", "low", "high"], ps := ["point", "rectangle"] }, qual := "gap_of", dfl := [], shs := [⟨2, [], [.pos 0, .pos 1]⟩], b := b_gap_of }
def b__law_mixed (C : Fns) : FS :=
 (sSeq (sAsg (eBin modD (eCB intD (aCons (eBin mulD (eBin addD (eBin modD (eCB intD (aCons (eVar 0) aNil)) (eC (.int 2147483646))) (eC (.int 1))) (eBin addD (eBin mulD (eVar 1) (eC (.int 7919))) (eC (.int 104729)))) aNil)) (eC (.int 2147483647))) (gNm 2))
 (sSeq (sAsg (eBin modD (eCB intD (aCons (eBin mulD (eBin addD (eVar 2) (eBin mulD (eBin modD (eCB intD (aCons (eBin fdivD (eVar 0) (eC (.int 2147483646))) aNil)) (eC (.int 1000003))) (eBin addD (eVar 1) (eC (.int 31))))) (eC (.int 48271))) aNil)) (eC (.int 2147483629))) (gNm 2))
 (sSeq (sAsg (eBin modD (eCB intD (aCons (eBin mulD (eVar 2) (eBin addD (eBin addD (eBin fdivD (eVar 2) (eC (.int 1013))) (eC (.int 69621))) (eVar 1))) aNil)) (eC (.int 2147483587))) (gNm 2))
 (sSeq (sRet (eBin modD (eCB intD (aCons (eBin mulD (eVar 2) (eBin addD (eBin fdivD (eVar 2) (eC (.int 2003))) (eC (.int 40692)))) aNil)) (eC (.int 2147483563))))
 sNil))))
def e__law_mixed : Ent := { g := "_law_mixed", d := { nm := "_law_mixed", st := top 21, N := ["_law_cell", "_law_draw", "_law_figure"], ps := ["_law_cell", "_law_draw"] }, qual := "_law_mixed", dfl := [], shs := [⟨2, [], [.pos 0, .pos 1]⟩], b := b__law_mixed }
def b__law_source (C : Fns) : FS :=
 (sSeq (sIf (tB' (eBin (ordD .ge) (eCB absD (aCons (eVar 0) aNil)) (eBin powD (eC (.int 10)) (eC (.int 18)))))
 (sSeq (sRet (eLst (aCons (eCB absD (aCons (eVar 0) aNil)) (aCons (eCB absD (aCons (eVar 0) aNil)) (aCons (eC (.int 0)) aNil)))))
 sNil)
 sNil)
 (sSeq (sRet (eLst (aCons (eC (.int 0)) (aCons (eCB absD (aCons (eVar 0) aNil)) (aCons (eC (.int 0)) aNil)))))
 sNil))
def e__law_source : Ent := { g := "_law_source", d := { nm := "_law_source", st := top 22, N := ["_law_cell"], ps := ["_law_cell"] }, qual := "_law_source", dfl := [], shs := [⟨1, [], [.pos 0]⟩], b := b__law_source }
def b__law_take (C : Fns) : FS :=
 (sSeq (sIf (tB' (eBin (ordD .gt) (eBin ixDD (eVar 0) (eC (.int 0))) (eC (.int 0))))
 (sSeq (sAsg (eBin modD (eCB intD (aCons (eBin ixDD (eVar 0) (eC (.int 0))) aNil)) (eVar 1)) (gNm 2))
 (sSeq (sAsg (eBin fdivD (eBin ixDD (eVar 0) (eC (.int 0))) (eVar 1)) (gSb (eVar 0) (eC (.int 0))))
 (sSeq (sRet (eVar 2))
 sNil)))
 sNil)
 (sSeq (sAsg (eBin addD (eBin ixDD (eVar 0) (eC (.int 2))) (eC (.int 1))) (gSb (eVar 0) (eC (.int 2))))
 (sSeq (sRet (eBin modD (eCB intD (aCons (eCall (C "_law_mixed") [.pos 0, .pos 1] [] (aCons (eBin ixDD (eVar 0) (eC (.int 1))) (aCons (eBin ixDD (eVar 0) (eC (.int 2))) aNil)) aNil) aNil)) (eVar 1)))
 sNil)))
def e__law_take : Ent := { g := "_law_take", d := { nm := "_law_take", st := top 23, N := ["_law_source_here", "_law_bound", "_law_drawn"], ps := ["_law_source_here", "_law_bound"] }, qual := "_law_take", dfl := [], shs := [⟨2, [], [.pos 0, .pos 1]⟩], b := b__law_take }
def b__law_pick (C : Fns) : FS :=
 (sSeq (sRet (eBin ixDD (eVar 1) (eCall (C "_law_take") [.pos 0, .pos 1] [] (aCons (eVar 0) (aCons (eCB lenD (aCons (eVar 1) aNil)) aNil)) aNil)))
 sNil)
def e__law_pick : Ent := { g := "_law_pick", d := { nm := "_law_pick", st := top 24, N := ["_law_source_here", "_law_some"], ps := ["_law_source_here", "_law_some"] }, qual := "_law_pick", dfl := [], shs := [⟨2, [], [.pos 0, .pos 1]⟩], b := b__law_pick }
def b__law_spots (C : Fns) : FS :=
 (sSeq (sPar 2 3 (aCons (eCall (C "_law_take") [.pos 0, .pos 1] [] (aCons (eVar 0) (aCons (eBin addD (eVar 1) (eC (.int 1))) aNil)) aNil) (aCons (eCall (C "_law_pick") [.pos 0, .pos 1] [] (aCons (eVar 0) (aCons (eLst (aCons (eC (.int 3)) (aCons (eC (.int 6)) (aCons (eC (.int 20)) (aCons (eBin powD (eC (.int 10)) (eC (.int 9))) (aCons (eBin powD (eC (.int 10)) (eC (.int 30))) aNil)))))) aNil)) aNil) aNil)))
 (sSeq (sAsg (eLst aNil) (gNm 4))
 (sSeq (sFor (iRg (aCons (eVar 2) aNil)) (gNm 5)
 (sSeq (sAsg (eTup (aCons (eBin subD (eCall (C "_law_take") [.pos 0, .pos 1] [] (aCons (eVar 0) (aCons (eBin addD (eBin mulD (eC (.int 2)) (eVar 3)) (eC (.int 1))) aNil)) aNil) (eVar 3)) (aCons (eBin subD (eCall (C "_law_take") [.pos 0, .pos 1] [] (aCons (eVar 0) (aCons (eBin addD (eBin mulD (eC (.int 2)) (eVar 3)) (eC (.int 1))) aNil)) aNil) (eVar 3)) aNil))) (gNm 6))
 (sSeq (sAsg (eBin addD (eVar 4) (eBin mulD (eLst (aCons (eVar 6) aNil)) (eCB intD (aCons (eBin notInDD (eVar 6) (eVar 4)) aNil)))) (gNm 4))
 sNil)))
 (sSeq (sRet (eVar 4))
 sNil))))
def e__law_spots : Ent := { g := "_law_spots", d := { nm := "_law_spots", st := top 25, N := ["_law_source_here", "_law_most", "_law_many", "_law_wide", "_law_found", "_law_turn", "_law_spot"], ps := ["_law_source_here", "_law_most"] }, qual := "_law_spots", dfl := [], shs := [⟨2, [], [.pos 0, .pos 1]⟩], b := b__law_spots }
def b__law_end (C : Fns) : FS :=
 (sSeq (sAsg (eCall (C "_law_take") [.pos 0, .pos 1] [] (aCons (eVar 0) (aCons (eC (.int 5)) aNil)) aNil) (gNm 3))
 (sSeq (sIf (tOrF (tB' (eBin eqD (eVar 3) (eC (.int 0)))) (tB' (eBin eqD (eVar 1) (eLst aNil))))
 (sSeq (sRet (eCall (C "_law_pick") [.pos 0, .pos 1] [] (aCons (eVar 0) (aCons (eLst (aCons (eC .non) (aCons (eC .non) (aCons (eC (.int 0)) (aCons (eUn negD (eBin powD (eC (.int 10)) (eC (.int 31)))) (aCons (eBin powD (eC (.int 10)) (eC (.int 31))) aNil)))))) aNil)) aNil))
 sNil)
 sNil)
 (sSeq (sRet (eBin addD (eBin ixDD (eCall (C "_law_pick") [.pos 0, .pos 1] [] (aCons (eVar 0) (aCons (eVar 1) aNil)) aNil) (eVar 2)) (eBin ixDD (eLst (aCons (eC (.int 0)) (aCons (eC (.int 0)) (aCons (eC (.int 1)) (aCons (eUn negD (eC (.int 1))) aNil))))) (eBin subD (eVar 3) (eC (.int 1))))))
 sNil)))
def e__law_end : Ent := { g := "_law_end", d := { nm := "_law_end", st := top 26, N := ["_law_source_here", "_law_spots_here", "_law_lane", "_law_way"], ps := ["_law_source_here", "_law_spots_here", "_law_lane"] }, qual := "_law_end", dfl := [], shs := [⟨3, [], [.pos 0, .pos 1, .pos 2]⟩], b := b__law_end }
def b__law_box (C : Fns) : FS :=
 (sSeq (sAsg (eLst aNil) (gNm 2))
 (sSeq (sFor (iRg (aCons (eC (.int 2)) aNil)) (gNm 3)
 (sSeq (sPar 4 5 (aCons (eCall (C "_law_end") [.pos 0, .pos 1, .pos 2] [] (aCons (eVar 0) (aCons (eVar 1) (aCons (eVar 3) aNil))) aNil) (aCons (eCall (C "_law_end") [.pos 0, .pos 1, .pos 2] [] (aCons (eVar 0) (aCons (eVar 1) (aCons (eVar 3) aNil))) aNil) aNil)))
 (sSeq (sIf (tAndF (tB' (eBin isNotD (eVar 4) (eC .non))) (tAndF (tB' (eBin isNotD (eVar 5) (eC .non))) (tB' (eBin (ordD .gt) (eVar 4) (eVar 5)))))
 (sSeq (sPar 4 5 (aCons (eVar 5) (aCons (eVar 4) aNil)))
 sNil)
 sNil)
 (sSeq (sExpr (eM appendD (eVar 2) (aCons (eTup (aCons (eVar 4) (aCons (eVar 5) aNil))) aNil)))
 sNil))))
 (sSeq (sRet (eTup (aCons (eBin ixDD (eBin ixDD (eVar 2) (eC (.int 0))) (eC (.int 0))) (aCons (eBin ixDD (eBin ixDD (eVar 2) (eC (.int 1))) (eC (.int 0))) (aCons (eBin ixDD (eBin ixDD (eVar 2) (eC (.int 0))) (eC (.int 1))) (aCons (eBin ixDD (eBin ixDD (eVar 2) (eC (.int 1))) (eC (.int 1))) aNil))))))
 sNil)))
def e__law_box : Ent := { g := "_law_box", d := { nm := "_law_box", st := top 27, N := ["_law_source_here", "_law_spots_here", "_law_ends", "_law_lane", "_law_low", "_law_high"], ps := ["_law_source_here", "_law_spots_here"] }, qual := "_law_box", dfl := [], shs := [⟨2, [], [.pos 0, .pos 1]⟩], b := b__law_box }
def b__law_holds (C : Fns) : FS :=
 (sSeq (sFor (iRg (aCons (eC (.int 2)) aNil)) (gNm 2)
 (sSeq (sIf (tAndF (tB' (eBin isNotD (eBin ixDD (eVar 0) (eVar 2)) (eC .non))) (tB' (eBin (ordD .lt) (eBin ixDD (eVar 1) (eVar 2)) (eBin ixDD (eVar 0) (eVar 2)))))
 (sSeq (sRet (eC (.bl false)))
 sNil)
 sNil)
 (sSeq (sIf (tAndF (tB' (eBin isNotD (eBin ixDD (eVar 0) (eBin addD (eVar 2) (eC (.int 2)))) (eC .non))) (tB' (eBin (ordD .gt) (eBin ixDD (eVar 1) (eVar 2)) (eBin ixDD (eVar 0) (eBin addD (eVar 2) (eC (.int 2)))))))
 (sSeq (sRet (eC (.bl false)))
 sNil)
 sNil)
 sNil)))
 (sSeq (sRet (eC (.bl true)))
 sNil))
def e__law_holds : Ent := { g := "_law_holds", d := { nm := "_law_holds", st := top 28, N := ["_law_box_here", "_law_spot", "_law_lane"], ps := ["_law_box_here", "_law_spot"] }, qual := "_law_holds", dfl := [], shs := [], b := b__law_holds }
def b__law_near (C : Fns) : FS :=
 (sSeq (sAsg (eLst aNil) (gNm 2))
 (sSeq (sFor (iRg (aCons (eC (.int 2)) aNil)) (gNm 3)
 (sSeq (sPar 4 5 (aCons (eBin ixDD (eVar 1) (eVar 3)) (aCons (eBin ixDD (eVar 1) (eBin addD (eVar 3) (eC (.int 2)))) aNil)))
 (sSeq (sIf (tAndF (tB' (eBin isNotD (eVar 4) (eC .non))) (tB' (eBin (ordD .lt) (eBin ixDD (eVar 0) (eVar 3)) (eVar 4))))
 (sSeq (sExpr (eM appendD (eVar 2) (aCons (eVar 4) aNil)))
 sNil)
 (sSeq (sIf (tAndF (tB' (eBin isNotD (eVar 5) (eC .non))) (tB' (eBin (ordD .gt) (eBin ixDD (eVar 0) (eVar 3)) (eVar 5))))
 (sSeq (sExpr (eM appendD (eVar 2) (aCons (eVar 5) aNil)))
 sNil)
 (sSeq (sExpr (eM appendD (eVar 2) (aCons (eBin ixDD (eVar 0) (eVar 3)) aNil)))
 sNil))
 sNil))
 sNil)))
 (sSeq (sRet (eTup (aCons (eBin ixDD (eVar 2) (eC (.int 0))) (aCons (eBin ixDD (eVar 2) (eC (.int 1))) aNil))))
 sNil)))
def e__law_near : Ent := { g := "_law_near", d := { nm := "_law_near", st := top 29, N := ["_law_spot", "_law_box_here", "_law_found", "_law_lane", "_law_low", "_law_high"], ps := ["_law_spot", "_law_box_here"] }, qual := "_law_near", dfl := [], shs := [⟨2, [], [.pos 0, .pos 1]⟩], b := b__law_near }
def b__law_inner (C : Fns) : FS :=
 (sSeq (sAsg (eLst aNil) (gNm 2))
 (sSeq (sFor (iRg (aCons (eC (.int 2)) aNil)) (gNm 3)
 (sSeq (sPar 4 5 (aCons (eBin ixDD (eVar 1) (eVar 3)) (aCons (eBin ixDD (eVar 1) (eBin addD (eVar 3) (eC (.int 2)))) aNil)))
 (sSeq (sIf (tAndF (tB' (eBin isNotD (eVar 4) (eC .non))) (tB' (eBin isNotD (eVar 5) (eC .non))))
 (sSeq (sAsg (eBin addD (eVar 4) (eCall (C "_law_take") [.pos 0, .pos 1] [] (aCons (eVar 0) (aCons (eBin addD (eC (.int 1)) (eBin fdivD (eBin subD (eVar 5) (eVar 4)) (eC (.int 2)))) aNil)) aNil)) (gNm 4))
 (sSeq (sAsg (eBin subD (eVar 5) (eCall (C "_law_take") [.pos 0, .pos 1] [] (aCons (eVar 0) (aCons (eBin addD (eC (.int 1)) (eBin fdivD (eBin subD (eVar 5) (eVar 4)) (eC (.int 2)))) aNil)) aNil)) (gNm 5))
 sNil))
 (sSeq (sIf (tB' (eBin isNotD (eVar 4) (eC .non)))
 (sSeq (sAsg (eBin addD (eVar 4) (eCall (C "_law_take") [.pos 0, .pos 1] [] (aCons (eVar 0) (aCons (eC (.int 9)) aNil)) aNil)) (gNm 4))
 sNil)
 sNil)
 sNil))
 (sSeq (sExpr (eM appendD (eVar 2) (aCons (eTup (aCons (eVar 4) (aCons (eVar 5) aNil))) aNil)))
 sNil))))
 (sSeq (sRet (eTup (aCons (eBin ixDD (eBin ixDD (eVar 2) (eC (.int 0))) (eC (.int 0))) (aCons (eBin ixDD (eBin ixDD (eVar 2) (eC (.int 1))) (eC (.int 0))) (aCons (eBin ixDD (eBin ixDD (eVar 2) (eC (.int 0))) (eC (.int 1))) (aCons (eBin ixDD (eBin ixDD (eVar 2) (eC (.int 1))) (eC (.int 1))) aNil))))))
 sNil)))
def e__law_inner : Ent := { g := "_law_inner", d := { nm := "_law_inner", st := top 30, N := ["_law_source_here", "_law_box_here", "_law_found", "_law_lane", "_law_low", "_law_high"], ps := ["_law_source_here", "_law_box_here"] }, qual := "_law_inner", dfl := [], shs := [⟨2, [], [.pos 0, .pos 1]⟩], b := b__law_inner }
def b_law (C : Fns) : FS :=
 (sSeq (sFor (iSeq (eSl (eBin addD (eVar 0) (eLst (aCons (eC (.int 0)) aNil))) oNone (oSome (eC (.int 5))))) (gNm 1)
 (sSeq (sAsg (eCall (C "_law_source") [.pos 0] [] (aCons (eVar 1) aNil) aNil) (gNm 2))
 (sSeq (sAsg (eLc [4, 5] (iSeq (eCall (C "_law_spots") [.pos 0, .pos 1] [] (aCons (eVar 2) (aCons (eC (.int 8)) aNil)) aNil)) (gTp [gNm 4, gNm 5]) tYes' (eTup (aCons (eBin fdivD (eVar 4) (eC (.int 4))) (aCons (eBin fdivD (eVar 5) (eC (.int 4))) aNil)))) (gNm 3))
 (sSeq (sFor (iRg (aCons (eC (.int 4)) aNil)) (gNm 6)
 (sSeq (sAsg (eCall (C "_law_box") [.pos 0, .pos 1] [] (aCons (eVar 2) (aCons (eVar 3) aNil)) aNil) (gNm 7))
 (sSeq (sAsg (eCB tupleD (aCons (eLc [8] (iSeq (eVar 7)) (gNm 8) tYes' (eIfx (tOrF (tB' (eBin isD (eVar 8) (eC .non))) (tB' (eBin (ordD .gt) (eCB absD (aCons (eVar 8) aNil)) (eBin subD (eBin powD (eC (.int 10)) (eC (.int 30))) (eC (.int 9)))))) (eC .non) (eVar 8))) aNil)) (gNm 7))
 (sSeq (sAsg (eCall (C "_law_inner") [.pos 0, .pos 1] [] (aCons (eVar 2) (aCons (eVar 7) aNil)) aNil) (gNm 9))
 (sSeq (sFor (iSeq (eVar 3)) (gNm 10)
 (sSeq (sAsg (eCall (C "_law_near") [.pos 0, .pos 1] [] (aCons (eVar 10) (aCons (eVar 7) aNil)) aNil) (gNm 11))
 (sSeq (sIf (tOrF (tNotF (tVal (eCall (C "is_inside") [.pos 0, .pos 1] [] (aCons (eVar 11) (aCons (eVar 7) aNil)) aNil))) (tB' (eBin neD (eCall (C "gap") [.pos 0, .pos 1] [] (aCons (eVar 10) (aCons (eVar 7) aNil)) aNil) (eCall (C "distance") [.pos 0, .pos 1] [] (aCons (eVar 10) (aCons (eVar 11) aNil)) aNil))))
 (sSeq (sRet (eC (.bl false)))
 sNil)
 sNil)
 (sSeq (sIf (tB' (eBin (ordD .lt) (eCall (C "gap") [.pos 0, .pos 1] [] (aCons (eVar 10) (aCons (eVar 9) aNil)) aNil) (eCall (C "gap") [.pos 0, .pos 1] [] (aCons (eVar 10) (aCons (eVar 7) aNil)) aNil)))
 (sSeq (sRet (eC (.bl false)))
 sNil)
 sNil)
 (sSeq (sIf (tB' (eBin neD (eLc [12] (iSeq (eVar 3)) (gNm 12) (tAndF (tVal (eCall (C "is_inside") [.pos 0, .pos 1] [] (aCons (eVar 12) (aCons (eVar 7) aNil)) aNil)) (tB' (eBin (ordD .lt) (eCall (C "distance") [.pos 0, .pos 1] [] (aCons (eVar 10) (aCons (eVar 12) aNil)) aNil) (eCall (C "gap") [.pos 0, .pos 1] [] (aCons (eVar 10) (aCons (eVar 7) aNil)) aNil)))) (eC (.int 1))) (eLst aNil)))
 (sSeq (sRet (eC (.bl false)))
 sNil)
 sNil)
 sNil)))))
 sNil)))))
 (sSeq (sFor (iSeq (eVar 3)) (gNm 10)
 (sSeq (sFor (iSeq (eVar 3)) (gNm 12)
 (sSeq (sIf (tOrF (tB' (eBin neD (eCall (C "distance") [.pos 0, .pos 1] [] (aCons (eVar 10) (aCons (eVar 12) aNil)) aNil) (eCall (C "distance") [.pos 0, .pos 1] [] (aCons (eVar 12) (aCons (eVar 10) aNil)) aNil))) (tB' (eBin neD (eCall (C "distance") [.pos 0, .pos 1] [] (aCons (eRev (eVar 10) (eUn negD (eC (.int 1)))) (aCons (eRev (eVar 12) (eUn negD (eC (.int 1)))) aNil)) aNil) (eCall (C "distance") [.pos 0, .pos 1] [] (aCons (eVar 10) (aCons (eVar 12) aNil)) aNil))))
 (sSeq (sRet (eC (.bl false)))
 sNil)
 sNil)
 (sSeq (sIf (tB' (eBin neD (eBin eqD (eCall (C "distance") [.pos 0, .pos 1] [] (aCons (eVar 10) (aCons (eVar 12) aNil)) aNil) (eC (.int 0))) (eBin eqD (eVar 10) (eVar 12))))
 (sSeq (sRet (eC (.bl false)))
 sNil)
 sNil)
 sNil)))
 sNil))
 sNil)))))
 (sSeq (sRet (eC (.bl true)))
 sNil))
def e_law : Ent := { g := "law", d := { nm := "law", st := top 31, N := ["_law_script", "_law_cell", "_law_source_here", "_law_spots_here", "_law_x", "_law_y", "_law_turn", "_law_box_here", "_law_end_here", "_law_inner_here", "_law_spot", "_law_near_here", "_law_one"], ps := ["_law_script"] }, qual := "law", dfl := [], shs := [], b := b_law }
def T : List Ent := [e_is_integer, e_is_between, e_is_coordinate, e_is_point, e_require_point, e_is_interval, e_is_rectangle, e_require_rectangle, e_holds, e_is_inside, e_distance, e_gap, e_gap_of, e__law_mixed, e__law_source, e__law_take, e__law_pick, e__law_spots, e__law_end, e__law_box, e__law_holds, e__law_near, e__law_inner, e_law]
def gb : List (Str × Gb) := [("MAX_COORDINATE", .cst (.int 1000000000000000000000000000000)), ("MAX_BOUND", .cst (.int 10000000000000000000000000000000)), ("abs", .free), ("all", .free), ("bool", .free), ("int", .free), ("isinstance", .free), ("len", .free), ("range", .free), ("tuple", .free)]
def gt : List (Str × Gb) := gtOf gb T
def kE : Nat := 40
def kS : Nat := 60
theorem s_is_integer : EntS kE kS gt e_is_integer where
  sc := ⟨rfl, rfl, rfl, by decide +kernel, rfl, by decide +kernel, by decide +kernel⟩
  df := rfl
  body := fun C => by kernel_rfl
  bnd := fun K f fd F sh hsh => by
    obtain ⟨kV, doc, pm, an, cdv, ct, rfl⟩ := no_dfl F
    replace hsh : sh ∈ [(⟨1, [], [.pos 0]⟩ : PV.Shape)] := hsh
    simp only [List.mem_cons, List.not_mem_nil, or_false] at hsh
    rcases hsh with rfl
    · exact ⟨[], .nil, fun s us ws _ h1 h2 => match us, ws, h1, h2 with | [a0], [], _, _ => .of_eq rfl⟩
theorem s_is_between : EntS kE kS gt e_is_between where
  sc := ⟨rfl, rfl, rfl, by decide +kernel, rfl, by decide +kernel, by decide +kernel⟩
  df := rfl
  body := fun C => by kernel_rfl
  bnd := fun K f fd F sh hsh => by
    obtain ⟨kV, doc, pm, an, cdv, ct, rfl⟩ := no_dfl F
    replace hsh : sh ∈ [(⟨3, [], [.pos 0, .pos 1, .pos 2]⟩ : PV.Shape)] := hsh
    simp only [List.mem_cons, List.not_mem_nil, or_false] at hsh
    rcases hsh with rfl
    · exact ⟨[], .nil, fun s us ws _ h1 h2 => match us, ws, h1, h2 with | [a0, a1, a2], [], _, _ => .of_eq rfl⟩
theorem s_is_coordinate : EntS kE kS gt e_is_coordinate where
  sc := ⟨rfl, rfl, rfl, by decide +kernel, rfl, by decide +kernel, by decide +kernel⟩
  df := rfl
  body := fun C => by kernel_rfl
  bnd := fun K f fd F sh hsh => by
    obtain ⟨kV, doc, pm, an, cdv, ct, rfl⟩ := no_dfl F
    replace hsh : sh ∈ [(⟨1, [], [.pos 0]⟩ : PV.Shape)] := hsh
    simp only [List.mem_cons, List.not_mem_nil, or_false] at hsh
    rcases hsh with rfl
    · exact ⟨[], .nil, fun s us ws _ h1 h2 => match us, ws, h1, h2 with | [a0], [], _, _ => .of_eq rfl⟩
theorem s_is_point : EntS kE kS gt e_is_point where
  sc := ⟨rfl, rfl, rfl, by decide +kernel, rfl, by decide +kernel, by decide +kernel⟩
  df := rfl
  body := fun C => by kernel_rfl
  bnd := fun K f fd F sh hsh => by
    obtain ⟨kV, doc, pm, an, cdv, ct, rfl⟩ := no_dfl F
    replace hsh : sh ∈ [(⟨1, [], [.pos 0]⟩ : PV.Shape)] := hsh
    simp only [List.mem_cons, List.not_mem_nil, or_false] at hsh
    rcases hsh with rfl
    · exact ⟨[], .nil, fun s us ws _ h1 h2 => match us, ws, h1, h2 with | [a0], [], _, _ => .of_eq rfl⟩
theorem s_require_point : EntS kE kS gt e_require_point where
  sc := ⟨rfl, rfl, rfl, by decide +kernel, rfl, by decide +kernel, by decide +kernel⟩
  df := rfl
  body := fun C => by kernel_rfl
  bnd := fun K f fd F sh hsh => by
    obtain ⟨kV, doc, pm, an, cdv, ct, rfl⟩ := no_dfl F
    replace hsh : sh ∈ [(⟨1, [], [.pos 0]⟩ : PV.Shape)] := hsh
    simp only [List.mem_cons, List.not_mem_nil, or_false] at hsh
    rcases hsh with rfl
    · exact ⟨[], .nil, fun s us ws _ h1 h2 => match us, ws, h1, h2 with | [a0], [], _, _ => .of_eq rfl⟩
theorem s_is_interval : EntS kE kS gt e_is_interval where
  sc := ⟨rfl, rfl, rfl, by decide +kernel, rfl, by decide +kernel, by decide +kernel⟩
  df := rfl
  body := fun C => by kernel_rfl
  bnd := fun K f fd F sh hsh => by
    obtain ⟨kV, doc, pm, an, cdv, ct, rfl⟩ := no_dfl F
    replace hsh : sh ∈ [(⟨2, [], [.pos 0, .pos 1]⟩ : PV.Shape)] := hsh
    simp only [List.mem_cons, List.not_mem_nil, or_false] at hsh
    rcases hsh with rfl
    · exact ⟨[], .nil, fun s us ws _ h1 h2 => match us, ws, h1, h2 with | [a0, a1], [], _, _ => .of_eq rfl⟩
theorem s_is_rectangle : EntS kE kS gt e_is_rectangle where
  sc := ⟨rfl, rfl, rfl, by decide +kernel, rfl, by decide +kernel, by decide +kernel⟩
  df := rfl
  body := fun C => by kernel_rfl
  bnd := fun K f fd F sh hsh => by
    obtain ⟨kV, doc, pm, an, cdv, ct, rfl⟩ := no_dfl F
    replace hsh : sh ∈ [(⟨1, [], [.pos 0]⟩ : PV.Shape)] := hsh
    simp only [List.mem_cons, List.not_mem_nil, or_false] at hsh
    rcases hsh with rfl
    · exact ⟨[], .nil, fun s us ws _ h1 h2 => match us, ws, h1, h2 with | [a0], [], _, _ => .of_eq rfl⟩
theorem s_require_rectangle : EntS kE kS gt e_require_rectangle where
  sc := ⟨rfl, rfl, rfl, by decide +kernel, rfl, by decide +kernel, by decide +kernel⟩
  df := rfl
  body := fun C => by kernel_rfl
  bnd := fun K f fd F sh hsh => by
    obtain ⟨kV, doc, pm, an, cdv, ct, rfl⟩ := no_dfl F
    replace hsh : sh ∈ [(⟨1, [], [.pos 0]⟩ : PV.Shape)] := hsh
    simp only [List.mem_cons, List.not_mem_nil, or_false] at hsh
    rcases hsh with rfl
    · exact ⟨[], .nil, fun s us ws _ h1 h2 => match us, ws, h1, h2 with | [a0], [], _, _ => .of_eq rfl⟩
theorem s_holds : EntS kE kS gt e_holds where
  sc := ⟨rfl, rfl, rfl, by decide +kernel, rfl, by decide +kernel, by decide +kernel⟩
  df := rfl
  body := fun C => by kernel_rfl
  bnd := fun K f fd F sh hsh => by
    obtain ⟨kV, doc, pm, an, cdv, ct, rfl⟩ := no_dfl F
    replace hsh : sh ∈ [(⟨2, [], [.pos 0, .pos 1]⟩ : PV.Shape)] := hsh
    simp only [List.mem_cons, List.not_mem_nil, or_false] at hsh
    rcases hsh with rfl
    · exact ⟨[], .nil, fun s us ws _ h1 h2 => match us, ws, h1, h2 with | [a0, a1], [], _, _ => .of_eq rfl⟩
theorem s_is_inside : EntS kE kS gt e_is_inside where
  sc := ⟨rfl, rfl, rfl, by decide +kernel, rfl, by decide +kernel, by decide +kernel⟩
  df := rfl
  body := fun C => by kernel_rfl
  bnd := fun K f fd F sh hsh => by
    obtain ⟨kV, doc, pm, an, cdv, ct, rfl⟩ := no_dfl F
    replace hsh : sh ∈ [(⟨2, [], [.pos 0, .pos 1]⟩ : PV.Shape)] := hsh
    simp only [List.mem_cons, List.not_mem_nil, or_false] at hsh
    rcases hsh with rfl
    · exact ⟨[], .nil, fun s us ws _ h1 h2 => match us, ws, h1, h2 with | [a0, a1], [], _, _ => .of_eq rfl⟩
theorem s_distance : EntS kE kS gt e_distance where
  sc := ⟨rfl, rfl, rfl, by decide +kernel, rfl, by decide +kernel, by decide +kernel⟩
  df := rfl
  body := fun C => by kernel_rfl
  bnd := fun K f fd F sh hsh => by
    obtain ⟨kV, doc, pm, an, cdv, ct, rfl⟩ := no_dfl F
    replace hsh : sh ∈ [(⟨2, [], [.pos 0, .pos 1]⟩ : PV.Shape)] := hsh
    simp only [List.mem_cons, List.not_mem_nil, or_false] at hsh
    rcases hsh with rfl
    · exact ⟨[], .nil, fun s us ws _ h1 h2 => match us, ws, h1, h2 with | [a0, a1], [], _, _ => .of_eq rfl⟩
theorem s_gap : EntS kE kS gt e_gap where
  sc := ⟨rfl, rfl, rfl, by decide +kernel, rfl, by decide +kernel, by decide +kernel⟩
  df := rfl
  body := fun C => by kernel_rfl
  bnd := fun K f fd F sh hsh => by
    obtain ⟨kV, doc, pm, an, cdv, ct, rfl⟩ := no_dfl F
    replace hsh : sh ∈ [(⟨2, [], [.pos 0, .pos 1]⟩ : PV.Shape)] := hsh
    simp only [List.mem_cons, List.not_mem_nil, or_false] at hsh
    rcases hsh with rfl
    · exact ⟨[], .nil, fun s us ws _ h1 h2 => match us, ws, h1, h2 with | [a0, a1], [], _, _ => .of_eq rfl⟩
theorem s_gap_of : EntS kE kS gt e_gap_of where
  sc := ⟨rfl, rfl, rfl, by decide +kernel, rfl, by decide +kernel, by decide +kernel⟩
  df := rfl
  body := fun C => by kernel_rfl
  bnd := fun K f fd F sh hsh => by
    obtain ⟨kV, doc, pm, an, cdv, ct, rfl⟩ := no_dfl F
    replace hsh : sh ∈ [(⟨2, [], [.pos 0, .pos 1]⟩ : PV.Shape)] := hsh
    simp only [List.mem_cons, List.not_mem_nil, or_false] at hsh
    rcases hsh with rfl
    · exact ⟨[], .nil, fun s us ws _ h1 h2 => match us, ws, h1, h2 with | [a0, a1], [], _, _ => .of_eq rfl⟩
theorem s__law_mixed : EntS kE kS gt e__law_mixed where
  sc := ⟨rfl, rfl, rfl, by decide +kernel, rfl, by decide +kernel, by decide +kernel⟩
  df := rfl
  body := fun C => by kernel_rfl
  bnd := fun K f fd F sh hsh => by
    obtain ⟨kV, doc, pm, an, cdv, ct, rfl⟩ := no_dfl F
    replace hsh : sh ∈ [(⟨2, [], [.pos 0, .pos 1]⟩ : PV.Shape)] := hsh
    simp only [List.mem_cons, List.not_mem_nil, or_false] at hsh
    rcases hsh with rfl
    · exact ⟨[], .nil, fun s us ws _ h1 h2 => match us, ws, h1, h2 with | [a0, a1], [], _, _ => .of_eq rfl⟩
theorem s__law_source : EntS kE kS gt e__law_source where
  sc := ⟨rfl, rfl, rfl, by decide +kernel, rfl, by decide +kernel, by decide +kernel⟩
  df := rfl
  body := fun C => by kernel_rfl
  bnd := fun K f fd F sh hsh => by
    obtain ⟨kV, doc, pm, an, cdv, ct, rfl⟩ := no_dfl F
    replace hsh : sh ∈ [(⟨1, [], [.pos 0]⟩ : PV.Shape)] := hsh
    simp only [List.mem_cons, List.not_mem_nil, or_false] at hsh
    rcases hsh with rfl
    · exact ⟨[], .nil, fun s us ws _ h1 h2 => match us, ws, h1, h2 with | [a0], [], _, _ => .of_eq rfl⟩
theorem s__law_take : EntS kE kS gt e__law_take where
  sc := ⟨rfl, rfl, rfl, by decide +kernel, rfl, by decide +kernel, by decide +kernel⟩
  df := rfl
  body := fun C => by kernel_rfl
  bnd := fun K f fd F sh hsh => by
    obtain ⟨kV, doc, pm, an, cdv, ct, rfl⟩ := no_dfl F
    replace hsh : sh ∈ [(⟨2, [], [.pos 0, .pos 1]⟩ : PV.Shape)] := hsh
    simp only [List.mem_cons, List.not_mem_nil, or_false] at hsh
    rcases hsh with rfl
    · exact ⟨[], .nil, fun s us ws _ h1 h2 => match us, ws, h1, h2 with | [a0, a1], [], _, _ => .of_eq rfl⟩
theorem s__law_pick : EntS kE kS gt e__law_pick where
  sc := ⟨rfl, rfl, rfl, by decide +kernel, rfl, by decide +kernel, by decide +kernel⟩
  df := rfl
  body := fun C => by kernel_rfl
  bnd := fun K f fd F sh hsh => by
    obtain ⟨kV, doc, pm, an, cdv, ct, rfl⟩ := no_dfl F
    replace hsh : sh ∈ [(⟨2, [], [.pos 0, .pos 1]⟩ : PV.Shape)] := hsh
    simp only [List.mem_cons, List.not_mem_nil, or_false] at hsh
    rcases hsh with rfl
    · exact ⟨[], .nil, fun s us ws _ h1 h2 => match us, ws, h1, h2 with | [a0, a1], [], _, _ => .of_eq rfl⟩
theorem s__law_spots : EntS kE kS gt e__law_spots where
  sc := ⟨rfl, rfl, rfl, by decide +kernel, rfl, by decide +kernel, by decide +kernel⟩
  df := rfl
  body := fun C => by kernel_rfl
  bnd := fun K f fd F sh hsh => by
    obtain ⟨kV, doc, pm, an, cdv, ct, rfl⟩ := no_dfl F
    replace hsh : sh ∈ [(⟨2, [], [.pos 0, .pos 1]⟩ : PV.Shape)] := hsh
    simp only [List.mem_cons, List.not_mem_nil, or_false] at hsh
    rcases hsh with rfl
    · exact ⟨[], .nil, fun s us ws _ h1 h2 => match us, ws, h1, h2 with | [a0, a1], [], _, _ => .of_eq rfl⟩
theorem s__law_end : EntS kE kS gt e__law_end where
  sc := ⟨rfl, rfl, rfl, by decide +kernel, rfl, by decide +kernel, by decide +kernel⟩
  df := rfl
  body := fun C => by kernel_rfl
  bnd := fun K f fd F sh hsh => by
    obtain ⟨kV, doc, pm, an, cdv, ct, rfl⟩ := no_dfl F
    replace hsh : sh ∈ [(⟨3, [], [.pos 0, .pos 1, .pos 2]⟩ : PV.Shape)] := hsh
    simp only [List.mem_cons, List.not_mem_nil, or_false] at hsh
    rcases hsh with rfl
    · exact ⟨[], .nil, fun s us ws _ h1 h2 => match us, ws, h1, h2 with | [a0, a1, a2], [], _, _ => .of_eq rfl⟩
theorem s__law_box : EntS kE kS gt e__law_box where
  sc := ⟨rfl, rfl, rfl, by decide +kernel, rfl, by decide +kernel, by decide +kernel⟩
  df := rfl
  body := fun C => by kernel_rfl
  bnd := fun K f fd F sh hsh => by
    obtain ⟨kV, doc, pm, an, cdv, ct, rfl⟩ := no_dfl F
    replace hsh : sh ∈ [(⟨2, [], [.pos 0, .pos 1]⟩ : PV.Shape)] := hsh
    simp only [List.mem_cons, List.not_mem_nil, or_false] at hsh
    rcases hsh with rfl
    · exact ⟨[], .nil, fun s us ws _ h1 h2 => match us, ws, h1, h2 with | [a0, a1], [], _, _ => .of_eq rfl⟩
theorem s__law_holds : EntS kE kS gt e__law_holds where
  sc := ⟨rfl, rfl, rfl, by decide +kernel, rfl, by decide +kernel, by decide +kernel⟩
  df := rfl
  body := fun C => by kernel_rfl
  bnd := fun K f fd F sh hsh => by
    obtain ⟨kV, doc, pm, an, cdv, ct, rfl⟩ := no_dfl F
    cases hsh
theorem s__law_near : EntS kE kS gt e__law_near where
  sc := ⟨rfl, rfl, rfl, by decide +kernel, rfl, by decide +kernel, by decide +kernel⟩
  df := rfl
  body := fun C => by kernel_rfl
  bnd := fun K f fd F sh hsh => by
    obtain ⟨kV, doc, pm, an, cdv, ct, rfl⟩ := no_dfl F
    replace hsh : sh ∈ [(⟨2, [], [.pos 0, .pos 1]⟩ : PV.Shape)] := hsh
    simp only [List.mem_cons, List.not_mem_nil, or_false] at hsh
    rcases hsh with rfl
    · exact ⟨[], .nil, fun s us ws _ h1 h2 => match us, ws, h1, h2 with | [a0, a1], [], _, _ => .of_eq rfl⟩
theorem s__law_inner : EntS kE kS gt e__law_inner where
  sc := ⟨rfl, rfl, rfl, by decide +kernel, rfl, by decide +kernel, by decide +kernel⟩
  df := rfl
  body := fun C => by kernel_rfl
  bnd := fun K f fd F sh hsh => by
    obtain ⟨kV, doc, pm, an, cdv, ct, rfl⟩ := no_dfl F
    replace hsh : sh ∈ [(⟨2, [], [.pos 0, .pos 1]⟩ : PV.Shape)] := hsh
    simp only [List.mem_cons, List.not_mem_nil, or_false] at hsh
    rcases hsh with rfl
    · exact ⟨[], .nil, fun s us ws _ h1 h2 => match us, ws, h1, h2 with | [a0, a1], [], _, _ => .of_eq rfl⟩
theorem s_law : EntS kE kS gt e_law where
  sc := ⟨rfl, rfl, rfl, by decide +kernel, rfl, by decide +kernel, by decide +kernel⟩
  df := rfl
  body := fun C => by kernel_rfl
  bnd := fun K f fd F sh hsh => by
    obtain ⟨kV, doc, pm, an, cdv, ct, rfl⟩ := no_dfl F
    cases hsh
theorem hS : ∀ e ∈ T, EntS kE kS gt e := List.forall_mem_cons.mpr ⟨s_is_integer, List.forall_mem_cons.mpr ⟨s_is_between, List.forall_mem_cons.mpr ⟨s_is_coordinate, List.forall_mem_cons.mpr ⟨s_is_point, List.forall_mem_cons.mpr ⟨s_require_point, List.forall_mem_cons.mpr ⟨s_is_interval, List.forall_mem_cons.mpr ⟨s_is_rectangle, List.forall_mem_cons.mpr ⟨s_require_rectangle, List.forall_mem_cons.mpr ⟨s_holds, List.forall_mem_cons.mpr ⟨s_is_inside, List.forall_mem_cons.mpr ⟨s_distance, List.forall_mem_cons.mpr ⟨s_gap, List.forall_mem_cons.mpr ⟨s_gap_of, List.forall_mem_cons.mpr ⟨s__law_mixed, List.forall_mem_cons.mpr ⟨s__law_source, List.forall_mem_cons.mpr ⟨s__law_take, List.forall_mem_cons.mpr ⟨s__law_pick, List.forall_mem_cons.mpr ⟨s__law_spots, List.forall_mem_cons.mpr ⟨s__law_end, List.forall_mem_cons.mpr ⟨s__law_box, List.forall_mem_cons.mpr ⟨s__law_holds, List.forall_mem_cons.mpr ⟨s__law_near, List.forall_mem_cons.mpr ⟨s__law_inner, List.forall_mem_cons.mpr ⟨s_law, fun _ h => (nomatch h)⟩⟩⟩⟩⟩⟩⟩⟩⟩⟩⟩⟩⟩⟩⟩⟩⟩⟩⟩⟩⟩⟩⟩⟩
theorem hTab : tabB gt T := tab_of rfl (by decide +kernel)
abbrev R : PySem.W.OpenRow := PySem.W.OpenLaw.row PySem.Challenge.rw_planesplits_k06_whole_gaps_and_distances
def loose : List PySem.Str := (["PlaneError", "InvalidPoint", "InvalidRectangle", "MAX_COORDINATE", "MAX_BOUND", "is_integer", "is_between", "is_coordinate", "is_point", "require_point", "is_interval", "is_rectangle", "require_rectangle", "holds", "is_inside", "distance", "gap", "gap_of", "_law_mixed", "_law_source", "_law_take", "_law_pick", "_law_spots", "_law_end", "_law_box", "_law_holds", "_law_near", "_law_inner"] : List PySem.Str)
theorem run (w : World) : HandSHeadRun.RunEq R (PySem.W.view R.prog [31]) (hookP 4 gt T) (obP 4 gt T) 6000 loose w := by
  intro os
  kernel_rfl
theorem bindL (K : PySem.W.Frag) (fd : FuncData) (f : Addr) (F : FunD K e_law.d.nm e_law.qual (defArgs e_law.d.st) (defBody e_law.d.st) (defScope e_law.d.st) e_law.dvs [] f fd) (s : Shared) (u : Value) : BindsTo s fd ⟨[u], []⟩ [("_law_script", u)] := by
  obtain ⟨kV, doc, pm, an, cdv, ct, rfl⟩ := no_dfl F
  exact .of_eq rfl
end Lw

set_option Elab.async false
set_option linter.all false
set_option maxRecDepth 100000
set_option maxHeartbeats 800000
namespace Lw
open PV L2 PyProof.Rows PySem PySem.Spec
theorem u_is_integer : Has (runT T) "is_integer" 1 1 b_is_integer := fun k ds S => runT_succ (e := e_is_integer) (by kernel_rfl) ds S
theorem u_is_between : Has (runT T) "is_between" 3 3 b_is_between := fun k ds S => runT_succ (e := e_is_between) (by kernel_rfl) ds S
theorem u_is_coordinate : Has (runT T) "is_coordinate" 1 1 b_is_coordinate := fun k ds S => runT_succ (e := e_is_coordinate) (by kernel_rfl) ds S
theorem u_is_point : Has (runT T) "is_point" 1 1 b_is_point := fun k ds S => runT_succ (e := e_is_point) (by kernel_rfl) ds S
theorem u_require_point : Has (runT T) "require_point" 1 1 b_require_point := fun k ds S => runT_succ (e := e_require_point) (by kernel_rfl) ds S
theorem u_is_interval : Has (runT T) "is_interval" 3 2 b_is_interval := fun k ds S => runT_succ (e := e_is_interval) (by kernel_rfl) ds S
theorem u_is_rectangle : Has (runT T) "is_rectangle" 1 1 b_is_rectangle := fun k ds S => runT_succ (e := e_is_rectangle) (by kernel_rfl) ds S
theorem u_require_rectangle : Has (runT T) "require_rectangle" 1 1 b_require_rectangle := fun k ds S => runT_succ (e := e_require_rectangle) (by kernel_rfl) ds S
theorem u_holds : Has (runT T) "holds" 5 2 b_holds := fun k ds S => runT_succ (e := e_holds) (by kernel_rfl) ds S
theorem u_is_inside : Has (runT T) "is_inside" 2 2 b_is_inside := fun k ds S => runT_succ (e := e_is_inside) (by kernel_rfl) ds S
theorem u_distance : Has (runT T) "distance" 2 2 b_distance := fun k ds S => runT_succ (e := e_distance) (by kernel_rfl) ds S
theorem u_gap : Has (runT T) "gap" 2 2 b_gap := fun k ds S => runT_succ (e := e_gap) (by kernel_rfl) ds S
theorem u_gap_of : Has (runT T) "gap_of" 6 2 b_gap_of := fun k ds S => runT_succ (e := e_gap_of) (by kernel_rfl) ds S
theorem u__law_mixed : Has (runT T) "_law_mixed" 3 2 b__law_mixed := fun k ds S => runT_succ (e := e__law_mixed) (by kernel_rfl) ds S
theorem u__law_source : Has (runT T) "_law_source" 1 1 b__law_source := fun k ds S => runT_succ (e := e__law_source) (by kernel_rfl) ds S
theorem u__law_take : Has (runT T) "_law_take" 3 2 b__law_take := fun k ds S => runT_succ (e := e__law_take) (by kernel_rfl) ds S
theorem u__law_pick : Has (runT T) "_law_pick" 2 2 b__law_pick := fun k ds S => runT_succ (e := e__law_pick) (by kernel_rfl) ds S
theorem u__law_spots : Has (runT T) "_law_spots" 7 2 b__law_spots := fun k ds S => runT_succ (e := e__law_spots) (by kernel_rfl) ds S
theorem u__law_end : Has (runT T) "_law_end" 4 3 b__law_end := fun k ds S => runT_succ (e := e__law_end) (by kernel_rfl) ds S
theorem u__law_box : Has (runT T) "_law_box" 6 2 b__law_box := fun k ds S => runT_succ (e := e__law_box) (by kernel_rfl) ds S
theorem u__law_holds : Has (runT T) "_law_holds" 3 2 b__law_holds := fun k ds S => runT_succ (e := e__law_holds) (by kernel_rfl) ds S
theorem u__law_near : Has (runT T) "_law_near" 6 2 b__law_near := fun k ds S => runT_succ (e := e__law_near) (by kernel_rfl) ds S
theorem u__law_inner : Has (runT T) "_law_inner" 6 2 b__law_inner := fun k ds S => runT_succ (e := e__law_inner) (by kernel_rfl) ds S
theorem u_law : Has (runT T) "law" 13 1 b_law := fun k ds S => runT_succ (e := e_law) (by kernel_rfl) ds S
theorem pts : Pts (runT T) := ⟨u_is_integer, u_is_between, u_is_coordinate, u_is_point⟩
theorem rcs : Rcs (runT T) := ⟨pts, u_is_interval, u_is_rectangle, u_require_rectangle, u_holds, u_gap_of⟩
theorem drw : Drw (runT T) := ⟨u__law_mixed, u__law_source, u__law_take, u__law_pick⟩
theorem bxs : Bxs (runT T) := ⟨drw, u__law_end, u__law_box, u__law_holds⟩
theorem pub : Pub (runT T) := ⟨rcs, u_is_inside, u_gap, u_distance, u_require_point⟩
theorem spots {k : Nat} {S : Sto} {n m : Nat} {most : Nat} (hm : most ≤ 1000) (h : SrcAt S n (m + 2 * most + 2)) :
    Ok (runT T (k + 4) "_law_spots" [.loc n, .int most] S) fun d S' => ∃ (p : Nat) (ps : List (Int × Int)), d = .loc p ∧ S.length ≤ p ∧ lstAt S' p = some (ps.map pD) ∧ ps.length ≤ most ∧ (∀ q ∈ ps, PtOk q) ∧ ps.Nodup ∧ PV.Fr [n] S S' ∧ SrcAt S' n m := spots_ok drw u__law_spots hm h
theorem s62_4 : small62 4 = true := by decide
section
variable {k : Nat} {S : Sto} {n m p : Nat} {ps : List (Int × Int)}
/-! plain: nearest places, smaller boxes -/
def clS (l h : Option Int) (x : Int) : Int := match l, h with
  | some i, some j => if x < i then i else if j < x then j else x
  | some i, none => if x < i then i else x
  | none, some j => if j < x then j else x
  | none, none => x
def clB (q : Box) (p : Int × Int) : Int × Int := (clS q.x0 q.x1 p.1, clS q.y0 q.y1 p.2)
theorem near_ok {q : Box} {s : Int × Int} : ∃ G, runT T (k + 1) "_law_near" [pD s, bD q] S = .ok (pD (clB q s)) (S ++ G) := by
  obtain ⟨x0, y0, x1, y1⟩ := q
  obtain ⟨x, y⟩ := s
  refine ⟨[.lst [.int (clS x0 x1 x), .int (clS y0 y1 y)]], ?_⟩
  rw [u__law_near]
  cases x0 <;> cases x1 <;> cases y0 <;> cases y1 <;> simp [b__law_near, s62_2, PV.upTo, turns, v_fors, nxt, bD, pD, clB, clS, kM_v lst_new, p_app lst_new, p_ixl lst_new]
  all_goals
    (repeat' split) <;> first | rfl | (simp; omega) | simp_all
/-- one box within another -/
def SmS (l h l' h' : Option Int) : Prop := (l = none → l' = none) ∧ (∀ i, l = some i → ∃ i', l' = some i' ∧ i ≤ i') ∧ (h = none → h' = none) ∧ (∀ j, h = some j → ∃ j', h' = some j' ∧ j' ≤ j) ∧ IvOk l' h'
def NarS (o : Option Int) : Prop := ∀ i, o = some i → -999999999999999999999999999991 ≤ i ∧ i ≤ 999999999999999999999999999991
theorem p_fdiv2 {i : Int} : fdivD (.int i) (.int 2) S = some (.int (i / 2), S) := p_fdiv (by omega) (by omega)
def turnI (C : Fns) : FS := (sSeq (sPar 4 5 (aCons (eBin ixDD (eVar 1) (eVar 3)) (aCons (eBin ixDD (eVar 1) (eBin addD (eVar 3) (eC (.int 2)))) aNil)))
 (sSeq (sIf (tAndF (tB' (eBin isNotD (eVar 4) (eC .non))) (tB' (eBin isNotD (eVar 5) (eC .non))))
 (sSeq (sAsg (eBin addD (eVar 4) (eCall (C "_law_take") [.pos 0, .pos 1] [] (aCons (eVar 0) (aCons (eBin addD (eC (.int 1)) (eBin fdivD (eBin subD (eVar 5) (eVar 4)) (eC (.int 2)))) aNil)) aNil)) (gNm 4))
 (sSeq (sAsg (eBin subD (eVar 5) (eCall (C "_law_take") [.pos 0, .pos 1] [] (aCons (eVar 0) (aCons (eBin addD (eC (.int 1)) (eBin fdivD (eBin subD (eVar 5) (eVar 4)) (eC (.int 2)))) aNil)) aNil)) (gNm 5))
 sNil))
 (sSeq (sIf (tB' (eBin isNotD (eVar 4) (eC .non)))
 (sSeq (sAsg (eBin addD (eVar 4) (eCall (C "_law_take") [.pos 0, .pos 1] [] (aCons (eVar 0) (aCons (eC (.int 9)) aNil)) aNil)) (gNm 4))
 sNil)
 sNil)
 sNil))
 (sSeq (sExpr (eM appendD (eVar 2) (aCons (eTup (aCons (eVar 4) (aCons (eVar 5) aNil))) aNil)))
 sNil)))
theorem turnI_ok {l : Int} {q : Nat} {bx : D} {lo hi : Option Int} {xs : List D} {x y : Option D} (h : SrcAt S n (m + 2)) (hlo : ∀ S, ixDD bx (.int l) S = some (oD lo, S)) (hhi : ∀ S, ixDD bx (.int (l + 2)) S = some (oD hi, S)) (hv : IvOk lo hi) (n1 : NarS lo) (n2 : NarS hi)
    (hq : lstAt S q = some xs) (hqn : q ≠ n) (hxl : xs.length < 2) :
    Ok (turnI (runT T (k + 2)) [some (.loc n), some bx, some (.loc q), some (.int l), x, y] S) fun fl S' => ∃ o o' x' y', fl = .nx [some (.loc n), some bx, some (.loc q), some (.int l), x', y'] ∧ SmS lo hi o o' ∧ lstAt S' q = some (xs ++ [.tup [oD o, oD o']]) ∧ PV.Fr [n, q] S S' ∧ SrcAt S' n m := by
  refine ok_abs fun Q hQ => ?_
  have main : ∀ (S2 : Sto) (d e : Option Int), SmS lo hi d e → PV.Fr [n] S S2 → SrcAt S2 n m → ∀ x' y', Q (.nx [some (.loc n), some bx, some (.loc q), some (.int l), x', y']) (S2.set q (.lst (xs ++ [.tup [oD d, oD e]]))) := by
    intro S2 d e hde hf hs x' y'
    have hq2 := hf.lst hq (by simp [hqn])
    refine hQ _ _ ⟨d, e, x', y', rfl, hde, lst_set (lst_lt hq2), (hf.sub (by simp)).trans (.set (by simp)), ?_⟩
    obtain ⟨a, b, c, z1, z2⟩ := hs
    exact ⟨a, b, c, by rw [lst_ne hqn]; exact z1, z2⟩
  cases lo with
  | none =>
    have hs : SmS none hi none hi := ⟨fun _ => rfl, by simp, fun h => h, fun j e => ⟨j, e, Int.le_refl _⟩, hv⟩
    cases hi with
    | none =>
      simp [turnI, hlo, hhi, kM_v hq, p_app hq (by omega)]
      exact main S none none hs .refl (h.le (by omega)) _ _
    | some j =>
      simp [turnI, hlo, hhi, kM_v hq, p_app hq (by omega)]
      exact main S none (some j) hs .refl (h.le (by omega)) _ _
  | some i =>
    have b1 := n1 i rfl
    cases hi with
    | none =>
      simp [turnI, hlo, hhi, arr, pick]
      refine (take_ok (k := k) (m := m + 1) drw h (j := 9) (by omega) (by omega)).mono ?_
      rintro d S1 ⟨v, rfl, hv0, hv1, hl1, hf1, hs1⟩
      have hq1 := hf1.lst hq (by simp [hqn])
      simp [kM_v hq1, p_app hq1 (by omega)]
      exact main S1 (some (i + v)) none ⟨by simp, fun a e => ⟨i + v, rfl, by cases e; omega⟩, fun _ => rfl, by simp, by simp [EndOk, bTop]; omega, by simp [EndOk], by simp⟩ hf1 (hs1.le (by omega)) _ _
    | some j =>
      have b2 := n2 j rfl
      have b3 := hv.2.2 i j rfl rfl
      simp [turnI, hlo, hhi, arr, pick, p_fdiv2]
      refine (take_ok (k := k) (m := m + 1) drw h (j := 1 + (j - i) / 2) (by omega) (by omega)).mono ?_
      rintro d S1 ⟨v, rfl, hv0, hv1, hl1, hf1, hs1⟩
      simp [arr, pick, p_fdiv2]
      refine (take_ok (k := k) (m := m) drw hs1 (j := 1 + (j - (i + v)) / 2) (by omega) (by omega)).mono ?_
      rintro d S2 ⟨w, rfl, hw0, hw1, hl2, hf2, hs2⟩
      have hf2 := hf1.trans hf2
      have hq2 := hf2.lst hq (by simp [hqn])
      simp [kM_v hq2, p_app hq2 (by omega)]
      exact main S2 (some (i + v)) (some (j - w)) ⟨by simp, fun a e => ⟨i + v, rfl, by cases e; omega⟩, by simp, fun a e => ⟨j - w, rfl, by cases e; omega⟩, by simp [EndOk, bTop]; omega, by simp [EndOk, bTop]; omega, by simp; omega⟩ hf2 hs2 _ _
def SmB (q q' : Box) : Prop := SmS q.x0 q.x1 q'.x0 q'.x1 ∧ SmS q.y0 q.y1 q'.y0 q'.y1
def NarB (q : Box) : Prop := NarS q.x0 ∧ NarS q.y0 ∧ NarS q.x1 ∧ NarS q.y1
theorem inner_ok {b : Box} (h : SrcAt S n (m + 4)) (hb : BoxOk b) (hn : NarB b) :
    Ok (runT T (k + 3) "_law_inner" [.loc n, bD b] S) fun d S' => ∃ b', d = bD b' ∧ SmB b b' ∧ PV.Fr [n] S S' ∧ SrcAt S' n m := by
  have hnl := h.lt
  obtain ⟨x0, y0, x1, y1⟩ := b
  obtain ⟨hv1, hv2⟩ := hb
  obtain ⟨m1, m2, m3, m4⟩ := hn
  refine ok_abs fun Q hQ => ?_
  rw [u__law_inner]
  have e : b__law_inner (runT T (k + 2)) = sSeq (sAsg (eLst aNil) (gNm 2)) (sSeq (sFor (iRg (aCons (eC (.int 2)) aNil)) (gNm 3) (turnI (runT T (k + 2))))
    (sSeq (sRet (eTup (aCons (eBin ixDD (eBin ixDD (eVar 2) (eC (.int 0))) (eC (.int 0))) (aCons (eBin ixDD (eBin ixDD (eVar 2) (eC (.int 1))) (eC (.int 0))) (aCons (eBin ixDD (eBin ixDD (eVar 2) (eC (.int 0))) (eC (.int 1))) (aCons (eBin ixDD (eBin ixDD (eVar 2) (eC (.int 1))) (eC (.int 1))) aNil)))))) sNil)) := rfl
  rw [e]
  simp [s62_2, turns, PV.upTo, v_fors, nxt]
  refine (turnI_ok (k := k) (m := m + 2) (q := S.length) (l := 0) (lo := x0) (hi := x1) (xs := []) h.app (fun S => by simp [bD]) (fun S => by simp [bD]) hv1 m1 m3 lst_new (by omega) (by simp)).mono ?_
  rintro fl S1 ⟨a, b, x1', y1', rfl, hm1, hl1, hf1, hs1⟩
  simp [v_fors, nxt]
  refine (turnI_ok (k := k) (m := m) (q := S.length) (l := 1) (lo := y0) (hi := y1) hs1 (fun S => by simp [bD]) (fun S => by simp [bD]) hv2 m2 m4 hl1 (by omega) (by simp)).mono ?_
  rintro fl S2 ⟨c, d, x2', y2', rfl, hm2, hl2, hf2, hs2⟩
  simp [v_fors, nxt, p_ixl hl2]
  have hf : PV.Fr [n] S S2 := by
    have := hf1.trans hf2
    exact ⟨by have := this.len; simp at this; omega, fun i hi hw => by
      rw [this.at_ i (by simp; omega) (by simp at hw ⊢; omega), List.getElem?_append_left hi]⟩
  exact hQ _ _ ⟨⟨a, c, b, d⟩, rfl, ⟨hm1, hm2⟩, hf, hs2⟩
theorem sq_le {a b : Int} (h0 : 0 ≤ a) (h : a ≤ b) : a * a ≤ b * b := Int.mul_le_mul h h h0 (by omega)
theorem sq_nn (a : Int) : 0 ≤ a * a := by
  rcases Int.le_total 0 a with h | h
  · exact Int.mul_nonneg h h
  · exact Int.mul_nonneg_of_nonpos_of_nonpos h h
theorem sq_neg (a b : Int) : (a - b) * (a - b) = (b - a) * (b - a) := by
  rw [show a - b = -(b - a) by omega, Int.neg_mul_neg]
theorem gap_mono {l h l' h' : Option Int} (x : Int) (s : SmS l h l' h') : gapS l h x ≤ gapS l' h' x := by
  obtain ⟨s1, s2, s3, s4, s5⟩ := s
  have key : ∀ i i' : Int, i ≤ i' → (if x < i then (i - x) * (i - x) else 0) ≤ (if x < i' then (i' - x) * (i' - x) else 0) := by
    intro i i' hi
    split
    · rw [if_pos (by omega)]
      exact sq_le (by omega) (by omega)
    · split
      · exact sq_nn _
      · exact Int.le_refl _
  have key2 : ∀ j j' : Int, j' ≤ j → (if j < x then (x - j) * (x - j) else 0) ≤ (if j' < x then (x - j') * (x - j') else 0) := by
    intro j j' hj
    split
    · rw [if_pos (by omega)]
      exact sq_le (by omega) (by omega)
    · split
      · exact sq_nn _
      · exact Int.le_refl _
  cases l with
  | none =>
    obtain rfl := s1 rfl
    cases h with
    | none =>
      obtain rfl := s3 rfl
      exact Int.le_refl _
    | some j =>
      obtain ⟨j', rfl, hj⟩ := s4 j rfl
      exact Int.add_le_add (Int.le_refl _) (key2 j j' hj)
  | some i =>
    obtain ⟨i', rfl, hi⟩ := s2 i rfl
    cases h with
    | none =>
      obtain rfl := s3 rfl
      exact Int.add_le_add (key i i' hi) (Int.le_refl _)
    | some j =>
      obtain ⟨j', rfl, hj⟩ := s4 j rfl
      exact Int.add_le_add (key i i' hi) (key2 j j' hj)
theorem gapB_mono {q q' : Box} (s : Int × Int) (h : SmB q q') : gapB q s ≤ gapB q' s := Int.add_le_add (gap_mono _ h.1) (gap_mono _ h.2)
theorem cl_in {l h : Option Int} (x : Int) (v : IvOk l h) : inS l h (clS l h x) = true ∧ gapS l h x = (x - clS l h x) * (x - clS l h x) := by
  obtain ⟨-, -, v⟩ := v
  cases l <;> cases h <;> simp [inS, clS, gapS]
  · rename_i j
    by_cases h1 : j < x
    · simp only [h1, if_true]
      exact ⟨by (first | omega | (simp <;> omega)), trivial⟩
    · simp only [h1, if_false]
      exact ⟨by (first | omega | (simp <;> omega)), by simp⟩
  · rename_i i
    by_cases h1 : x < i
    · simp only [h1, if_true]
      exact ⟨by (first | omega | (simp <;> omega)), sq_neg _ _⟩
    · simp only [h1, if_false]
      exact ⟨by (first | omega | (simp <;> omega)), by simp⟩
  · rename_i i j
    have := v i j rfl rfl
    by_cases h1 : x < i
    · have h2 : ¬ j < x := by omega
      simp only [h1, h2, if_true, if_false, Int.add_zero]
      exact ⟨by (first | omega | (simp <;> omega)), sq_neg _ _⟩
    · by_cases h2 : j < x
      · simp only [h1, h2, if_true, if_false, Int.zero_add]
        exact ⟨by (first | omega | (simp <;> omega)), trivial⟩
      · simp only [h1, h2, if_false]
        exact ⟨by (first | omega | (simp <;> omega)), by simp⟩
theorem clB_in {q : Box} (s : Int × Int) (h : BoxOk q) : inB q (clB q s) = true ∧ gapB q s = farP s (clB q s) := by
  obtain ⟨a1, a2⟩ := cl_in s.1 h.1
  obtain ⟨b1, b2⟩ := cl_in s.2 h.2
  exact ⟨by unfold inB clB; simp only [a1, b1, Bool.and_self], by unfold gapB farP clB; simp only [a2, b2]⟩
theorem cl_pt {l h : Option Int} {x : Int} (n1 : NarS l) (n2 : NarS h) (hx : -1000000000000000000000000000000 ≤ x ∧ x ≤ 1000000000000000000000000000000) : -1000000000000000000000000000000 ≤ clS l h x ∧ clS l h x ≤ 1000000000000000000000000000000 := by
  cases l with
  | none =>
    cases h with
    | none => exact hx
    | some j =>
      have := n2 j rfl
      simp only [clS]
      split <;> omega
  | some i =>
    have := n1 i rfl
    cases h with
    | none =>
      simp only [clS]
      split <;> omega
    | some j =>
      have := n2 j rfl
      simp only [clS]
      split
      · omega
      · split <;> omega
theorem clB_pt {q : Box} {s : Int × Int} (h : NarB q) (hs : PtOk s) : PtOk (clB q s) := by
  obtain ⟨a, b, c, d⟩ := h
  obtain ⟨h1, h2, h3, h4⟩ := hs
  obtain ⟨c1, c2⟩ := cl_pt a c ⟨h1, h2⟩
  obtain ⟨c3, c4⟩ := cl_pt b d ⟨h3, h4⟩
  exact ⟨c1, c2, c3, c4⟩
theorem gap_le {l h : Option Int} {x y : Int} (hy : inS l h y = true) (v : IvOk l h) : gapS l h x ≤ (x - y) * (x - y) := by
  obtain ⟨-, -, v⟩ := v
  have := sq_nn (x - y)
  cases l <;> cases h <;> simp [inS, gapS] at hy ⊢
  · exact this
  · split
    · exact sq_le (by omega) (by omega)
    · exact this
  · split
    · rw [sq_neg x y]
      exact sq_le (by omega) (by omega)
    · exact this
  · rename_i i j
    have vv := v i j rfl rfl
    by_cases h1 : x < i
    · simp only [h1, if_true]
      rw [if_neg (by omega), Int.add_zero, sq_neg x y]
      exact sq_le (by omega) (by omega)
    · simp only [h1, if_false, Int.zero_add]
      split
      · exact sq_le (by omega) (by omega)
      · exact this
theorem gapB_le {q : Box} {s r : Int × Int} (h : BoxOk q) (hr : inB q r = true) : gapB q s ≤ farP s r := by
  unfold inB at hr
  rw [Bool.and_eq_true] at hr
  exact Int.add_le_add (gap_le hr.1 h.1) (gap_le hr.2 h.2)
/-! ends that are too far are left out -/
def flt : Option Int → Option Int
  | none => none
  | some i => if 999999999999999999999999999991 < (i.natAbs : Int) then none else some i
theorem flt_nar (o : Option Int) : NarS (flt o) := by
  cases o with
  | none => simp [flt, NarS]
  | some i =>
    simp only [flt]
    split
    · simp [NarS]
    · intro j e
      cases e
      omega
theorem flt_iv {l h : Option Int} (v : IvOk l h) : IvOk (flt l) (flt h) := by
  have e : ∀ o i, flt o = some i → o = some i := by
    intro o i
    cases o with
    | none => simp [flt]
    | some j =>
      simp only [flt]
      split
      · simp
      · exact fun h => h
  exact ⟨fun i h => v.1 i (e _ _ h), fun i h => v.2.1 i (e _ _ h), fun i j h1 h2 => v.2.2 i j (e _ _ h1) (e _ _ h2)⟩
def fltB (q : Box) : Box := ⟨flt q.x0, flt q.y0, flt q.x1, flt q.y1⟩
theorem fltB_ok {q : Box} (h : BoxOk q) : BoxOk (fltB q) ∧ NarB (fltB q) := ⟨⟨flt_iv h.1, flt_iv h.2⟩, flt_nar _, flt_nar _, flt_nar _, flt_nar _⟩
theorem smB_ok {q q' : Box} (h : SmB q q') : BoxOk q' := ⟨h.1.2.2.2.2, h.2.2.2.2.2⟩
/-! quarters of coordinates -/
def qt (p : Int × Int) : Int × Int := (p.1 / 4, p.2 / 4)
theorem qt_ok {p : Int × Int} (h : PtOk p) : PtOk (qt p) := by
  obtain ⟨h1, h2, h3, h4⟩ := h
  simp only [cTop] at h1 h2 h3 h4
  exact ⟨by simp only [cTop, qt]; omega, by simp only [cTop, qt]; omega, by simp only [cTop, qt]; omega, by simp only [cTop, qt]; omega⟩
theorem p_fdiv4 {i : Int} : fdivD (.int i) (.int 4) S = some (.int (i / 4), S) := p_fdiv (by omega) (by omega)
/-! the law -/
def lv : Nat := 20
theorem main (ns : List Int) (hl : ns.length ≤ 63) (hb : ∀ i ∈ ns, Builtin.Int.intBits i ≤ 1048576) : ∃ S', runT T (lv + 1) "law" [.fz (ns.map D.int)] [] = .ok (.bl true) S' := by
  suffices h : Ok (runT T (lv + 1) "law" [.fz (ns.map D.int)] []) fun d _ => d = .bl true by
    obtain ⟨a, S', e, rfl⟩ := h.ex
    exact ⟨S', e⟩
  refine ok_abs fun Q hQ => ?_
  rw [u_law, show lv = 20 from rfl]
  simp only [b_law, runB1, v_seq, v_for, v_iseq]
  obtain ⟨ms, e, hms⟩ := cells (env := List.replicate (13 - 1) none) 5 hl
  rw [e]
  clear e hms
  generalize hS : [SO.lst [D.int 0], SO.lst (ns.map D.int ++ [D.int 0]), SO.lst (ms.map D.int)] = S0
  have h2 : lstAt S0 2 = some (ms.map D.int) := by rw [← hS]; rfl
  clear hS
  simp [it_loc h2]
  refine for_live (xs := ms.map D.int) (I := fun _ env S => (∃ x1 x2 x3 x4 x5 x6 x7 x8 x9 x10 x11 x12, env = [some (.fz (ns.map D.int)), x1, x2, x3, x4, x5, x6, x7, x8, x9, x10, x11, x12]) ∧ lstAt S 2 = some (ms.map D.int)) ⟨⟨_, _, _, _, _, _, _, _, _, _, _, _, rfl⟩, h2⟩ (fun i env S h => h.2) ?_ ?_
  · rintro t env S1 ht ⟨⟨x1, x2, x3, x4, x5, x6, x7, x8, x9, x10, x11, x12, rfl⟩, h2⟩ J hJ
    rw [List.getElem_map]
    generalize ms[t]'(by simpa using ht) = cell
    simp [arr, pick]
    refine (source_at (k := 19) drw cell).mono ?_
    rintro d S2 ⟨rfl, hl2, hf2, hs2⟩
    have hn2 : 2 ≠ S1.length := by have := lst_lt h2; omega
    have h2 := hf2.lst h2 (List.not_mem_nil)
    simp [arr, pick]
    refine (spots (k := 16) (m := 1000) (most := 8) (by omega) (hs2.le (by omega))).mono ?_
    rintro d S3 ⟨p0, ps0, rfl, hp1, hp2, hps0, hok0, hnd, hf3, hs3⟩
    have h2 := hf3.lst h2 (by simp [hn2])
    simp [it_loc hp2, wipeE]
    refine lc_live (xs := ps0.map pD) (I := fun i acc S => S = S3 ∧ acc = ((ps0.take i).map qt).map pD) (by simp; omega) ⟨rfl, rfl⟩ (fun i acc S h => by rw [h.1]; exact hp2) ?_ ?_
    · rintro i acc S hi ⟨rfl, hacc⟩ J1 hJ1
      have hi' : i < ps0.length := by simpa using hi
      rw [List.getElem_map]
      rw [show ps0[i]'hi' = (ps0[i].1, ps0[i].2) from rfl]
      simp [pD, p_fdiv4]
      refine hJ1 _ _ ⟨rfl, ?_⟩
      rw [hacc, List.take_succ_eq_append_getElem hi', List.map_append, List.map_append]
      rfl
    · rintro acc S ⟨rfl, hacc⟩
      rw [List.length_map, List.take_length] at hacc
      have hok : ∀ q ∈ ps0.map qt, PtOk q := by
        intro q hq
        obtain ⟨r, hr, rfl⟩ := List.mem_map.mp hq
        exact qt_ok (hok0 r hr)
      have hlen : (ps0.map qt).length ≤ 8 := by rw [List.length_map]; exact hps0
      generalize ps0.map qt = ps at *
      subst hacc
      simp [s62_4]
      have hpn : S.length ≠ S1.length := by have := hf3.len; omega
      generalize hp : S.length = p at *
      refine for_upTo (I := fun t env S' => (∃ x4 x5 x6 x7 x8 x9 x10 x11 x12, env = [some (.fz (ns.map D.int)), some (.int cell), some (.loc S1.length), some (.loc p), x4, x5, x6, x7, x8, x9, x10, x11, x12]) ∧ lstAt S' 2 = some (ms.map D.int) ∧ lstAt S' p = some (ps.map pD) ∧ SrcAt S' S1.length (1000 - 20 * t)) ⟨⟨_, _, _, _, _, _, _, _, _, rfl⟩, lst_app h2, by rw [← hp]; exact lst_new, hs3.app⟩ ?_ ?_
      · rintro t env S4 ht4 ⟨⟨x4, x5, x6, x7, x8, x9, x10, x11, x12, rfl⟩, h2, hp, hs⟩ J1 hJ1
        have ht4 : t < 4 := ht4
        have e8 : 1000 - 20 * t = (1000 - 20 * (t + 1) + 8 + 4) + 8 := by omega
        rw [e8] at hs
        simp [arr, pick]
        refine (box_ok (k := 15) bxs hs hp hpn hok (by omega)).mono ?_
        rintro d S5 ⟨q, rfl, hq, hf5, hs5⟩
        have h2 := hf5.lst h2 (by simp [hn2])
        have hp := hf5.lst hp (by simp [hpn])
        obtain ⟨hq1, hq2⟩ := fltB_ok hq
        simp [bD, itOf, wipeE]
        refine lc_items (xs := [q.x0, q.y0, q.x1, q.y1].map oD) (I := fun i acc S => S = S5 ∧ acc = (([q.x0, q.y0, q.x1, q.y1].take i).map flt).map oD) (by simp) ⟨rfl, rfl⟩ ?_ ?_
        · rintro i acc S hi ⟨rfl, hacc⟩ J2 hJ2
          have hi' : i < [q.x0, q.y0, q.x1, q.y1].length := by simpa using hi
          rw [List.getElem_map]
          have hJ3 : ∀ o, [q.x0, q.y0, q.x1, q.y1][i] = o → J2 (acc ++ [oD (flt o)]) S := by
            rintro o rfl
            refine hJ2 _ _ ⟨rfl, ?_⟩
            rw [hacc, List.take_succ_eq_append_getElem hi', List.map_append, List.map_append]
            rfl
          generalize [q.x0, q.y0, q.x1, q.y1][i]'hi' = o at hJ3 ⊢
          have hJ3 := hJ3 o rfl
          cases o with
          | none =>
            simp
            exact hJ3
          | some z =>
            simp only [flt] at hJ3
            simp
            split
            · rename_i hc
              rw [if_pos hc] at hJ3
              exact hJ3
            · rename_i hc
              rw [if_neg hc] at hJ3
              exact hJ3
        · rintro acc S ⟨rfl, hacc⟩
          have hacc : acc = [oD (flt q.x0), oD (flt q.y0), oD (flt q.x1), oD (flt q.y1)] := hacc
          subst hacc
          simp [tupleD, arr, pick]
          rw [show (D.tup [oD (flt q.x0), oD (flt q.y0), oD (flt q.x1), oD (flt q.y1)]) = bD (fltB q) from rfl]
          obtain ⟨B, hB⟩ : ∃ B, B = fltB q := ⟨_, rfl⟩
          rw [← hB] at hq1 hq2 ⊢
          clear hB
          refine (inner_ok (k := 17) (m := 1000 - 20 * (t + 1)) (hs5.app.le (by omega)) hq1 hq2).mono ?_
          rintro d S6 ⟨b', rfl, hsm, hf6, hs6⟩
          have h2 := hf6.lst (lst_app h2) (by simp [hn2])
          have hp := hf6.lst (lst_app hp) (by simp [hpn])
          have hb' := smB_ok hsm
          simp [it_loc hp]
          refine for_live (xs := ps.map pD) (I := fun _ env S => (∃ x4 x5 x8 x10 x11 x12, env = [some (.fz (ns.map D.int)), some (.int cell), some (.loc S1.length), some (.loc p), x4, x5, some (.int (t : Nat)), some (bD B), x8, some (bD b'), x10, x11, x12]) ∧ lstAt S 2 = some (ms.map D.int) ∧ lstAt S p = some (ps.map pD) ∧ SrcAt S S1.length (1000 - 20 * (t + 1))) ⟨⟨_, _, _, _, _, _, rfl⟩, h2, hp, hs6⟩ (fun i env S h => h.2.2.1) ?_ ?_
          · rintro j env S7 hj ⟨⟨x4, x5, x8, x10, x11, x12, rfl⟩, h2, hp, hs⟩ J2 hJ2
            rw [List.getElem_map]
            have hmem := hok _ (List.getElem_mem (show j < ps.length by simpa using hj))
            generalize ps[j]'(by simpa using hj) = s at *
            have hcl := clB_pt hq2 hmem
            obtain ⟨hin, hgd⟩ := clB_in s hq1
            obtain ⟨G1, e1⟩ := near_ok (k := 19) (S := S7) (q := B) (s := s)
            obtain ⟨G2, e2⟩ := is_inside_ok (k := 14) (S := S7 ++ G1) pub hq1 hcl
            obtain ⟨G3, e3⟩ := gap_ok (k := 14) (S := S7 ++ G1 ++ G2) pub hq1 hmem
            obtain ⟨G4, e4⟩ := gap_ok (k := 14) (S := S7 ++ G1 ++ G2 ++ G3) pub hb' hmem
            obtain ⟨G5, e5⟩ := gap_ok (k := 14) (S := S7 ++ G1 ++ G2 ++ G3 ++ G4) pub hq1 hmem
            have hmono := gapB_mono s hsm
            have hnl : ¬ gapB b' s < gapB B s := by omega
            simp only [List.append_assoc] at e1 e2 e3 e4 e5
            rw [hin] at e2
            have hdist : ∀ S : Sto, runT T 20 "distance" [pD s, pD (clB B s)] S = _ := fun S => distance_ok (k := 14) pub hmem hcl
            have hp8 : lstAt (S7 ++ (G1 ++ (G2 ++ (G3 ++ (G4 ++ G5))))) p = some (ps.map pD) := lst_app hp
            rw [← hgd] at hdist
            simp [arr, pick, e1, e2, e3, e4, e5, hdist, hnl, it_loc hp8, wipeE]
            refine lc_live (xs := ps.map pD) (I := fun _ acc S => acc = [] ∧ lstAt S 2 = some (ms.map D.int) ∧ lstAt S p = some (ps.map pD) ∧ SrcAt S S1.length (1000 - 20 * (t + 1))) (by simp; omega) ⟨rfl, lst_app h2, hp8, hs.app⟩ (fun i acc S h => h.2.2.1) ?_ ?_
            · rintro j2 acc S8 hj2 ⟨rfl, h2, hp, hs⟩ J3 hJ3
              rw [List.getElem_map]
              have hmem2 := hok _ (List.getElem_mem (show j2 < ps.length by simpa using hj2))
              generalize ps[j2]'(by simpa using hj2) = r at hmem2 ⊢
              obtain ⟨G6, e6⟩ := is_inside_ok (k := 14) (S := S8) pub hq1 hmem2
              obtain ⟨G7, e7⟩ := gap_ok (k := 14) (S := S8 ++ G6) pub hq1 hmem
              have d1 : ∀ S : Sto, runT T 20 "distance" [pD s, pD r] S = _ := fun S => distance_ok (k := 14) pub hmem hmem2
              simp [arr, pick, e6]
              by_cases hr : inB B r = true
              · have hle := gapB_le (s := s) hq1 hr
                have hno : ¬ farP s r < gapB B s := by omega
                simp [hr, arr, pick, d1, e7, hno]
                exact hJ3 _ _ ⟨rfl, lst_app h2, lst_app hp, hs.app⟩
              · simp [hr]
                exact hJ3 _ _ ⟨rfl, lst_app h2, lst_app hp, hs.app⟩
            · rintro acc S8 ⟨rfl, h2, hp, hs⟩
              have heq : eqO (S8 ++ [.lst [], .lst []]) (.loc S8.length) (.loc (S8.length + 1)) = some (decide (([] : List (Int × Int)) = [])) := eq_pts (ps := []) (qs := []) (lst_ap0 (S := S8) (ds := []) (G := [.lst []])) (lst_ap1 (S := S8) (ds := []) (G := []))
              simp [heq]
              exact hJ2 _ _ ⟨⟨_, _, _, _, _, _, rfl⟩, lst_app h2, lst_app hp, hs.app⟩
          · rintro env S7 ⟨⟨x4, x5, x8, x10, x11, x12, rfl⟩, h2, hp, hs⟩
            simp
            exact hJ1 _ _ ⟨⟨_, _, _, _, _, _, _, _, _, rfl⟩, h2, hp, hs⟩
      · rintro env S4 ⟨⟨x4, x5, x6, x7, x8, x9, x10, x11, x12, rfl⟩, h2, hp, hs⟩
        simp [it_loc hp]
        refine for_live (xs := ps.map pD) (I := fun _ env S => (∃ x10 x12, env = [some (.fz (ns.map D.int)), some (.int cell), some (.loc S1.length), some (.loc p), x4, x5, x6, x7, x8, x9, x10, x11, x12]) ∧ S = S4) ⟨⟨_, _, rfl⟩, rfl⟩ (fun i env S h => by rw [h.2]; exact hp) ?_ ?_
        · rintro j env S6 hj ⟨⟨x10, x12, rfl⟩, rfl⟩ J2 hJ2
          rw [List.getElem_map]
          have hmem := hok _ (List.getElem_mem (show j < ps.length by simpa using hj))
          generalize ps[j]'(by simpa using hj) = s at *
          simp [it_loc hp]
          refine for_live (xs := ps.map pD) (I := fun _ env S => (∃ x12, env = [some (.fz (ns.map D.int)), some (.int cell), some (.loc S1.length), some (.loc p), x4, x5, x6, x7, x8, x9, some (pD s), x11, x12]) ∧ S = S6) ⟨⟨_, rfl⟩, rfl⟩ (fun i env S h => by rw [h.2]; exact hp) ?_ ?_
          · rintro j2 env S7 hj2 ⟨⟨x12, rfl⟩, rfl⟩ J3 hJ3
            rw [List.getElem_map]
            have hmem2 := hok _ (List.getElem_mem (show j2 < ps.length by simpa using hj2))
            generalize ps[j2]'(by simpa using hj2) = r at *
            have d1 : ∀ S : Sto, runT T 20 "distance" [pD s, pD r] S = _ := fun S => distance_ok (k := 14) pub hmem hmem2
            have d2 : ∀ S : Sto, runT T 20 "distance" [pD r, pD s] S = _ := fun S => distance_ok (k := 14) pub hmem2 hmem
            have d3 : ∀ S : Sto, runT T 20 "distance" [pD (s.2, s.1), pD (r.2, r.1)] S = _ := fun S => distance_ok (k := 14) pub ⟨hmem.2.2.1, hmem.2.2.2, hmem.1, hmem.2.1⟩ ⟨hmem2.2.2.1, hmem2.2.2.2, hmem2.1, hmem2.2.1⟩
            have r1 : ∀ (a : Int × Int) (S : Sto), revD (pD a) S = some (pD (a.2, a.1), S) := fun a S => by simp [pD]
            have f3 : farP (s.2, s.1) (r.2, r.1) = farP s r := by simp only [farP]; omega
            have f4 := farP_zero s r
            simp [arr, pick, d1, d2, d3, r1, farP_comm r s, f3, eq_pt, f4]
            exact hJ3 _ _ ⟨⟨_, rfl⟩, rfl⟩
          · rintro env S7 ⟨⟨x12, rfl⟩, rfl⟩
            simp
            exact hJ2 _ _ ⟨⟨_, _, rfl⟩, rfl⟩
        · rintro env S6 ⟨⟨x10, x12, rfl⟩, rfl⟩
          simp
          exact hJ _ _ ⟨⟨_, _, _, _, _, _, _, _, _, _, _, _, rfl⟩, h2⟩
  · rintro env S1 ⟨⟨x1, x2, x3, x4, x5, x6, x7, x8, x9, x10, x11, x12, rfl⟩, h2⟩
    simp
    exact hQ _ _ rfl
end
end Lw

open PySem PySem.W PySem.Calls PyProof.Rows in
theorem PySem.Challenge.cw_planesplits_k06_whole_gaps_and_distances_holds : PySem.Challenge.rw_planesplits_k06_whole_gaps_and_distances.Holds := by
  w_on; o_law
  refine HandSHeadRun.head_any (r := OpenLaw.row PySem.Challenge.rw_planesplits_k06_whole_gaps_and_distances) (q := view (OpenLaw.row PySem.Challenge.rw_planesplits_k06_whole_gaps_and_distances).prog [31]) (H := PV.hookP 4 Lw.gt Lw.T) (ob := PV.obP 4 Lw.gt Lw.T) (M := 6000) (loose := Lw.loose) (d := HandSHeadRun.topDef (OpenLaw.row PySem.Challenge.rw_planesplits_k06_whole_gaps_and_distances).prog 31) (kwd := []) (PV.obP_eq 4 Lw.gt Lw.T)
    (by kernel_rfl) (fun s => by kernel_rfl) Lw.run (by kernel_rfl) (by kernel_rfl) (by kernel_rfl) (by rfl) (by first | assumption | decide +kernel) (by decide +kernel) ⟨rfl, rfl, rfl, rfl, rfl, by decide +kernel⟩ ?hw ?hc
  case hw => w_witness2
  case hc =>
    refine PV.walk_t (l := PySem.Challenge.rw_planesplits_k06_whole_gaps_and_distances) (n := 63) (k := Lw.lv) (e := Lw.e_law) (T := Lw.T) (kE := Lw.kE) (kS := Lw.kS) (gl := PV.glOf Lw.gt) (x := "_law_script") rfl (by decide) (by kernel_rfl) ⟨rfl, by decide, by decide⟩ (by kernel_rfl) rfl ?F Lw.main
    intro w mg h Y G
    obtain ⟨K, KX, c⟩ := Y
    obtain ⟨h1, h2⟩ := PV.says_ok (mw := ⟨mg, w⟩) KX G c Lw.hS Lw.hTab
    exact ⟨K, KX, h1, h2, fun fd f F => Lw.bindL K fd f F⟩
