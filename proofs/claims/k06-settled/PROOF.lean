import PyProof.Rows.All
import Wide.All
import OpenK.AllK
import Wide.FinOn
import HandS.ForMost
import HandS.Flow
import HandS.IsInst
import HandS.Exc
import HandS.TupAny
import HandS.Wide
import HandS.Star
import HandS.Deep
import HandS.SortInts
import HandS.TupLen
import HandS.TryOnly
import HandS.Zip
import HandS.Style
import KE.GoesMore
import KE.GoesEnum
import KE.SortData
import HandS.SortKw
import HandS.DictComp
import KE.KDictPairs
import KE.KDictKeyed
import KE.KDictZip
import HandS.Conv
import KE.DataMinMax
import HandS.MakeKwOnly
import HandS.CallLocal
import HandS.TupMul
import HandS.RaiseMore
import PyProof.Rows.NestShow
import PyProof.ReprBulk
import PyProof.Rows.ReprShort
import PySem.Challenge.RW_eachaddsless_k06_whole_posts_moved_till

set_option Elab.async false
set_option linter.all false
set_option maxRecDepth 100000
set_option maxHeartbeats 4000000
/-! DL0: plain data D, the store of shared lists, how data lie in HandS's abstract heap, what an evaluation leaves. -/
namespace DL
open PySem PySem.Spec PyProof.Rows L2

/-- plain data; ob i: the i-th shared object; fn a: the def at a; scr: the script, which never changes -/
inductive D where
  | non | bl (b : Bool) | int (i : Int) | str (s : Str)
  | lst (xs : List D) | tup (xs : List D) | dct (kvs : List (D × D)) | ob (i : Nat) | fn (a : Addr) | scr (ns : List Int)
  deriving Inhabited

/-- a shared object: a list that is changed in place -/
inductive SO where
  | ml (xs : List D)
abbrev Store := List SO

inductive Out (α : Type) where
  | ok (a : α) (S : Store)
  | err (c : Str) (v : D) (S : Store)
  | stk
def M (α : Type) := Store → Out α
namespace M
variable {α β γ : Type}
def ret (a : α) : M α := fun S => .ok a S
def stuck : M α := fun _ => .stk
def raise (c : Str) (v : D) : M α := fun S => .err c v S
def bind (m : M α) (k : α → M β) : M β := fun S => match m S with
  | .ok a S1 => k a S1
  | .err c v S1 => .err c v S1
  | .stk => .stk
def opt : Option α → M α
  | some a => ret a
  | none => stuck
theorem ret_bind (a : α) (k : α → M β) : bind (ret a) k = k a := rfl
theorem stuck_bind (k : α → M β) : bind stuck k = stuck := rfl
theorem bind_ret (m : M α) : bind m ret = m := by
  funext S
  unfold bind
  cases m S <;> rfl
theorem bind_assoc (m : M α) (k : α → M β) (l : β → M γ) : bind (bind m k) l = bind m fun a => bind (k a) l := by
  funext S
  unfold bind
  cases m S <;> rfl
theorem opt_some (a : α) : opt (some a) = ret a := rfl
end M

/-- what is known beside the program's state: the frozen addresses, the addresses of the shared objects -/
structure Gh where
  Z : Addr → Prop
  ρ : List Addr
/-- what stands fixed: the written part, the own exception classes -/
structure Nv where
  K : PySem.W.Frag
  cs : Str → Option Addr

/-! ### data in the heap -/
def kD : Key → D
  | .inl i => .int i
  | .inr s => .str s
/-- a dict at a: its keys, its values -/
def DcAt (H : Hp) (a : Addr) (ks : List D) (vs : List V) : Prop :=
  (∃ kvs : List (Key × V), H a = some (.dK kvs) ∧ ks = kvs.map (fun p => kD p.1) ∧ vs = kvs.map (·.2)) ∨
  (∃ kvs : List (List Key × V), H a = some (.dT kvs) ∧ ks = kvs.map (fun p => .tup (p.1.map kD)) ∧ vs = kvs.map (·.2))

/-- the script at a -/
def ScrAt (K : PySem.W.Frag) (H : Hp) (a : Addr) (vs : List V) : Prop := (∃ o, H a = some (.frz o (.lst vs))) ∨ ∀ H', SqL K H' a vs
theorem ScrAt.sq {K : PySem.W.Frag} {H : Hp} {a : Addr} {vs : List V} (h : ScrAt K H a vs) : SqL K H a vs := h.elim (fun h => .inl (.inr h)) fun h => h H
mutual
inductive Rp (K : PySem.W.Frag) (g : Gh) (H : Hp) : V → D → Prop
  | non : Rp K g H .non .non
  | bl (b : Bool) : Rp K g H (.bl b) (.bl b)
  | int (i : Int) : Rp K g H (.int i) (.int i)
  | str (s : Str) : Rp K g H (.str s) (.str s)
  | lst {a : Addr} {xs : List V} {ds : List D} : g.Z a → H a = some (.lst xs) → xs.length ≤ sizeLine → RpAll K g H xs ds → Rp K g H (.ref a) (.lst ds)
  | tup {a : Addr} {xs : List V} {ds : List D} : H a = some (.tup xs) → xs.length ≤ sizeLine → RpAll K g H xs ds → Rp K g H (.ref a) (.tup ds)
  | dct {a : Addr} {ks : List D} {vs : List V} {kds : List (D × D)} : g.Z a → DcAt H a ks vs → vs.length ≤ sizeLine → kds.map Prod.fst = ks → RpAll K g H vs (kds.map Prod.snd) → Rp K g H (.ref a) (.dct kds)
  | ob {i : Nat} {a : Addr} : g.ρ[i]? = some a → Rp K g H (.ref a) (.ob i)
  | fn (a : Addr) : Rp K g H (.ref a) (.fn a)
  | scr {a : Addr} {ns : List Int} : ScrAt K H a (ns.map V.int) → ns.length ≤ sizeLine → Rp K g H (.ref a) (.scr ns)
inductive RpAll (K : PySem.W.Frag) (g : Gh) (H : Hp) : List V → List D → Prop
  | nil : RpAll K g H [] []
  | cons {v : V} {vs : List V} {d : D} {ds : List D} : Rp K g H v d → RpAll K g H vs ds → RpAll K g H (v :: vs) (d :: ds)
end

/-- all that is known to stay -/
structure Kp (g : Gh) (H : Hp) (g' : Gh) (H' : Hp) : Prop where
  z : ∀ a, g.Z a → g'.Z a
  r : ∃ m, g'.ρ = g.ρ ++ m
  zf : ∀ a, g'.Z a → g.Z a ∨ H a = none
  rf : ∀ a ∈ g'.ρ, a ∈ g.ρ ∨ H a = none
  kd : ∀ a, H' a = none → H a = none
  kz : ∀ a o, g.Z a → H a = some o → H' a = some o
  kt : ∀ a xs, H a = some (.tup xs) → H' a = some (.tup xs)
  kf : ∀ a o u, H a = some (.frz o u) → H' a = some (.frz o u)
  kr : ∀ a o, H a = some o → a ∉ g.ρ → H' a = some o

theorem Kp.refl (g : Gh) (H : Hp) : Kp g H g H :=
  ⟨fun _ h => h, ⟨[], by simp⟩, fun _ h => .inl h, fun _ h => .inl h, fun _ h => h, fun _ _ _ h => h, fun _ _ h => h, fun _ _ _ h => h, fun _ _ h _ => h⟩
theorem Kp.trans {g g1 g2 : Gh} {H H1 H2 : Hp} (a : Kp g H g1 H1) (b : Kp g1 H1 g2 H2) : Kp g H g2 H2 where
  z := fun x h => b.z x (a.z x h)
  r := by
    obtain ⟨m, e⟩ := a.r
    obtain ⟨n, f⟩ := b.r
    exact ⟨m ++ n, by rw [f, e, List.append_assoc]⟩
  zf := fun x h => (b.zf x h).elim (fun q => a.zf x q) fun q => .inr (a.kd x q)
  rf := fun x h => (b.rf x h).elim (fun q => a.rf x q) fun q => .inr (a.kd x q)
  kd := fun x h => a.kd x (b.kd x h)
  kz := fun x o z h => b.kz x o (a.z x z) (a.kz x o z h)
  kt := fun x xs h => b.kt x xs (a.kt x xs h)
  kf := fun x o u h => b.kf x o u (a.kf x o u h)
  kr := fun x o h n => b.kr x o (a.kr x o h n) fun z => by
    rcases a.rf x z with q | q
    · exact n q
    · rw [h] at q; cases q

/-- what data need -/
structure Kq (g : Gh) (H : Hp) (g' : Gh) (H' : Hp) : Prop where
  z : ∀ a, g.Z a → g'.Z a
  r : ∃ m, g'.ρ = g.ρ ++ m
  kz : ∀ a o, g.Z a → H a = some o → H' a = some o
  kt : ∀ a xs, H a = some (.tup xs) → H' a = some (.tup xs)
  kf : ∀ a o u, H a = some (.frz o u) → H' a = some (.frz o u)
theorem Kp.q {g g' : Gh} {H H' : Hp} (k : Kp g H g' H') : Kq g H g' H' := ⟨k.z, k.r, k.kz, k.kt, k.kf⟩
theorem Kq.rget {g g' : Gh} {H H' : Hp} (k : Kq g H g' H') {i : Nat} {a : Addr} (h : g.ρ[i]? = some a) : g'.ρ[i]? = some a := by
  obtain ⟨m, e⟩ := k.r
  rw [e, List.getElem?_append_left (List.getElem?_eq_some_iff.mp h).1]
  exact h
theorem Kq.dcAt {g g' : Gh} {H H' : Hp} (k : Kq g H g' H') {a : Addr} {ks : List D} {vs : List V} (z : g.Z a) (h : DcAt H a ks vs) : DcAt H' a ks vs := by
  rcases h with ⟨kvs, h, q⟩ | ⟨kvs, h, q⟩
  · exact .inl ⟨kvs, k.kz _ _ z h, q⟩
  · exact .inr ⟨kvs, k.kz _ _ z h, q⟩
mutual
theorem Rp.keepQ {K : PySem.W.Frag} {g g' : Gh} {H H' : Hp} (k : Kq g H g' H') : ∀ {v : V} {d : D}, Rp K g H v d → Rp K g' H' v d
  | _, _, .non => .non
  | _, _, .bl b => .bl b
  | _, _, .int i => .int i
  | _, _, .str s => .str s
  | _, _, .lst z s l r => .lst (k.z _ z) (k.kz _ _ z s) l (RpAll.keepQ k r)
  | _, _, .tup s l r => .tup (k.kt _ _ s) l (RpAll.keepQ k r)
  | _, _, .dct z s l e r => .dct (k.z _ z) (k.dcAt z s) l e (RpAll.keepQ k r)
  | _, _, .ob h => .ob (k.rget h)
  | _, _, .fn a => .fn a
  | _, _, .scr h l => .scr (h.imp (fun ⟨o, e⟩ => ⟨o, k.kf _ _ _ e⟩) id) l
theorem RpAll.keepQ {K : PySem.W.Frag} {g g' : Gh} {H H' : Hp} (k : Kq g H g' H') : ∀ {vs : List V} {ds : List D}, RpAll K g H vs ds → RpAll K g' H' vs ds
  | _, _, .nil => .nil
  | _, _, .cons h t => .cons (Rp.keepQ k h) (RpAll.keepQ k t)
end
theorem Rp.keep {K : PySem.W.Frag} {g g' : Gh} {H H' : Hp} (k : Kp g H g' H') {v : V} {d : D} (h : Rp K g H v d) : Rp K g' H' v d := h.keepQ k.q
theorem RpAll.keep {K : PySem.W.Frag} {g g' : Gh} {H H' : Hp} (k : Kp g H g' H') {vs : List V} {ds : List D} (h : RpAll K g H vs ds) : RpAll K g' H' vs ds := h.keepQ k.q
section
variable {K : PySem.W.Frag} {g g' : Gh} {H H' : Hp}
theorem RpAll.length : ∀ {vs : List V} {ds : List D}, RpAll K g H vs ds → vs.length = ds.length
  | _, _, .nil => rfl
  | _, _, .cons _ t => by simp [RpAll.length t]
theorem RpAll.get : ∀ {vs : List V} {ds : List D} {i : Nat} {d : D}, RpAll K g H vs ds → ds[i]? = some d → ∃ v, vs[i]? = some v ∧ Rp K g H v d
  | _, _, _, _, .nil, e => by simp at e
  | _, _, 0, _, .cons r _, e => by simp at e; subst e; exact ⟨_, rfl, r⟩
  | _, _, i + 1, _, .cons _ t, e => by
    obtain ⟨v, h1, h2⟩ := RpAll.get (i := i) t (by simpa using e)
    exact ⟨v, by simpa using h1, h2⟩
theorem RpAll.get' : ∀ {vs : List V} {ds : List D} {i : Nat} {v : V}, RpAll K g H vs ds → vs[i]? = some v → ∃ d, ds[i]? = some d ∧ Rp K g H v d
  | _, _, _, _, .nil, e => by simp at e
  | _, _, 0, _, .cons r _, e => by simp at e; subst e; exact ⟨_, rfl, r⟩
  | _, _, i + 1, _, .cons _ t, e => by
    obtain ⟨v, h1, h2⟩ := RpAll.get' (i := i) t (by simpa using e)
    exact ⟨v, by simpa using h1, h2⟩
theorem RpAll.append : ∀ {vs ws : List V} {ds es : List D}, RpAll K g H vs ds → RpAll K g H ws es → RpAll K g H (vs ++ ws) (ds ++ es)
  | _, _, _, _, .nil, s => s
  | _, _, _, _, .cons r t, s => .cons r (RpAll.append t s)
theorem RpAll.take : ∀ {vs : List V} {ds : List D} (n : Nat), RpAll K g H vs ds → RpAll K g H (vs.take n) (ds.take n)
  | _, _, 0, _ => .nil
  | _, _, _ + 1, .nil => .nil
  | _, _, n + 1, .cons r t => .cons r (RpAll.take n t)
theorem RpAll.drop : ∀ {vs : List V} {ds : List D} (n : Nat), RpAll K g H vs ds → RpAll K g H (vs.drop n) (ds.drop n)
  | _, _, 0, r => r
  | _, _, _ + 1, .nil => .nil
  | _, _, n + 1, .cons _ t => RpAll.drop n t
theorem RpAll.reverse : ∀ {vs : List V} {ds : List D}, RpAll K g H vs ds → RpAll K g H vs.reverse ds.reverse
  | _, _, .nil => .nil
  | _, _, .cons r t => by
    rw [List.reverse_cons, List.reverse_cons]
    exact RpAll.append (RpAll.reverse t) (.cons r .nil)
theorem RpAll.set {v : V} {d : D} (r : Rp K g H v d) : ∀ {vs : List V} {ds : List D} (n : Nat), RpAll K g H vs ds → RpAll K g H (vs.set n v) (ds.set n d)
  | _, _, _, .nil => .nil
  | _, _, 0, .cons _ t => .cons r t
  | _, _, n + 1, .cons q t => .cons q (RpAll.set r n t)
theorem RpAll.eraseIdx : ∀ {vs : List V} {ds : List D} (n : Nat), RpAll K g H vs ds → RpAll K g H (vs.eraseIdx n) (ds.eraseIdx n)
  | _, _, _, .nil => .nil
  | _, _, 0, .cons _ t => t
  | _, _, n + 1, .cons q t => .cons q (RpAll.eraseIdx n t)

/-! ### the shared objects -/
def SoOk (K : PySem.W.Frag) (g : Gh) (H : Hp) (a : Addr) : SO → Prop
  | .ml xs => ∃ vs, H a = some (.lst vs) ∧ vs.length ≤ sizeLine ∧ RpAll K g H vs xs
structure StOk (K : PySem.W.Frag) (g : Gh) (S : Store) (H : Hp) : Prop where
  len : S.length = g.ρ.length
  nd : g.ρ.Nodup
  nz : ∀ a ∈ g.ρ, ¬ g.Z a
  zt : ∀ a, g.Z a → ∃ o, H a = some o
  at_ : ∀ (i : Nat) (a : Addr) (o : SO), g.ρ[i]? = some a → S[i]? = some o → SoOk K g H a o

/-! ### what an evaluation leaves behind that writes nothing that stood -/
/-- new objects alone; Z' grows by new ones -/
structure Ex (g : Gh) (H : Hp) (g' : Gh) (H' : Hp) : Prop where
  s : Same H H'
  z : ∀ a, g.Z a → g'.Z a
  zf : ∀ a, g'.Z a → g.Z a ∨ (H a = none ∧ ∃ o, H' a = some o)
  r : g'.ρ = g.ρ
theorem Ex.refl (g : Gh) (H : Hp) : Ex g H g H := ⟨.refl H, fun _ h => h, fun _ h => .inl h, rfl⟩
theorem Ex.kp (e : Ex g H g' H') : Kp g H g' H' :=
  ⟨e.z, ⟨[], by rw [e.r]; simp⟩, fun a h => (e.zf a h).imp id (·.1), fun a h => .inl (e.r ▸ h), fun a h => e.s.free h, fun a o _ h => e.s a o h, fun a xs h => e.s a _ h, fun a o u h => e.s a _ h, fun a o h _ => e.s a o h⟩
theorem Ex.trans {g1 g2 : Gh} {H1 H2 : Hp} (a : Ex g H g1 H1) (b : Ex g1 H1 g2 H2) : Ex g H g2 H2 :=
  ⟨a.s.trans b.s, fun x h => b.z x (a.z x h), fun x h => (b.zf x h).elim (fun q => (a.zf x q).imp id fun ⟨q, o, e⟩ => ⟨q, o, b.s x o e⟩) fun ⟨q, e⟩ => .inr ⟨a.s.free q, e⟩, b.r.trans a.r⟩
theorem SoOk.keep (k : Kq g H g' H') {a : Addr} (s : H' a = H a) : ∀ {o : SO}, SoOk K g H a o → SoOk K g' H' a o
  | .ml xs, ⟨vs, h, l, r⟩ => ⟨vs, s.trans h, l, r.keepQ k⟩
theorem SoOk.some {a : Addr} : ∀ {o : SO}, SoOk K g H a o → ∃ x, H a = some x
  | .ml _, ⟨_, h, _⟩ => ⟨_, h⟩
theorem StOk.there {S : Store} (st : StOk K g S H) {a : Addr} (h : a ∈ g.ρ) : ∃ x, H a = some x := by
  obtain ⟨i, hi, e⟩ := List.getElem_of_mem h
  have hi' : i < S.length := by rw [st.len]; exact hi
  exact (st.at_ i a S[i] (by rw [List.getElem?_eq_getElem hi, e]) (List.getElem?_eq_getElem hi')).some
theorem StOk.ex {S : Store} (st : StOk K g S H) (e : Ex g H g' H') : StOk K g' S H' where
  len := by rw [e.r]; exact st.len
  nd := by rw [e.r]; exact st.nd
  nz := fun a h z => by
    rw [e.r] at h
    rcases e.zf a z with q | ⟨q, _⟩
    · exact st.nz a h q
    · obtain ⟨x, hx⟩ := st.there h
      rw [hx] at q; cases q
  zt := fun a z => (e.zf a z).elim (fun q => let ⟨o, h⟩ := st.zt a q; ⟨o, e.s a o h⟩) fun q => q.2
  at_ := fun i a o h1 h2 => by
    rw [e.r] at h1
    have q := st.at_ i a o h1 h2
    obtain ⟨x, hx⟩ := q.some
    exact q.keep e.kp.q (by rw [e.s a x hx, hx])
/-- a new object, frozen or not -/
theorem Ex.new {p : Addr} {o : HO} (hp : H p = none) : Ex g H g (upd H p o) := ⟨fun b x e => by
  rw [upd_ne (ne_of_none e hp)]
  exact e, fun _ h => h, fun _ h => .inl h, rfl⟩
def Gh.fz (g : Gh) (p : Addr) : Gh := ⟨fun a => a = p ∨ g.Z a, g.ρ⟩
theorem Ex.newZ {p : Addr} {o : HO} (hp : H p = none) : Ex g H (g.fz p) (upd H p o) := ⟨fun b x e => by
  rw [upd_ne (ne_of_none e hp)]
  exact e, fun _ h => .inr h, fun a h => h.elim (fun e => .inr ⟨e ▸ hp, o, by rw [e]; exact upd_same⟩) .inl, rfl⟩
end

/-! ### modes: fz the data is frozen; bo: the outermost list may be one that is changed later; fr: a new list that nothing else knows -/
inductive Md where
  | fz | bo | fr
def RpB (K : PySem.W.Frag) (g : Gh) (H : Hp) (v : V) (d : D) : Prop :=
  Rp K g H v d ∨ (∃ a vs ds, v = .ref a ∧ d = .lst ds ∧ H a = some (.lst vs) ∧ a ∉ g.ρ ∧ vs.length ≤ sizeLine ∧ RpAll K g H vs ds)
def RpM (K : PySem.W.Frag) (H₀ : Hp) : Md → Gh → Hp → V → D → Prop
  | .fz => Rp K
  | .bo => RpB K
  | .fr => fun g H v d => ∃ a vs ds, v = .ref a ∧ d = .lst ds ∧ H₀ a = none ∧ H a = some (.lst vs) ∧ ¬ g.Z a ∧ a ∉ g.ρ ∧ vs.length ≤ sizeLine ∧ RpAll K g H vs ds
section
variable {K : PySem.W.Frag} {g g' : Gh} {H H' : Hp} {v : V} {d : D}
theorem RpB.keep (k : Kp g H g' H') (h : RpB K g H v d) : RpB K g' H' v d := by
  rcases h with h | ⟨a, vs, ds, e1, e2, h1, h2, h3, h4⟩
  · exact .inl (h.keep k)
  · refine .inr ⟨a, vs, ds, e1, e2, k.kr _ _ h1 h2, fun z => ?_, h3, h4.keep k⟩
    rcases k.rf a z with q | q
    · exact h2 q
    · rw [h1] at q; cases q
theorem RpM.bo {H₀ : Hp} : ∀ {m : Md}, RpM K H₀ m g H v d → RpB K g H v d
  | .fz, h => .inl h
  | .bo, h => h
  | .fr, ⟨a, vs, ds, e1, e2, _, h1, _, h2, h3, h4⟩ => .inr ⟨a, vs, ds, e1, e2, h1, h2, h3, h4⟩
/-- a list, by its items -/
theorem RpB.seqL {ds : List D} (h : RpB K g H v (.lst ds)) : ∃ a vs, v = .ref a ∧ H a = some (.lst vs) ∧ vs.length ≤ sizeLine ∧ RpAll K g H vs ds := by
  rcases h with h | ⟨a, vs, ds', e1, e2, h1, _, h3, h4⟩
  · cases h with
    | lst z s l r => exact ⟨_, _, rfl, s, l, r⟩
  · cases e2
    exact ⟨a, vs, e1, h1, h3, h4⟩
theorem RpB.seqT {ds : List D} (h : RpB K g H v (.tup ds)) : ∃ a vs, v = .ref a ∧ H a = some (.tup vs) ∧ vs.length ≤ sizeLine ∧ RpAll K g H vs ds := by
  rcases h with h | ⟨_, _, _, _, e2, _⟩
  · cases h with
    | tup s l r => exact ⟨_, _, rfl, s, l, r⟩
  · cases e2
theorem RpB.int {i : Int} (h : RpB K g H v (.int i)) : v = .int i := by
  rcases h with h | ⟨_, _, _, _, e2, _⟩
  · cases h; rfl
  · cases e2
theorem RpB.str {i : Str} (h : RpB K g H v (.str i)) : v = .str i := by
  rcases h with h | ⟨_, _, _, _, e2, _⟩
  · cases h; rfl
  · cases e2
theorem RpB.bl {i : Bool} (h : RpB K g H v (.bl i)) : v = .bl i := by
  rcases h with h | ⟨_, _, _, _, e2, _⟩
  · cases h; rfl
  · cases e2
theorem RpB.non (h : RpB K g H v .non) : v = .non := by
  rcases h with h | ⟨_, _, _, _, e2, _⟩
  · cases h; rfl
  · cases e2
end

/-! ### exceptions: their class, their value -/
def ExAt (N : Nv) (g : Gh) (H : Hp) (c : Str) (v : D) (cls : Value) (d : Option Addr) : Prop :=
  ∃ C dx x, cls = .ref C ∧ N.cs c = some C ∧ d = some dx ∧ H dx = some (.xd [("value", x)]) ∧ Rp N.K g H x v

/-- what is wanted of an evaluation's end -/
def Res (N : Nv) (W : XK) (g : Gh) (H : Hp) {α : Type} (R : Gh → Hp → α → Prop) : Out α → Prop
  | .ok a S' => ∀ g' H', Kp g H g' H' → StOk N.K g' S' H' → R g' H' a
  | .err c x S' => ∀ g' H' cls d, Kp g H g' H' → StOk N.K g' S' H' → ExAt N g' H' c x cls d → W cls d H'
  | .stk => False
theorem Res.mono {N : Nv} {W : XK} {g g1 : Gh} {H H1 : Hp} {α : Type} {R R' : Gh → Hp → α → Prop} (k : Kp g H g1 H1) (hR : ∀ g' H' a, Kp g1 H1 g' H' → R g' H' a → R' g' H' a) : ∀ {o : Out α}, Res N W g H R o → Res N W g1 H1 R' o
  | .ok a S', h => fun g' H' k' st => hR g' H' a k' (h g' H' (k.trans k') st)
  | .err c x S', h => fun g' H' cls d k' st e => h g' H' cls d (k.trans k') st e
  | .stk, h => h
theorem Res.later {N : Nv} {W : XK} {g g1 : Gh} {H H1 : Hp} {α : Type} {R : Gh → Hp → α → Prop} (k : Kp g H g1 H1) {o : Out α} (h : Res N W g H R o) : Res N W g1 H1 R o := h.mono k fun _ _ _ _ q => q
/-- the first part of a sequence -/
theorem Res.first {N : Nv} {W : XK} {g : Gh} {H : Hp} {α β : Type} {R : Gh → Hp → β → Prop} {m : M α} {k : α → M β} {S : Store} (h : Res N W g H R (M.bind m k S)) :
    Res N W g H (fun g' H' a => ∃ S', m S = .ok a S' ∧ Res N W g H R (k a S')) (m S) := by
  unfold M.bind at h
  cases e : m S with
  | ok a S' => rw [e] at h; exact fun g' H' _ _ => ⟨S', rfl, h⟩
  | err c x S' => rw [e] at h; exact h
  | stk => rw [e] at h; exact h

/-! ### the slots of a frame -/
/-- plain data; a list that this frame alone knows and may change -/
inductive Slot where
  | d (d : D)
  | own (xs : List D)
abbrev Δ := List (Option Slot)
/-- the entry of the def, and places behind it from which data must stay -/
structure G0 where
  g : Gh
  C : List (Gh × Hp)
def SlRp (K : PySem.W.Frag) (g0 : G0) (H0 : Hp) (g : Gh) (H : Hp) (v : V) : Slot → Prop
  | .d d => Rp K g H v d
  | .own ds => ∃ a vs, v = .ref a ∧ H0 a = none ∧ H a = some (.lst vs) ∧ ¬ g.Z a ∧ a ∉ g.ρ ∧ vs.length ≤ sizeLine ∧ RpAll K g H vs ds
structure Good (N : Nv) (g0 : G0) (H0 : Hp) (g : Gh) (S : Store) (δ : Δ) (σ : L2.St) (H : Hp) : Prop where
  sl : ∀ (i : Nat) (s : Slot), δ[i]? = some (some s) → ∃ v, σ[i]? = some (some v) ∧ SlRp N.K g0 H0 g H v s
  len : δ.length = σ.length
  dis : ∀ (i j : Nat) (xs ys : List D) (v : V), δ[i]? = some (some (.own xs)) → δ[j]? = some (some (.own ys)) → σ[i]? = some (some v) → σ[j]? = some (some v) → i = j
  st : StOk N.K g S H
  kp : Kp g0.g H0 g H
  ck : ∀ p ∈ g0.C, Kq p.1 p.2 g H
theorem SlRp.keep {K : PySem.W.Frag} {g0 : G0} {g g' : Gh} {H0 H H' : Hp} {v : V} (k : Kp g H g' H') : ∀ {s : Slot}, SlRp K g0 H0 g H v s → SlRp K g0 H0 g' H' v s
  | .d _, h => Rp.keep k h
  | .own ds, ⟨a, vs, e, h0, h1, h2, h3, h4, h5⟩ => by
    refine ⟨a, vs, e, h0, k.kr _ _ h1 h3, fun z => ?_, fun z => ?_, h4, h5.keep k⟩
    · rcases k.zf a z with q | q
      · exact h2 q
      · rw [h1] at q; cases q
    · rcases k.rf a z with q | q
      · exact h3 q
      · rw [h1] at q; cases q
/-- behind an expression -/
theorem Kq.trans {g g1 g2 : Gh} {H H1 H2 : Hp} (a : Kq g H g1 H1) (b : Kq g1 H1 g2 H2) : Kq g H g2 H2 where
  z := fun x h => b.z x (a.z x h)
  r := by
    obtain ⟨m, e⟩ := a.r
    obtain ⟨n, f⟩ := b.r
    exact ⟨m ++ n, by rw [f, e, List.append_assoc]⟩
  kz := fun x o z h => b.kz x o (a.z x z) (a.kz x o z h)
  kt := fun x xs h => b.kt x xs (a.kt x xs h)
  kf := fun x o u h => b.kf x o u (a.kf x o u h)
theorem Good.later {N : Nv} {g0 : G0} {g g' : Gh} {H0 H H' : Hp} {S S' : Store} {δ : Δ} {σ : L2.St} (G : Good N g0 H0 g S δ σ H) (k : Kp g H g' H') (st : StOk N.K g' S' H') : Good N g0 H0 g' S' δ σ H' :=
  ⟨fun i s h => let ⟨v, e, r⟩ := G.sl i s h; ⟨v, e, r.keep k⟩, G.len, G.dis, st, G.kp.trans k, fun p hp => (G.ck p hp).trans k.q⟩

/-! ### the readings of data -/
def tE (N : Nv) (W : XK) (md : Md) (f : Δ → M D) : TE := fun σ H Q => ∃ g0 H0 g S δ, Good N g0 H0 g S δ σ H ∧ Res N W g H (fun g' H' d => ∀ v, RpM N.K H md g' H' v d → Q v H') (f δ S)
def tT (N : Nv) (W : XK) (f : Δ → M Bool) : TT := fun σ H Q => ∃ g0 H0 g S δ, Good N g0 H0 g S δ σ H ∧ Res N W g H (fun g' H' b => Q b H') (f δ S)
def tA (N : Nv) (W : XK) (f : Δ → M (List D)) : TA := fun σ H Q => ∃ g0 H0 g S δ, Good N g0 H0 g S δ σ H ∧ Res N W g H (fun g' H' ds => ∀ vs, RpAll N.K g' H' vs ds → Q vs H') (f δ S)

def DE (N : Nv) (W : XK) (X : Cx) (md : Md) (e : Expr) (f : Δ → M D) : Prop := PE X e (tE N W md f)
def DT (N : Nv) (W : XK) (X : Cx) (e : Expr) (f : Δ → M Bool) : Prop := PT X e (tT N W f)
def DA (N : Nv) (W : XK) (X : Cx) (es : List Expr) (f : Δ → M (List D)) : Prop := PA X es (tA N W f)

section
variable {X : Cx} {e : Expr} {t t' : TE}
theorem _root_.L2.PE.imp (h : PE X e t) (w : ∀ σ H Q, t' σ H Q → t σ H Q) : PE X e t' := ⟨fun pins s σ H Q I q => h.run pins s σ H Q I (w σ H Q q)⟩
theorem _root_.L2.PT.imp {t t' : TT} (h : PT X e t) (w : ∀ σ H Q, t' σ H Q → t σ H Q) : PT X e t' := ⟨fun pins s σ H Q I q => h.run pins s σ H Q I (w σ H Q q)⟩
theorem _root_.L2.PA.imp {es : List Expr} {t t' : TA} (h : PA X es t) (w : ∀ σ H Q, t' σ H Q → t σ H Q) : PA X es t' := ⟨fun pos pins s σ H Q I q => h.run pos pins s σ H Q I (w σ H Q q)⟩
theorem _root_.L2.PS.imp {st : Stmt} {t t' : TS} (h : PS X st t) (w : ∀ D σ H, t' D σ H → t D σ H) : PS X st t' := ⟨fun pins s σ H D I q => h.run pins s σ H D I (w D σ H q)⟩
theorem _root_.L2.PSs.imp {st : List Stmt} {t t' : TS} (h : PSs X st t) (w : ∀ D σ H, t' D σ H → t D σ H) : PSs X st t' := ⟨fun pins s σ H D I q => h.run pins s σ H D I (w D σ H q)⟩
theorem _root_.L2.PE.or (h : PE X e t) (h' : PE X e t') : PE X e (fun σ H Q => t σ H Q ∨ t' σ H Q) := ⟨fun pins s σ H Q I q => q.elim (h.run pins s σ H Q I) (h'.run pins s σ H Q I)⟩
theorem _root_.L2.PI.or {tg : Expr} {t t' : TI} (h : PI X tg e t) (h' : PI X tg e t') : PI X tg e (fun σ H Q => t σ H Q ∨ t' σ H Q) := ⟨fun pins s σ H Q I q => q.elim (h.run pins s σ H Q I) (h'.run pins s σ H Q I)⟩
end
section
variable {N : Nv} {W : XK} {X : Cx} {md : Md} {e : Expr} {f : Δ → M D} {g0 : G0} {g : Gh} {H0 H : Hp} {S : Store} {δ : Δ} {σ : L2.St} {Q : VK}
/-- the first operand of a sequence -/
theorem tE.seq {β : Type} {m : Δ → M D} {k : D → M β} {R : Gh → Hp → β → Prop} {Q : VK} (G : Good N g0 H0 g S δ σ H) (r : Res N W g H R (M.bind (m δ) k S))
    (hk : ∀ x S1 v H1 g1, Kp g H g1 H1 → Good N g0 H0 g1 S1 δ σ H1 → RpM N.K H md g1 H1 v x → Res N W g1 H1 R (k x S1) → Q v H1) : tE N W md m σ H Q := by
  refine ⟨g0, H0, g, S, δ, G, ?_⟩
  have h := r.first
  cases e : m δ S with
  | ok a S1 =>
    rw [e] at h
    intro g' H' k' st v rv
    obtain ⟨S', e', q⟩ := h g' H' k' st
    cases e'
    exact hk a S1 v H' g' k' (G.later k' st) rv (q.later k')
  | err c x S1 => rw [e] at h; exact h
  | stk => rw [e] at h; exact h
theorem tA.seq {β : Type} {m : Δ → M (List D)} {k : List D → M β} {R : Gh → Hp → β → Prop} {Q : List V → Hp → Prop} (G : Good N g0 H0 g S δ σ H) (r : Res N W g H R (M.bind (m δ) k S))
    (hk : ∀ xs S1 vs H1 g1, Kp g H g1 H1 → Good N g0 H0 g1 S1 δ σ H1 → RpAll N.K g1 H1 vs xs → Res N W g1 H1 R (k xs S1) → Q vs H1) : tA N W m σ H Q := by
  refine ⟨g0, H0, g, S, δ, G, ?_⟩
  have h := r.first
  cases e : m δ S with
  | ok a S1 =>
    rw [e] at h
    intro g' H' k' st v rv
    obtain ⟨S', e', q⟩ := h g' H' k' st
    cases e'
    exact hk a S1 v H' g' k' (G.later k' st) rv (q.later k')
  | err c x S1 => rw [e] at h; exact h
  | stk => rw [e] at h; exact h
theorem tT.seq {β : Type} {m : Δ → M Bool} {k : Bool → M β} {R : Gh → Hp → β → Prop} {Q : Bool → Hp → Prop} (G : Good N g0 H0 g S δ σ H) (r : Res N W g H R (M.bind (m δ) k S))
    (hk : ∀ x S1 H1 g1, Kp g H g1 H1 → Good N g0 H0 g1 S1 δ σ H1 → Res N W g1 H1 R (k x S1) → Q x H1) : tT N W m σ H Q := by
  refine ⟨g0, H0, g, S, δ, G, ?_⟩
  have h := r.first
  cases e : m δ S with
  | ok a S1 =>
    rw [e] at h
    intro g' H' k' st
    obtain ⟨S', e', q⟩ := h g' H' k' st
    cases e'
    exact hk a S1 H' g' k' (G.later k' st) (q.later k')
  | err c x S1 => rw [e] at h; exact h
  | stk => rw [e] at h; exact h
/-- what a pure end asks -/
theorem Res.ret {α : Type} {R : Gh → Hp → α → Prop} {a : α} (st : StOk N.K g S H) (h : Res N W g H R (M.ret a S)) {g' : Gh} {H' : Hp} (e : Ex g H g' H') : R g' H' a := h g' H' e.kp (st.ex e)

/-! ### between the modes -/
theorem DE.bo (h : DE N W X md e f) : DE N W X .bo e f := PE.imp h fun σ H Q ⟨g0, H0, g, S, δ, G, r⟩ => ⟨g0, H0, g, S, δ, G, r.mono (.refl _ _) fun g' H' d _ q v rv => q v rv.bo⟩
theorem DE.fz (h : DE N W X .fr e f) : DE N W X .fz e f := PE.imp h fun σ H Q ⟨g0, H0, g, S, δ, G, r⟩ => by
  refine ⟨g0, H0, g, S, δ, G, ?_⟩
  cases o : f δ S with
  | stk => rw [o] at r; exact r
  | err c x S1 => rw [o] at r; exact r
  | ok d S1 =>
    rw [o] at r
    intro g' H' k st v ⟨a, vs, ds, e1, e2, hn, hs, nz, nr, hl, ra⟩
    have q2 : Kq g' H' (g'.fz a) H' := ⟨fun _ h => .inr h, ⟨[], by simp [Gh.fz]⟩, fun _ _ _ h => h, fun _ _ h => h, fun _ _ _ h => h⟩
    have k2 : Kp g H (g'.fz a) H' := ⟨fun x h => .inr (k.z x h), k.r, fun x h => h.elim (fun e => .inr (e ▸ hn)) (k.zf x), k.rf, k.kd, k.kz, k.kt, k.kf, k.kr⟩
    have st2 : StOk N.K (g'.fz a) S1 H' := ⟨st.len, st.nd, fun x hx h => h.elim (fun e => nr (e ▸ hx)) (st.nz x hx), fun x h => h.elim (fun e => ⟨_, e ▸ hs⟩) (st.zt x), fun i x o h1 h2 => (st.at_ i x o h1 h2).keep q2 rfl⟩
    refine r _ _ k2 st2 v ?_
    subst e1 e2
    exact .lst (.inl rfl) hs hl (ra.keepQ q2)
end
end DL

set_option Elab.async false
set_option linter.all false
set_option maxRecDepth 100000
set_option maxHeartbeats 4000000
/-! DL1: names, constants, displays, operators, comparisons, subscripts, calls of built-ins by data. -/
namespace DL
open PySem PySem.Spec PyProof.Rows L2

/-! ### words of data -/
def gv (i : Nat) (δ : Δ) : M D := match δ[i]? with
  | some (some (.d d)) => M.ret d
  | _ => M.stuck
def gb (i : Nat) (δ : Δ) : M D := match δ[i]? with
  | some (some (.d d)) => M.ret d
  | some (some (.own ds)) => M.ret (.lst ds)
  | _ => M.stuck
def D.items : D → Option (List D)
  | .lst xs => some xs
  | .tup xs => some xs
  | _ => none
def mkTup (ds : List D) : M D := if ds.length ≤ sizeLine then M.ret (.tup ds) else M.stuck
def mkLst (ds : List D) : M D := if ds.length ≤ sizeLine then M.ret (.lst ds) else M.stuck

section
variable {N : Nv} {W : XK} {X : Cx} {md : Md} {e a b : Expr} {es : List Expr} {f fa fb : Δ → M D} {g0 : G0} {g : Gh} {H0 H : Hp} {S : Store} {δ : Δ} {σ : L2.St} {Q : VK} {pos : Pos}

/-- an end that makes nothing new -/
theorem Res.now {α : Type} {R : Gh → Hp → α → Prop} {a : α} (st : StOk N.K g S H) (h : Res N W g H R (M.ret a S)) : R g H a := h.ret st (Ex.refl g H)
theorem Res.tup {xs : List V} {ds : List D} (st : StOk N.K g S H) (ra : RpAll N.K g H xs ds) (hl : xs.length ≤ sizeLine) (h : Res N W g H (fun g' H' d => ∀ v, RpM N.K H .fz g' H' v d → Q v H') (M.ret (.tup ds) S)) :
    ∀ p, H p = none → Q (.ref p) (upd H p (.tup xs)) := fun p hp => h.ret st (Ex.new hp) _ (.tup upd_same hl (ra.keep (Ex.new hp).kp))
theorem Res.lst {xs : List V} {ds : List D} (st : StOk N.K g S H) (ra : RpAll N.K g H xs ds) (hl : xs.length ≤ sizeLine) (h : Res N W g H (fun g' H' d => ∀ v, RpM N.K H .fr g' H' v d → Q v H') (M.ret (.lst ds) S)) :
    ∀ p, H p = none → Q (.ref p) (upd H p (.lst xs)) := fun p hp => by
  have nz : ¬ g.Z p := fun z => by
    obtain ⟨o, e⟩ := st.zt p z
    rw [hp] at e; cases e
  have nr : p ∉ g.ρ := fun z => by
    obtain ⟨o, e⟩ := st.there z
    rw [hp] at e; cases e
  exact h.ret st (Ex.new hp) _ ⟨p, xs, ds, rfl, rfl, hp, upd_same, nz, nr, hl, ra.keep (Ex.new hp).kp⟩
theorem Res.ofOpt {α : Type} {R : Gh → Hp → α → Prop} {o : Option α} (h : Res N W g H R (M.opt o S)) : ∃ a, o = some a ∧ Res N W g H R (M.ret a S) := by
  cases o with
  | none => exact h.elim
  | some a => exact ⟨a, rfl, h⟩
theorem Res.ite {α : Type} {R : Gh → Hp → α → Prop} {c : Prop} [Decidable c] {m : M α} (h : Res N W g H R ((if c then m else M.stuck) S)) : c ∧ Res N W g H R (m S) := by
  by_cases hc : c
  · rw [if_pos hc] at h; exact ⟨hc, h⟩
  · rw [if_neg hc] at h; exact h.elim

/-! ### names, constants -/
theorem de_var (i : Nat) (h : PE X e (tVar i)) : DE N W X .fz e (gv i) := h.imp fun σ H Q ⟨g0, H0, g, S, δ, G, r⟩ => by
  unfold gv at r
  cases hd : δ[i]? with
  | none => rw [hd] at r; exact r.elim
  | some o =>
    rw [hd] at r
    cases o with
    | none => exact r.elim
    | some s =>
      cases s with
      | own _ => exact r.elim
      | d d =>
        obtain ⟨v, e1, r1⟩ := G.sl i (.d d) hd
        exact ⟨v, e1, Res.now G.st r v r1⟩
theorem de_varB (i : Nat) (h : PE X e (tVar i)) : DE N W X .bo e (gb i) := h.imp fun σ H Q ⟨g0, H0, g, S, δ, G, r⟩ => by
  unfold gb at r
  cases hd : δ[i]? with
  | none => rw [hd] at r; exact r.elim
  | some o =>
    rw [hd] at r
    cases o with
    | none => exact r.elim
    | some s =>
      cases s with
      | d d =>
        obtain ⟨v, e1, r1⟩ := G.sl i (.d d) hd
        exact ⟨v, e1, Res.now G.st r v (.inl r1)⟩
      | own ds =>
        obtain ⟨v, e1, a, vs, ev, h0, h1, h2, h3, h4, h5⟩ := G.sl i (.own ds) hd
        exact ⟨v, e1, Res.now G.st r v (.inr ⟨a, vs, ds, ev, rfl, h1, h3, h4, h5⟩)⟩
theorem de_con {v : V} {d : D} (h : PE X e (tC v)) (r : ∀ g H, Rp N.K g H v d) : DE N W X .fz e (fun _ => M.ret d) := h.imp fun σ H Q ⟨g0, H0, g, S, δ, G, q⟩ => q.now G.st v (r g H)
theorem de_int {i j} : DE N W X .fz (.Constant (.int i) j pos) (fun _ => M.ret (.int i)) := de_con pe_int fun _ _ => .int i
theorem de_bl {i j} : DE N W X .fz (.Constant (.bool i) j pos) (fun _ => M.ret (.bl i)) := de_con pe_bl fun _ _ => .bl i
theorem de_str {i j} : DE N W X .fz (.Constant (.str i) j pos) (fun _ => M.ret (.str i)) := de_con pe_str fun _ _ => .str i
theorem de_non {j} : DE N W X .fz (.Constant .none j pos) (fun _ => M.ret .non) := de_con pe_non fun _ _ => .non
theorem de_gint {x : Str} {i : Int} {t : Tok} (hg : Gl X x) (hm : X.mg x = some (.int i t)) (hd : (x == ("__debug__" : Str)) = false := by decide) : DE N W X .fz (.Name x pos) (fun _ => M.ret (.int i)) := de_con (pe_glob hg hm (v := .int i) ⟨t, rfl⟩ hd) fun _ _ => .int i
theorem de_gstr {x i : Str} {t : Tok} (hg : Gl X x) (hm : X.mg x = some (.str i t)) (hd : (x == ("__debug__" : Str)) = false := by decide) : DE N W X .fz (.Name x pos) (fun _ => M.ret (.str i)) := de_con (pe_glob hg hm (v := .str i) ⟨t, rfl⟩ hd) fun _ _ => .str i

/-! ### lists of expressions, displays -/
def fNil : Δ → M (List D) := fun _ => M.ret []
def fCons (fe : Δ → M D) (fr : Δ → M (List D)) : Δ → M (List D) := fun δ => M.bind (fe δ) fun x => M.bind (fr δ) fun xs => M.ret (x :: xs)
def fStar (fe : Δ → M D) (fr : Δ → M (List D)) : Δ → M (List D) := fun δ => M.bind (fe δ) fun x => M.bind (M.opt x.items) fun ys => M.bind (fr δ) fun zs => M.ret (ys ++ zs)
theorem da_nil : DA N W X [] fNil := pa_nil.imp fun σ H Q ⟨g0, H0, g, S, δ, G, q⟩ => q.now G.st [] .nil
theorem da_cons {fr : Δ → M (List D)} (he : DE N W X .fz e f) (hr : DA N W X es fr) (hs : starEach (e :: es) X.env = (false, eval e X.env) :: starEach es X.env := by rfl) : DA N W X (e :: es) (fCons f fr) :=
  (pa_cons he hr hs).imp fun σ H Q ⟨g0, H0, g, S, δ, G, q⟩ => tE.seq G q fun x S1 v H1 g1 k1 G1 rv q1 => tA.seq G1 q1 fun xs S2 vs H2 g2 k2 G2 rvs q2 => q2.now G2.st _ (.cons (Rp.keep k2 rv) rvs)
theorem da_star {p : Pos} {fr : Δ → M (List D)} (he : DE N W X md e f) (hr : DA N W X es fr) (hK : N.K = X.K := by rfl) (hs : starEach (.Starred e p :: es) X.env = (true, eval e X.env) :: starEach es X.env := by rfl) : DA N W X (.Starred e p :: es) (fStar f fr) :=
  (StX.pa_star he hr hs).imp fun σ H Q ⟨g0, H0, g, S, δ, G, q⟩ => tE.seq G q fun x S1 v H1 g1 k1 G1 rv q1 => by
    unfold M.bind at q1
    cases x with
    | lst ds =>
      obtain ⟨p, vs, e1, hs, hl, ra⟩ := rv.bo.seqL
      exact ⟨p, vs, e1, .inr (.of hs), tA.seq G1 q1 fun xs S2 vs2 H2 g2 k2 G2 rvs q2 => q2.now G2.st _ ((ra.keep k2).append rvs)⟩
    | tup ds =>
      obtain ⟨p, vs, e1, hs, hl, ra⟩ := rv.bo.seqT
      exact ⟨p, vs, e1, .inl (.of hs), tA.seq G1 q1 fun xs S2 vs2 H2 g2 k2 G2 rvs q2 => q2.now G2.st _ ((ra.keep k2).append rvs)⟩
    | _ => exact q1.elim
def fTup (fr : Δ → M (List D)) : Δ → M D := fun δ => M.bind (fr δ) mkTup
def fLst (fr : Δ → M (List D)) : Δ → M D := fun δ => M.bind (fr δ) mkLst
theorem de_tup {x1} {fr : Δ → M (List D)} (h : DA N W X es fr) : DE N W X .fz (.Tuple es x1 pos) (fTup fr) := (pe_tup h).imp fun σ H Q ⟨g0, H0, g, S, δ, G, q⟩ => tA.seq G q fun xs S1 vs H1 g1 k1 G1 ra q1 => by
  obtain ⟨hl, q2⟩ := q1.ite
  have hl : vs.length ≤ sizeLine := by rw [ra.length]; exact hl
  exact ⟨hl, Res.tup G1.st ra hl q2⟩
theorem de_lst {fr : Δ → M (List D)} (h : DA N W X es fr) : DE N W X .fr (.List es pos) (fLst fr) := (pe_lst h).imp fun σ H Q ⟨g0, H0, g, S, δ, G, q⟩ => tA.seq G q fun xs S1 vs H1 g1 k1 G1 ra q1 => by
  obtain ⟨hl, q2⟩ := q1.ite
  have hl : vs.length ≤ sizeLine := by rw [ra.length]; exact hl
  exact ⟨hl, Res.lst (H := H1) G1.st ra hl (Q := Q) (q2.mono (.refl _ _) fun g' H' d k' q v ⟨a, ws, ds, e1, e2, hn, r⟩ => q v ⟨a, ws, ds, e1, e2, k1.kd _ hn, r⟩)⟩

/-! ### operators by values -/
/-- k is what r gives on data -/
def OpD (N : Nv) (W : XK) (md : Md) (r : R2) (k : D → D → M D) : Prop := ∀ x y v w g H S Q, StOk N.K g S H → RpB N.K g H v x → RpB N.K g H w y →
  Res N W g H (fun g' H' d => ∀ u, RpM N.K H md g' H' u d → Q u H') (k x y S) → r v w H Q
def f2 (k : D → D → M D) (fa fb : Δ → M D) : Δ → M D := fun δ => M.bind (fa δ) fun x => M.bind (fb δ) fun y => k x y
theorem RpM.down {K : PySem.W.Frag} {H₀ H₁ : Hp} {v : V} {d : D} (k : ∀ a, H₁ a = none → H₀ a = none) : ∀ {m : Md} {g : Gh} {H : Hp}, RpM K H₁ m g H v d → RpM K H₀ m g H v d
  | .fz, _, _, h => h
  | .bo, _, _, h => h
  | .fr, _, _, ⟨a, vs, ds, e1, e2, hn, r⟩ => ⟨a, vs, ds, e1, e2, k a hn, r⟩
theorem two_of {t : TE} {r : R2} {k : D → D → M D} {ma mb : Md} (h : PE X e (tOp r (tE N W ma fa) (tE N W mb fb))) (hk : OpD N W md r k) : DE N W X md e (f2 k fa fb) :=
  h.imp fun σ H Q ⟨g0, H0, g, S, δ, G, q⟩ => tE.seq G q fun x S1 v H1 g1 k1 G1 rv q1 => tE.seq G1 q1 fun y S2 w H2 g2 k2 G2 rw q2 =>
    hk x y v w g2 H2 S2 Q G2.st (rv.bo.keep k2) rw.bo (q2.mono (.refl _ _) fun g' H' d k' q u ru => q u (ru.down fun a h => k1.kd a (k2.kd a h)))
theorem de_op {op : Operator} {r : R2} {k : D → D → M D} {ma mb : Md} (ho : OpR X (binaryOp op) r) (hk : OpD N W md r k) (ha : DE N W X ma a fa) (hb : DE N W X mb b fb) : DE N W X md (.BinOp a op b pos) (f2 k fa fb) := two_of (t := fun _ _ _ => True) (pe_op ho ha hb) hk
theorem de_cmp {op : CmpOp} {r : R2} {k : D → D → M D} {ma mb : Md} (ho : OpR X (compareOp op) r) (hk : OpD N W md r k) (ha : DE N W X ma a fa) (hb : DE N W X mb b fb) (hm : behindInMarks op b = false) : DE N W X md (.Compare a [op] [b] pos) (f2 k fa fb) :=
  two_of (t := fun _ _ _ => True) (pe_cmpR ho ha hb hm) hk
theorem OpD.or {r r' : R2} {k : D → D → M D} (c : D → D → Bool) (h : ∀ x y v w g H S Q, c x y = true → StOk N.K g S H → RpB N.K g H v x → RpB N.K g H w y → Res N W g H (fun g' H' d => ∀ u, RpM N.K H md g' H' u d → Q u H') (k x y S) → r v w H Q)
    (h' : ∀ x y v w g H S Q, c x y = false → StOk N.K g S H → RpB N.K g H v x → RpB N.K g H w y → Res N W g H (fun g' H' d => ∀ u, RpM N.K H md g' H' u d → Q u H') (k x y S) → r' v w H Q) : OpD N W md (fun x y H Q => r x y H Q ∨ r' x y H Q) k :=
  fun x y v w g H S Q st rv rw q => by
    cases e : c x y with
    | true => exact .inl (h x y v w g H S Q e st rv rw q)
    | false => exact .inr (h' x y v w g H S Q e st rv rw q)

def kI (f : Int → Int → D) : D → D → M D
  | .int i, .int j => M.ret (f i j)
  | _, _ => M.stuck
def kIc (c : Int → Int → Bool) (f : Int → Int → Int) : D → D → M D
  | .int i, .int j => if c i j = true then M.ret (.int (f i j)) else M.stuck
  | _, _ => M.stuck
theorem opD_int {f : Int → Int → Int} : OpD N W .fz (rI0 fun i j => .int (f i j)) (kI fun i j => .int (f i j)) := fun x y v w g H S Q st rv rw q => by
  cases x <;> cases y <;> first | exact q.elim | skip
  exact ⟨_, _, rv.int, rw.int, q.now st _ (.int _)⟩
theorem opD_bl {f : Int → Int → Bool} : OpD N W .fz (rI0 fun i j => .bl (f i j)) (kI fun i j => .bl (f i j)) := fun x y v w g H S Q st rv rw q => by
  cases x <;> cases y <;> first | exact q.elim | skip
  exact ⟨_, _, rv.int, rw.int, q.now st _ (.bl _)⟩
theorem opD_intC {C : Int → Int → Prop} {c : Int → Int → Bool} {f : Int → Int → Int} (hc : ∀ i j, c i j = true → C i j) : OpD N W .fz (rI C fun i j => .int (f i j)) (kIc c f) := fun x y v w g H S Q st rv rw q => by
  cases x <;> cases y <;> first | exact q.elim | skip
  obtain ⟨h, q⟩ := q.ite
  exact ⟨_, _, rv.int, rw.int, hc _ _ h, q.now st _ (.int _)⟩
def dSub : D → D → M D := kI fun i j => .int (i - j)
def dMulC (i j : Int) : Bool := decide (i.natAbs.log2 + j.natAbs.log2 < 1000000)
def dMul : D → D → M D := kIc dMulC fun i j => i * j
def dDivC (_ j : Int) : Bool := decide (0 < j) && decide (j.natAbs.log2 < 9000)
def dDiv : D → D → M D := kIc dDivC fun i j => i / j
def dMod : D → D → M D := kIc (fun _ j => decide (0 < j)) fun i j => i % j
def dPow : D → D → M D := kIc (fun i j => decide (0 ≤ j) && decide (j ≤ 1000) && decide (i.natAbs.log2 < 100000)) fun i j => i ^ j.toNat
def dLt : D → D → M D := kI fun i j => .bl (decide (i < j))
def dLe : D → D → M D := kI fun i j => .bl (decide (i ≤ j))
def dGt : D → D → M D := kI fun i j => .bl (decide (j < i))
def dGe : D → D → M D := kI fun i j => .bl (decide (j ≤ i))
theorem de_sub {ma mb : Md} (ha : DE N W X ma a fa) (hb : DE N W X mb b fb) : DE N W X .fz (.BinOp a .Sub b pos) (f2 dSub fa fb) := de_op op_sub opD_int ha hb
theorem de_mul {ma mb : Md} (ha : DE N W X ma a fa) (hb : DE N W X mb b fb) : DE N W X .fz (.BinOp a .Mult b pos) (f2 dMul fa fb) := de_op op_mulW (opD_intC fun i j h => (of_decide_eq_true h : i.natAbs.log2 + j.natAbs.log2 < 1000000)) ha hb
theorem de_div {ma mb : Md} (ha : DE N W X ma a fa) (hb : DE N W X mb b fb) : DE N W X .fz (.BinOp a .FloorDiv b pos) (f2 dDiv fa fb) := de_op op_fdivW (opD_intC fun i j h => by
  unfold dDivC at h
  simp only [Bool.and_eq_true, decide_eq_true_eq] at h
  exact h) ha hb
theorem de_mod {ma mb : Md} (ha : DE N W X ma a fa) (hb : DE N W X mb b fb) : DE N W X .fz (.BinOp a .Mod b pos) (f2 dMod fa fb) := de_op op_mod (opD_intC fun i j h => of_decide_eq_true h) ha hb
/-- powers of greater ints -/
def CPowW (i j : Int) : Prop := 0 ≤ j ∧ j ≤ 1000 ∧ i.natAbs.log2 < 100000
theorem CPowW.ok {i j : Int} (h : CPowW i j) : (Builtin.Int.intBits i : Int) * j ≤ 2 ^ 27 := by
  have hb : Builtin.Int.intBits i ≤ 100000 := by
    unfold Builtin.Int.intBits
    split
    · exact Nat.zero_le _
    · have := h.2.2
      omega
  have h1 : (Builtin.Int.intBits i : Int) * j ≤ 100000 * j := Int.mul_le_mul_of_nonneg_right (by omega) h.1
  have h2 := h.2.1
  have h3 : (2 : Int) ^ 27 = 134217728 := by decide
  omega
theorem op_powW : OpR X (binaryOp .Pow) (rI CPowW fun i j => .int (i ^ j.toNat)) := opI fun _ _ _ _ _ _ _ hc q => pow_int hc.1 hc.ok q
theorem de_pow {ma mb : Md} (ha : DE N W X ma a fa) (hb : DE N W X mb b fb) : DE N W X .fz (.BinOp a .Pow b pos) (f2 dPow fa fb) := de_op op_powW (opD_intC fun i j h => by
  simp only [Bool.and_eq_true, decide_eq_true_eq] at h
  exact ⟨h.1.1, h.1.2, h.2⟩) ha hb
theorem de_lt {ma mb : Md} (ha : DE N W X ma a fa) (hb : DE N W X mb b fb) : DE N W X .fz (.Compare a [.Lt] [b] pos) (f2 dLt fa fb) := de_cmp op_lt opD_bl ha hb (nomark _)
theorem de_le {ma mb : Md} (ha : DE N W X ma a fa) (hb : DE N W X mb b fb) : DE N W X .fz (.Compare a [.LtE] [b] pos) (f2 dLe fa fb) := de_cmp op_le opD_bl ha hb (nomark _)
theorem de_gt {ma mb : Md} (ha : DE N W X ma a fa) (hb : DE N W X mb b fb) : DE N W X .fz (.Compare a [.Gt] [b] pos) (f2 dGt fa fb) := de_cmp op_gt opD_bl ha hb (nomark _)
theorem de_ge {ma mb : Md} (ha : DE N W X ma a fa) (hb : DE N W X mb b fb) : DE N W X .fz (.Compare a [.GtE] [b] pos) (f2 dGe fa fb) := de_cmp op_ge opD_bl ha hb (nomark _)

/-! ### + -/
def dAdd : D → D → M D
  | .int i, .int j => M.ret (.int (i + j))
  | .str s, .str t => if s.length + t.length ≤ sizeLine then M.ret (.str (s ++ t)) else M.stuck
  | .tup xs, .tup ys => if xs.length + ys.length ≤ sizeLine then M.ret (.tup (xs ++ ys)) else M.stuck
  | _, _ => M.stuck
theorem de_add {ma mb : Md} (ha : DE N W X ma a fa) (hb : DE N W X mb b fb) (hK : N.K = X.K := by rfl) : DE N W X .fz (.BinOp a .Add b pos) (f2 dAdd fa fb) :=
  de_op (OpR.or op_add (OpR.or op_add_str op_catA)) (fun x y v w g H S Q st rv rw q => by
    cases x <;> cases y <;> first | exact q.elim | skip
    · exact .inl ⟨_, _, rv.int, rw.int, q.now st _ (.int _)⟩
    · obtain ⟨h, q⟩ := q.ite
      exact .inr (.inl ⟨_, _, rv.str, rw.str, h, q.now st _ (.str _)⟩)
    · obtain ⟨h, q⟩ := q.ite
      obtain ⟨p, xs, e1, h1, l1, r1⟩ := rv.seqT
      obtain ⟨p2, ys, e2, h2, l2, r2⟩ := rw.seqT
      have hl : (xs ++ ys).length ≤ sizeLine := by rw [List.length_append, r1.length, r2.length]; exact h
      refine .inr (.inr ⟨p, p2, xs, ys, e1, e2, .of h1, .of h2, by rw [r1.length, r2.length]; exact h, fun e => ?_, fun _ e => ?_, fun _ _ => Res.tup st (r1.append r2) hl q⟩)
      · subst e
        cases r1
        exact q.now st _ (.tup h2 l2 r2)
      · subst e
        cases r2
        refine q.now st _ (.tup h1 l1 ?_)
        rw [List.append_nil]
        exact r1) ha hb
end
end DL

set_option Elab.async false
set_option linter.all false
set_option maxRecDepth 100000
set_option maxHeartbeats 4000000
/-! DL2: equality and membership of data, tests, subscripts, slices, built-ins of one argument. -/
namespace DL
open PySem PySem.Spec PyProof.Rows L2

/-! ### plain data as the library's -/
mutual
def D.py : D → PyData
  | .non => .none
  | .bl b => .bool b
  | .int i => .int i
  | .str s => .str s
  | .lst xs => .list (D.pys xs)
  | .tup xs => .tuple (D.pys xs)
  | .dct _ => .dict []
  | .ob _ => .none
  | .fn _ => .none
  | .scr _ => .none
def D.pys : List D → List PyData
  | [] => []
  | x :: xs => D.py x :: D.pys xs
end
/- no dict, no shared object within, depth at most n -/
mutual
def D.sh : Nat → D → Bool
  | _, .non => true
  | _, .bl _ => true
  | _, .int _ => true
  | _, .str s => PyData.strOk s
  | n + 1, .lst xs => D.shs n xs
  | n + 1, .tup xs => D.shs n xs
  | 0, .lst _ => false
  | 0, .tup _ => false
  | _, .dct _ => false
  | _, .ob _ => false
  | _, .fn _ => false
  | _, .scr _ => false
def D.shs : Nat → List D → Bool
  | _, [] => true
  | n, x :: xs => D.sh n x && D.shs n xs
end
mutual
theorem D.sh_lay : ∀ (n : Nat) (d : D), d.sh n = true → d.py.canLay0 = true ∧ d.py.depth ≤ n
  | _, .non, _ => ⟨rfl, Nat.zero_le _⟩
  | _, .bl _, _ => ⟨rfl, Nat.zero_le _⟩
  | _, .int _, _ => ⟨rfl, Nat.zero_le _⟩
  | _, .str s, h => ⟨by unfold D.sh at h; unfold D.py PyData.canLay0; exact h, Nat.zero_le _⟩
  | n + 1, .lst xs, h => by
    unfold D.sh at h
    obtain ⟨a, b⟩ := D.shs_lay n xs h
    unfold D.py
    exact ⟨by unfold PyData.canLay0; exact a, by unfold PyData.depth; omega⟩
  | n + 1, .tup xs, h => by
    unfold D.sh at h
    obtain ⟨a, b⟩ := D.shs_lay n xs h
    unfold D.py
    exact ⟨by unfold PyData.canLay0; exact a, by unfold PyData.depth; omega⟩
  | 0, .lst _, h => by unfold D.sh at h; cases h
  | 0, .tup _, h => by unfold D.sh at h; cases h
  | _, .dct _, h => by unfold D.sh at h; cases h
  | _, .ob _, h => by unfold D.sh at h; cases h
  | _, .fn _, h => by unfold D.sh at h; cases h
  | _, .scr _, h => by unfold D.sh at h; cases h
theorem D.shs_lay : ∀ (n : Nat) (ds : List D), D.shs n ds = true → PyData.canLayAll0 (D.pys ds) = true ∧ PyData.depthAll (D.pys ds) ≤ n
  | _, [], _ => ⟨by unfold D.pys PyData.canLayAll0; rfl, by unfold D.pys PyData.depthAll; exact Nat.zero_le _⟩
  | n, x :: xs, h => by
    unfold D.shs at h
    rw [Bool.and_eq_true] at h
    obtain ⟨a, b⟩ := D.sh_lay n x h.1
    obtain ⟨c, d⟩ := D.shs_lay n xs h.2
    unfold D.pys
    refine ⟨?_, ?_⟩
    · unfold PyData.canLayAll0
      rw [a, c]; rfl
    · unfold PyData.depthAll
      omega
end
theorem D.shaped {d : D} (h : d.sh 64 = true) : SeqAt.shaped d.py = true := by
  obtain ⟨a, b⟩ := D.sh_lay 64 d h
  unfold SeqAt.shaped
  rw [a, decide_eq_true b]; rfl
section
variable {K : PySem.W.Frag} {g : Gh} {H : Hp}
mutual
theorem Rp.dp : ∀ (n : Nat) (d : D) (v : V), d.sh n = true → Rp K g H v d → Dp K H v d.py
  | _, .non, _, _, r => by cases r; exact .non
  | _, .bl _, _, _, r => by cases r; exact .bl _
  | _, .int _, _, _, r => by cases r; exact .int _
  | _, .str _, _, _, r => by cases r; exact .str _
  | n + 1, .lst xs, _, h, r => by
    unfold D.sh at h
    cases r with
    | lst z s l ra => exact .lst (.of s) (RpAll.dp n xs _ h ra)
  | n + 1, .tup xs, _, h, r => by
    unfold D.sh at h
    cases r with
    | tup s l ra => exact .tup (.of s) (RpAll.dp n xs _ h ra)
  | 0, .lst _, _, h, _ => by unfold D.sh at h; cases h
  | 0, .tup _, _, h, _ => by unfold D.sh at h; cases h
  | _, .dct _, _, h, _ => by unfold D.sh at h; cases h
  | _, .ob _, _, h, _ => by unfold D.sh at h; cases h
  | _, .fn _, _, h, _ => by unfold D.sh at h; cases h
  | _, .scr _, _, h, _ => by unfold D.sh at h; cases h
theorem RpAll.dp : ∀ (n : Nat) (ds : List D) (vs : List V), D.shs n ds = true → RpAll K g H vs ds → DpAll K H vs (D.pys ds)
  | _, [], _, _, r => by cases r; exact .nil
  | n, x :: xs, _, h, r => by
    unfold D.shs at h
    rw [Bool.and_eq_true] at h
    cases r with
    | cons a b => exact .cons (Rp.dp n x _ h.1 a) (RpAll.dp n xs _ h.2 b)
end
theorem RpB.dp {d : D} {v : V} {n : Nat} (h : d.sh n = true) (r : RpB K g H v d) : Dp K H v d.py := by
  rcases r with r | ⟨a, vs, ds, e1, e2, h1, _, _, ra⟩
  · exact r.dp n d v h
  · subst e1 e2
    cases n with
    | zero => unfold D.sh at h; cases h
    | succ n =>
      unfold D.sh at h
      exact .lst (.of h1) (ra.dp n ds vs h)
end
/-- x == y, of plain data -/
def D.eqv (x y : D) : Bool := PyData.eqv x.py y.py
def dEq (x y : D) : M D := if (x.sh 64 && y.sh 64) = true then M.ret (.bl (x.eqv y)) else M.stuck
def dNe (x y : D) : M D := if (x.sh 64 && y.sh 64) = true then M.ret (.bl (!x.eqv y)) else M.stuck

section
variable {N : Nv} {W : XK} {X : Cx} {md : Md} {e a b : Expr} {es : List Expr} {f fa fb : Δ → M D} {g0 : G0} {g : Gh} {H0 H : Hp} {S : Store} {δ : Δ} {σ : L2.St} {Q : VK} {pos : Pos}
theorem opD_eq (hK : N.K = X.K) : OpD N W .fz (rEqD X.K) dEq := fun x y v w g H S Q st rv rw q => by
  obtain ⟨h, q⟩ := q.ite
  rw [Bool.and_eq_true] at h
  exact ⟨x.py, y.py, hK ▸ rv.dp h.1, hK ▸ rw.dp h.2, x.shaped h.1, y.shaped h.2, q.now st _ (.bl _)⟩
theorem opD_ne (hK : N.K = X.K) : OpD N W .fz (rNeD X.K) dNe := fun x y v w g H S Q st rv rw q => by
  obtain ⟨h, q⟩ := q.ite
  rw [Bool.and_eq_true] at h
  exact ⟨x.py, y.py, hK ▸ rv.dp h.1, hK ▸ rw.dp h.2, x.shaped h.1, y.shaped h.2, q.now st _ (.bl _)⟩
theorem de_eq {ma mb : Md} (hu : X.A.units + 64 < cLine) (ha : DE N W X ma a fa) (hb : DE N W X mb b fb) (hK : N.K = X.K := by rfl) : DE N W X .fz (.Compare a [.Eq] [b] pos) (f2 dEq fa fb) := de_cmp (op_eqD hu) (opD_eq hK) ha hb (nomark _)
theorem de_ne {ma mb : Md} (hu : X.A.units + 64 < cLine) (ha : DE N W X ma a fa) (hb : DE N W X mb b fb) (hK : N.K = X.K := by rfl) : DE N W X .fz (.Compare a [.NotEq] [b] pos) (f2 dNe fa fb) := de_cmp (op_neD hu) (opD_ne hK) ha hb (nomark _)

/-! ### x in y: a list, a tuple (any plain data) -/
def rInT (K : PySem.W.Frag) : R2 := fun x y H Q => ∃ d ds, Dp K H x d ∧ Dp K H y (.tuple ds) ∧ SeqAt.shaped d = true ∧ SeqAt.shaped (.tuple ds) = true ∧ Q (.bl (ds.any fun z => PyData.eqv z d)) H
def rNotInT (K : PySem.W.Frag) : R2 := fun x y H Q => ∃ d ds, Dp K H x d ∧ Dp K H y (.tuple ds) ∧ SeqAt.shaped d = true ∧ SeqAt.shaped (.tuple ds) = true ∧ Q (.bl (!ds.any fun z => PyData.eqv z d)) H
theorem room_inT {A : Around} {d : PyData} {ds : List PyData} (h : SeqAt.shaped d = true) (hu : A.units + 65 < cLine) : A.units + 1 + min (PyData.depthAll ds) d.depth < cLine := by
  have h1 := SeqAt.depth_of_shaped h
  have h2 : min (PyData.depthAll ds) d.depth ≤ d.depth := Nat.min_le_right _ _
  omega
theorem op_inT (hu : X.A.units + 65 < cLine) : OpR X (compareOp .In) (rInT X.K) := fun pins s σ H x y v u Q I rx ry h => by
  obtain ⟨d, ds, hd, he, sd, se, q⟩ := h
  obtain ⟨as, r1⟩ := Dp.reads I d x v hd rx
  obtain ⟨bs, r2⟩ := Dp.reads I (.tuple ds) y u he ry
  exact SeqAt.in_tuple_reads r2 r1 (SeqAt.canLay_of_shaped se) (SeqAt.canLay_of_shaped sd) (room_inT sd hu) ⟨.bl _, H, I, rfl, q⟩
theorem op_notInT (hu : X.A.units + 65 < cLine) : OpR X (compareOp .NotIn) (rNotInT X.K) := fun pins s σ H x y v u Q I rx ry h => by
  obtain ⟨d, ds, hd, he, sd, se, q⟩ := h
  obtain ⟨as, r1⟩ := Dp.reads I d x v hd rx
  obtain ⟨bs, r2⟩ := Dp.reads I (.tuple ds) y u he ry
  exact SeqAt.notIn_tuple_reads r2 r1 (SeqAt.canLay_of_shaped se) (SeqAt.canLay_of_shaped sd) (room_inT sd hu) ⟨.bl _, H, I, rfl, q⟩
theorem any_pys (p : PyData → Bool) : ∀ ds : List D, (D.pys ds).any p = ds.any fun d => p d.py
  | [] => rfl
  | x :: xs => by
    unfold D.pys
    rw [List.any_cons, List.any_cons, any_pys p xs]
def D.mem (x : D) (ds : List D) : Bool := ds.any fun y => y.eqv x
def dIn (x y : D) : M D := match y.items with
  | some ds => if (x.sh 64 && y.sh 64) = true then M.ret (.bl (x.mem ds)) else M.stuck
  | none => M.stuck
def dNotIn (x y : D) : M D := match y.items with
  | some ds => if (x.sh 64 && y.sh 64) = true then M.ret (.bl (!x.mem ds)) else M.stuck
  | none => M.stuck
def D.isLst : D → Bool
  | .lst _ => true
  | _ => false
theorem de_in {ma mb : Md} (hu : X.A.units + 65 < cLine) (ha : DE N W X ma a fa) (hb : DE N W X mb b fb) (hm : behindInMarks .In b = false := by rfl) (hK : N.K = X.K := by rfl) : DE N W X .fz (.Compare a [.In] [b] pos) (f2 dIn fa fb) :=
  de_cmp (OpR.or (op_inD hu) (op_inT hu)) (OpD.or (fun _ y => y.isLst) (fun x y v w g H S Q c st rv rw q => by
    cases y <;> first | exact q.elim | cases c | skip
    rename_i ds
    obtain ⟨h, q⟩ := Res.ite q
    rw [Bool.and_eq_true] at h
    have r2 := rw.dp h.2
    have s2 := D.shaped h.2
    unfold D.py at r2 s2
    refine ⟨x.py, D.pys ds, hK ▸ rv.dp h.1, hK ▸ r2, x.shaped h.1, s2, ?_⟩
    rw [any_pys]
    exact q.now st _ (.bl _)) fun x y v w g H S Q c st rv rw q => by
    cases y <;> first | exact q.elim | cases c | skip
    rename_i ds
    obtain ⟨h, q⟩ := Res.ite q
    rw [Bool.and_eq_true] at h
    have r2 := rw.dp h.2
    have s2 := D.shaped h.2
    unfold D.py at r2 s2
    refine ⟨x.py, D.pys ds, hK ▸ rv.dp h.1, hK ▸ r2, x.shaped h.1, s2, ?_⟩
    rw [any_pys]
    exact q.now st _ (.bl _)) ha hb hm
theorem de_notIn {ma mb : Md} (hu : X.A.units + 65 < cLine) (ha : DE N W X ma a fa) (hb : DE N W X mb b fb) (hm : behindInMarks .NotIn b = false := by rfl) (hK : N.K = X.K := by rfl) : DE N W X .fz (.Compare a [.NotIn] [b] pos) (f2 dNotIn fa fb) :=
  de_cmp (OpR.or (op_notInD hu) (op_notInT hu)) (OpD.or (fun _ y => y.isLst) (fun x y v w g H S Q c st rv rw q => by
    cases y <;> first | exact q.elim | cases c | skip
    rename_i ds
    obtain ⟨h, q⟩ := Res.ite q
    rw [Bool.and_eq_true] at h
    have r2 := rw.dp h.2
    have s2 := D.shaped h.2
    unfold D.py at r2 s2
    refine ⟨x.py, D.pys ds, hK ▸ rv.dp h.1, hK ▸ r2, x.shaped h.1, s2, ?_⟩
    rw [any_pys]
    exact q.now st _ (.bl _)) fun x y v w g H S Q c st rv rw q => by
    cases y <;> first | exact q.elim | cases c | skip
    rename_i ds
    obtain ⟨h, q⟩ := Res.ite q
    rw [Bool.and_eq_true] at h
    have r2 := rw.dp h.2
    have s2 := D.shaped h.2
    unfold D.py at r2 s2
    refine ⟨x.py, D.pys ds, hK ▸ rv.dp h.1, hK ▸ r2, x.shaped h.1, s2, ?_⟩
    rw [any_pys]
    exact q.now st _ (.bl _)) ha hb hm

/-! ### is None -/
def dIsN (x : D) : M D := match x with
  | .non => M.ret (.bl true)
  | _ => M.ret (.bl false)
def dNotN (x : D) : M D := match x with
  | .non => M.ret (.bl false)
  | _ => M.ret (.bl true)
theorem RpB.isN {K : PySem.W.Frag} {v : V} {d : D} (r : RpB K g H v d) : dIsN d = M.ret (.bl (decide (v = .non))) ∧ dNotN d = M.ret (.bl (!decide (v = .non))) := by
  rcases r with r | ⟨a, vs, ds, e1, e2, _⟩
  · cases r <;> exact ⟨rfl, rfl⟩
  · subst e1 e2
    exact ⟨rfl, rfl⟩
def f1 (k : D → M D) (fa : Δ → M D) : Δ → M D := fun δ => M.bind (fa δ) k
theorem de_isN {ma : Md} (ha : DE N W X ma a fa) {p2 j} : DE N W X .fz (.Compare a [.Is] [.Constant .none j p2] pos) (f1 dIsN fa) :=
  (pe_cmpR op_isN ha pe_non (nomark _)).imp fun σ H Q ⟨g0, H0, g, S, δ, G, q⟩ => tE.seq G q fun x S1 v H1 g1 k1 G1 rv q1 => by
    rw [rv.bo.isN.1] at q1
    exact ⟨rfl, q1.now G1.st _ (.bl _)⟩
theorem de_notN {ma : Md} (ha : DE N W X ma a fa) {p2 j} : DE N W X .fz (.Compare a [.IsNot] [.Constant .none j p2] pos) (f1 dNotN fa) :=
  (pe_cmpR op_notN ha pe_non (nomark _)).imp fun σ H Q ⟨g0, H0, g, S, δ, G, q⟩ => tE.seq G q fun x S1 v H1 g1 k1 G1 rv q1 => by
    rw [rv.bo.isN.2] at q1
    exact ⟨rfl, q1.now G1.st _ (.bl _)⟩

/-! ### tests -/
def D.isBl : D → M Bool
  | .bl b => M.ret b
  | _ => M.stuck
def tV (fa : Δ → M D) : Δ → M Bool := fun δ => M.bind (fa δ) D.isBl
theorem dt_val {ma : Md} (ha : DE N W X ma a fa) (he : ∀ whole, isTrue a X.env whole = (do let v ← whole; standAt a.pos; holding [v] (truthy v)) := by intro _; rfl) : DT N W X a (tV fa) :=
  (pt_val ha he).imp fun σ H Q ⟨g0, H0, g, S, δ, G, q⟩ => tE.seq G q fun x S1 v H1 g1 k1 G1 rv q1 => by
    cases x <;> first | exact q1.elim | skip
    exact ⟨_, rv.bo.bl, q1.now G1.st⟩
/-- a test of a comparison (its 'whole' is the comparison's own) -/
theorem dt_cmp {ma mb : Md} {op : CmpOp} {r : R2} {k : D → D → M D} (ho : OpR X (compareOp op) r) (hk : OpD N W .fz r k) (ha : DE N W X ma a fa) (hb : DE N W X mb b fb) (hm : behindInMarks op b = false) : DT N W X (.Compare a [op] [b] pos) (tV (f2 k fa fb)) :=
  (pt_cmpR ho ha hb hm).imp fun σ H Q ⟨g0, H0, g, S, δ, G, q⟩ => by
    unfold tV f2 at q
    rw [M.bind_assoc] at q
    refine tE.seq G q fun x S1 v H1 g1 k1 G1 rv q1 => ?_
    rw [M.bind_assoc] at q1
    refine tE.seq G1 q1 fun y S2 w H2 g2 k2 G2 rw q2 => ?_
    refine hk x y v w g2 H2 S2 _ G2.st (rv.bo.keep k2) rw.bo ?_
    have h := q2.first
    cases e : k x y S2 with
    | stk => rw [e] at h; exact h
    | err c z S3 => rw [e] at h; exact h
    | ok d S3 =>
      rw [e] at h
      intro g' H' k' st u ru
      obtain ⟨S', e', q⟩ := h g' H' k' st
      cases e'
      cases d <;> first | exact q.elim | skip
      cases (show Rp N.K g' H' u _ from ru)
      exact ⟨_, rfl, q g' H' k' st⟩
theorem dt_lt {ma mb : Md} (ha : DE N W X ma a fa) (hb : DE N W X mb b fb) : DT N W X (.Compare a [.Lt] [b] pos) (tV (f2 dLt fa fb)) := dt_cmp op_lt opD_bl ha hb (nomark _)
theorem dt_le {ma mb : Md} (ha : DE N W X ma a fa) (hb : DE N W X mb b fb) : DT N W X (.Compare a [.LtE] [b] pos) (tV (f2 dLe fa fb)) := dt_cmp op_le opD_bl ha hb (nomark _)
theorem dt_gt {ma mb : Md} (ha : DE N W X ma a fa) (hb : DE N W X mb b fb) : DT N W X (.Compare a [.Gt] [b] pos) (tV (f2 dGt fa fb)) := dt_cmp op_gt opD_bl ha hb (nomark _)
theorem dt_ge {ma mb : Md} (ha : DE N W X ma a fa) (hb : DE N W X mb b fb) : DT N W X (.Compare a [.GtE] [b] pos) (tV (f2 dGe fa fb)) := dt_cmp op_ge opD_bl ha hb (nomark _)
theorem dt_eq {ma mb : Md} (hu : X.A.units + 64 < cLine) (ha : DE N W X ma a fa) (hb : DE N W X mb b fb) (hK : N.K = X.K := by rfl) : DT N W X (.Compare a [.Eq] [b] pos) (tV (f2 dEq fa fb)) := dt_cmp (op_eqD hu) (opD_eq hK) ha hb (nomark _)
theorem dt_ne {ma mb : Md} (hu : X.A.units + 64 < cLine) (ha : DE N W X ma a fa) (hb : DE N W X mb b fb) (hK : N.K = X.K := by rfl) : DT N W X (.Compare a [.NotEq] [b] pos) (tV (f2 dNe fa fb)) := dt_cmp (op_neD hu) (opD_ne hK) ha hb (nomark _)

/-! ### not, and, or, if -/
def tNt (fc : Δ → M Bool) : Δ → M Bool := fun δ => M.bind (fc δ) fun b => M.ret (!b)
theorem dt_not {fc : Δ → M Bool} (h : DT N W X a fc) : DT N W X (.UnaryOp .Not a pos) (tNt fc) := (pt_not h).imp fun σ H Q ⟨g0, H0, g, S, δ, G, q⟩ => tT.seq G q fun x S1 H1 g1 k1 G1 q1 => q1.now G1.st
/-- the rest of a chain of and, or, whatever its whole is -/
def DW (N : Nv) (W : XK) (X : Cx) (e : Expr) (f : Δ → M Bool) : Prop := PW X e (tT N W f)
theorem _root_.L2.PW.imp {t t' : TT} (h : PW X e t) (w : ∀ σ H Q, t' σ H Q → t σ H Q) : PW X e t' := ⟨fun wh pins s σ H Q I q => h.run wh pins s σ H Q I (w σ H Q q)⟩
theorem dw_and1 {fc : Δ → M Bool} (h : DT N W X a fc) : DW N W X (.BoolOp .And [a] pos) fc := pw_and1 h
theorem dw_or1 {fc : Δ → M Bool} (h : DT N W X a fc) : DW N W X (.BoolOp .Or [a] pos) fc := pw_or1 h
def tAn (fc fd : Δ → M Bool) : Δ → M Bool := fun δ => M.bind (fc δ) fun b => if b = true then fd δ else M.ret false
def tOr' (fc fd : Δ → M Bool) : Δ → M Bool := fun δ => M.bind (fc δ) fun b => if b = true then M.ret true else fd δ
theorem dw_and {fc fd : Δ → M Bool} {rest : List Expr} (h : DT N W X a fc) (h' : DW N W X (.BoolOp .And (b :: rest) pos) fd) : DW N W X (.BoolOp .And (a :: b :: rest) pos) (tAn fc fd) := (pw_and h h').imp fun σ H Q ⟨g0, H0, g, S, δ, G, q⟩ => tT.seq G q fun x S1 H1 g1 k1 G1 q1 => by
  cases x with
  | true =>
    rw [if_pos rfl] at q1 ⊢
    exact ⟨g0, H0, g1, S1, δ, G1, q1⟩
  | false =>
    rw [if_neg (by decide)] at q1 ⊢
    exact q1.now G1.st
theorem dw_or {fc fd : Δ → M Bool} {rest : List Expr} (h : DT N W X a fc) (h' : DW N W X (.BoolOp .Or (b :: rest) pos) fd) : DW N W X (.BoolOp .Or (a :: b :: rest) pos) (tOr' fc fd) := (pw_or h h').imp fun σ H Q ⟨g0, H0, g, S, δ, G, q⟩ => tT.seq G q fun x S1 H1 g1 k1 G1 q1 => by
  cases x with
  | true =>
    rw [if_pos rfl] at q1 ⊢
    exact q1.now G1.st
  | false =>
    rw [if_neg (by decide)] at q1 ⊢
    exact ⟨g0, H0, g1, S1, δ, G1, q1⟩
theorem dt_w {fc : Δ → M Bool} (h : DW N W X e fc) : DT N W X e fc := PW.pt h
/-- as values: all but the last True or False -/
theorem de_one {op} {ma : Md} (h : DE N W X ma a f) : DE N W X ma (.BoolOp op [a] pos) f := pe_one h
def fAnd (fa fb : Δ → M D) : Δ → M D := fun δ => M.bind (fa δ) fun x => M.bind x.isBl fun b => if b = true then fb δ else M.ret (.bl false)
def fOr (fa fb : Δ → M D) : Δ → M D := fun δ => M.bind (fa δ) fun x => M.bind x.isBl fun b => if b = true then M.ret (.bl true) else fb δ
theorem de_and {ma : Md} {rest : List Expr} (h : DE N W X ma a fa) (h' : DE N W X .fz (.BoolOp .And (b :: rest) pos) fb) : DE N W X .fz (.BoolOp .And (a :: b :: rest) pos) (fAnd fa fb) := (pe_and h h').imp fun σ H Q ⟨g0, H0, g, S, δ, G, q⟩ => tE.seq G q fun x S1 v H1 g1 k1 G1 rv q1 => by
  cases x <;> first | exact q1.elim | skip
  rename_i c
  refine ⟨c, rv.bo.bl, ?_⟩
  cases c with
  | true =>
    rw [if_pos rfl]
    exact ⟨g0, H0, g1, S1, δ, G1, q1⟩
  | false =>
    rw [if_neg (by decide)]
    exact Res.now (a := D.bl false) G1.st q1 _ (.bl _)
theorem de_or {ma : Md} {rest : List Expr} (h : DE N W X ma a fa) (h' : DE N W X .fz (.BoolOp .Or (b :: rest) pos) fb) : DE N W X .fz (.BoolOp .Or (a :: b :: rest) pos) (fOr fa fb) := (pe_or h h').imp fun σ H Q ⟨g0, H0, g, S, δ, G, q⟩ => tE.seq G q fun x S1 v H1 g1 k1 G1 rv q1 => by
  cases x <;> first | exact q1.elim | skip
  rename_i c
  refine ⟨c, rv.bo.bl, ?_⟩
  cases c with
  | true =>
    rw [if_pos rfl]
    exact Res.now (a := D.bl true) G1.st q1 _ (.bl _)
  | false =>
    rw [if_neg (by decide)]
    exact ⟨g0, H0, g1, S1, δ, G1, q1⟩
def dNot : D → M D
  | .bl b => M.ret (.bl (!b))
  | _ => M.stuck
theorem de_not {ma : Md} (h : DE N W X ma a fa) : DE N W X .fz (.UnaryOp .Not a pos) (f1 dNot fa) := (pe_not h).imp fun σ H Q ⟨g0, H0, g, S, δ, G, q⟩ => tE.seq G q fun x S1 v H1 g1 k1 G1 rv q1 => by
  cases x <;> first | exact q1.elim | skip
  exact ⟨_, rv.bo.bl, q1.now G1.st _ (.bl _)⟩
def dNeg : D → M D
  | .int i => M.ret (.int (-i))
  | _ => M.stuck
theorem de_neg {ma : Md} (h : DE N W X ma a fa) : DE N W X .fz (.UnaryOp .USub a pos) (f1 dNeg fa) := (pe_un un_neg h).imp fun σ H Q ⟨g0, H0, g, S, δ, G, q⟩ => tE.seq G q fun x S1 v H1 g1 k1 G1 rv q1 => by
  cases x <;> first | exact q1.elim | skip
  exact ⟨_, rv.bo.int, q1.now G1.st _ (.int _)⟩
def fIf (fc : Δ → M Bool) (fa fb : Δ → M D) : Δ → M D := fun δ => M.bind (fc δ) fun c => if c = true then fa δ else fb δ
theorem de_if {c : Expr} {fc : Δ → M Bool} (hc : DT N W X c fc) (ha : DE N W X .fz a fa) (hb : DE N W X .fz b fb) : DE N W X .fz (.IfExp c a b pos) (fIf fc fa fb) := (pe_ifExp hc ha hb).imp fun σ H Q ⟨g0, H0, g, S, δ, G, q⟩ => tT.seq G q fun x S1 H1 g1 k1 G1 q1 => by
  cases x with
  | true =>
    rw [if_pos rfl] at q1 ⊢
    exact ⟨g0, H0, g1, S1, δ, G1, q1⟩
  | false =>
    rw [if_neg (by decide)] at q1 ⊢
    exact ⟨g0, H0, g1, S1, δ, G1, q1⟩
/-- a <= b <= c, b asked once -/
def fChain (k k' : D → D → M D) (fa fb fc : Δ → M D) : Δ → M D := fun δ => M.bind (fa δ) fun x => M.bind (fb δ) fun y => M.bind (k x y) fun z => M.bind z.isBl fun b => if b = true then M.bind (fc δ) fun u => k' y u else M.ret (.bl false)
theorem de_chain {ma mb mc : Md} {op op' : CmpOp} {r r' : R2} {k k' : D → D → M D} {c : Expr} {fc : Δ → M D} (ho : OpR X (compareOp op) r) (hk : OpD N W .fz r k) (ho' : OpR X (compareOp op') r') (hk' : OpD N W .fz r' k') (ha : DE N W X ma a fa) (hb : DE N W X mb b fb) (hc : DE N W X mc c fc)
    (hm : lastMarks [op, op'] [b, c] = false := by with_unfolding_all rfl) : DE N W X .fz (.Compare a [op, op'] [b, c] pos) (fChain k k' fa fb fc) :=
  (pe_chain ho ho' ha hb hc hm).imp fun σ H Q ⟨g0, H0, g, S, δ, G, q⟩ => tE.seq G q fun x S1 v H1 g1 k1 G1 rv q1 => tE.seq G1 q1 fun y S2 w H2 g2 k2 G2 rw q2 => by
    refine hk x y v w g2 H2 S2 _ G2.st (rv.bo.keep k2) rw.bo ?_
    have h := q2.first
    cases e : k x y S2 with
    | stk => rw [e] at h; exact h
    | err c z S3 => rw [e] at h; exact h
    | ok d S3 =>
      rw [e] at h
      intro g' H' k' st u ru
      obtain ⟨S', e', q⟩ := h g' H' k' st
      cases e'
      cases d <;> first | exact q.elim | skip
      rename_i t
      cases (show Rp N.K g' H' u _ from ru)
      refine ⟨t, rfl, ?_⟩
      have G3 := G2.later k' st
      have q := q.later k'
      cases t with
      | true =>
        rw [if_pos rfl]
        exact tE.seq G3 q fun z S4 w4 H4 g4 k4 G4 r4 q4 => hk' y z w w4 g4 H4 S4 Q G4.st ((rw.bo.keep k').keep k4) r4.bo q4
      | false =>
        rw [if_neg (by decide)]
        exact Res.now (a := D.bl false) G3.st q _ (.bl _)
end
end DL

set_option Elab.async false
set_option linter.all false
set_option maxRecDepth 100000
set_option maxHeartbeats 4000000
/-! DL3: subscripts, slices, built-ins. -/
namespace DL
open PySem PySem.Spec PyProof.Rows L2

theorem atI_len {α β : Type} {xs : List α} {ys : List β} (h : xs.length = ys.length) (i : Int) : (atI xs i).isSome = (atI ys i).isSome := by
  unfold atI
  rw [h]
  cases e : ixN ys.length i with
  | none => rfl
  | some j =>
    obtain ⟨_, hj, _⟩ := ixN_seq e
    simp [List.getElem?_eq_getElem, hj, h]
theorem RpAll.atI {K : PySem.W.Frag} {g : Gh} {H : Hp} {vs : List V} {ds : List D} {i : Int} {d : D} (r : RpAll K g H vs ds) (h : L2.atI ds i = some d) : ∃ v, L2.atI vs i = some v ∧ Rp K g H v d := by
  unfold L2.atI at h ⊢
  rw [r.length]
  cases e : ixN ds.length i with
  | none => rw [e] at h; cases h
  | some j =>
    rw [e] at h
    exact r.get h

/-! ### keys of dicts -/
mutual
def D.keq : D → D → Bool
  | .int i, .int j => i == j
  | .str s, .str t => decide (s = t)
  | .tup xs, .tup ys => D.keqs xs ys
  | _, _ => false
def D.keqs : List D → List D → Bool
  | [], [] => true
  | x :: xs, y :: ys => D.keq x y && D.keqs xs ys
  | _, _ => false
end
def dGet (kvs : List (D × D)) (k : D) : Option D := (kvs.find? fun p => p.1.keq k).map (·.2)
/-- an int or a text -/
def D.key : D → Option Key
  | .int i => some (.inl i)
  | .str s => some (.inr s)
  | _ => none
def D.keys : List D → Option (List Key)
  | [] => some []
  | x :: xs => match x.key, D.keys xs with
    | some k, some ks => some (k :: ks)
    | _, _ => none
/-- a key of a dict that this layer serves -/
def D.isKey : D → Bool
  | .tup xs => (D.keys xs).isSome
  | d => d.key.isSome
theorem kD_key {d : D} {k : Key} (h : d.key = some k) : d = kD k := by
  cases d <;> cases h <;> rfl
theorem key_kD (k : Key) : (kD k).key = some k := by cases k <;> rfl
theorem keys_kD {ds : List D} {ks : List Key} (h : D.keys ds = some ks) : ds = ks.map kD := by
  induction ds generalizing ks with
  | nil => cases h; rfl
  | cons x xs ih =>
    unfold D.keys at h
    cases e1 : x.key with
    | none => rw [e1] at h; cases h
    | some k =>
      cases e2 : D.keys xs with
      | none => rw [e1, e2] at h; cases h
      | some r =>
        rw [e1, e2] at h
        cases h
        rw [List.map_cons, kD_key e1, ih e2]
theorem keq_kD (k j : Key) : (kD k).keq (kD j) = decide (k = j) := by
  cases k <;> cases j <;> unfold kD D.keq
  · exact (key_ll _ _).symm
  · exact (key_lr _ _).symm
  · exact (key_rl _ _).symm
  · exact (key_rr _ _).symm
theorem keqs_kD : ∀ ks js : List Key, D.keqs (ks.map kD) (js.map kD) = decide (ks = js)
  | [], [] => by unfold D.keqs; rfl
  | [], _ :: _ => by rw [List.map_nil, List.map_cons]; unfold D.keqs; rfl
  | _ :: _, [] => by rw [List.map_nil, List.map_cons]; unfold D.keqs; rfl
  | k :: ks, j :: js => by
    rw [List.map_cons, List.map_cons]
    unfold D.keqs
    rw [keq_kD, keqs_kD ks js]
    by_cases e : k = j <;> by_cases e2 : ks = js <;> simp [e, e2]
section
variable {K : PySem.W.Frag} {g : Gh} {H : Hp}
theorem RpAll.keys : ∀ {ks : List Key} {vs : List V}, RpAll K g H vs (ks.map kD) → vs = ks.map kV
  | [], _, .nil => rfl
  | k :: ks, _, .cons h t => by
    rw [List.map_cons, ← RpAll.keys t]
    cases k with
    | inl i => cases h; rfl
    | inr s => cases h; rfl
/-- the entry at a place -/
theorem find_get {κ : Type} [DecidableEq κ] (enc : κ → D) (hE : ∀ a b, (enc a).keq (enc b) = decide (a = b)) (k : κ) : ∀ {kvs : List (κ × V)} {kds : List (D × D)}, kds.map Prod.fst = kvs.map (fun p => enc p.1) → RpAll K g H (kvs.map (·.2)) (kds.map Prod.snd) →
    (dGet kds (enc k) = none ∧ valV kvs k = none) ∨ ∃ d v, dGet kds (enc k) = some d ∧ valV kvs k = some v ∧ Rp K g H v d
  | [], [], _, _ => .inl ⟨rfl, rfl⟩
  | [], _ :: _, h, _ => by simp at h
  | _ :: _, [], h, _ => by simp at h
  | (a, v) :: kvs, (b, d) :: kds, h, r => by
    rw [List.map_cons, List.map_cons] at h
    injection h with h1 h2
    cases r with
    | cons r1 r2 =>
      have h1 : b = enc a := h1
      subst h1
      by_cases e : a = k
      · refine .inr ⟨d, v, ?_, valV_pos e, r1⟩
        unfold dGet
        rw [List.find?_cons_of_pos (by rw [hE]; exact decide_eq_true e)]
        rfl
      · have q := find_get enc hE k h2 r2
        rw [valV_neg e]
        unfold dGet at q ⊢
        rw [List.find?_cons_of_neg (by rw [hE, decide_eq_false e]; exact Bool.false_ne_true)]
        exact q
/-- 1: an int or a text, 2: a tuple of such -/
def D.kk : D → Nat
  | .tup xs => if (D.keys xs).isSome = true then 2 else 0
  | d => if d.key.isSome = true then 1 else 0
def dOk (kds : List (D × D)) (k : D) : Bool := !kds.isEmpty && k.kk != 0 && kds.all fun p => p.1.kk == k.kk
theorem kk_kD (k : Key) : (kD k).kk = 1 := by cases k <;> rfl
theorem keys_map (ks : List Key) : D.keys (ks.map kD) = some ks := by
  induction ks with
  | nil => rfl
  | cons k ks ih =>
    rw [List.map_cons]
    unfold D.keys
    rw [key_kD, ih]
theorem kk_tup (ks : List Key) : (D.tup (ks.map kD)).kk = 2 := by
  show (if (D.keys (ks.map kD)).isSome = true then 2 else 0) = 2
  rw [keys_map]
  rfl
theorem kk1 {d : D} (h : d.kk = 1) : ∃ k, d = kD k := by
  unfold D.kk at h
  cases d with
  | tup xs => simp only at h; split at h <;> cases h
  | int i => exact ⟨.inl i, rfl⟩
  | str i => exact ⟨.inr i, rfl⟩
  | non => cases h
  | bl _ => cases h
  | lst _ => cases h
  | dct _ => cases h
  | ob _ => cases h
  | fn _ => cases h
  | scr _ => cases h
theorem kk2 {d : D} (h : d.kk = 2) : ∃ ks : List Key, d = .tup (ks.map kD) := by
  unfold D.kk at h
  cases d with
  | tup xs =>
    simp only at h
    cases e : D.keys xs with
    | none => rw [e] at h; cases h
    | some ks => exact ⟨ks, by rw [← keys_kD e]⟩
  | int i => cases h
  | str i => cases h
  | non => cases h
  | bl _ => cases h
  | lst _ => cases h
  | dct _ => cases h
  | ob _ => cases h
  | fn _ => cases h
  | scr _ => cases h
/-- a look into a dict -/
theorem RpB.dget {v w : V} {kds : List (D × D)} {k : D} (r : RpB K g H v (.dct kds)) (rk : RpB K g H w k) (hk : dOk kds k = true) :
    ∃ a, v = .ref a ∧ g.Z a ∧ ((dGet kds k = none ∧ DGet H a w none) ∨ ∃ d x, dGet kds k = some d ∧ DGet H a w (some x) ∧ Rp K g H x d) := by
  unfold dOk at hk
  simp only [Bool.and_eq_true, Bool.not_eq_true', bne_iff_ne, ne_eq, List.all_eq_true, beq_iff_eq] at hk
  obtain ⟨⟨he, hk0⟩, hall⟩ := hk
  rcases r with r | ⟨_, _, _, _, e2, _⟩
  · cases r with
    | @dct a ks vs _ z dc l ek ra =>
      refine ⟨a, rfl, z, ?_⟩
      cases kds with
      | nil => cases he
      | cons p kds =>
        have hp := hall p List.mem_cons_self
        rcases dc with ⟨kvs, hH, e1, e2⟩ | ⟨kvs, hH, e1, e2⟩
        · subst e2
          have hp1 : p.1.kk = 1 := by
            rw [e1] at ek
            cases kvs with
            | nil => simp at ek
            | cons q kvs =>
              rw [List.map_cons, List.map_cons] at ek
              injection ek with h1 _
              rw [h1]
              exact kk_kD _
          obtain ⟨q, rfl⟩ := kk1 (d := k) (by rw [← hp]; exact hp1)
          have ew : w = kV q := by
            cases q with
            | inl i => exact rk.int
            | inr s => exact rk.str
          subst ew
          rcases find_get kD keq_kD q (by rw [ek, e1]) ra with ⟨h1, h2⟩ | ⟨d, x, h1, h2, h3⟩
          · exact .inl ⟨h1, .inl ⟨kvs, q, .inl hH, rfl, h2.symm⟩⟩
          · exact .inr ⟨d, x, h1, .inl ⟨kvs, q, .inl hH, rfl, h2.symm⟩, h3⟩
        · subst e2
          have hp1 : p.1.kk = 2 := by
            rw [e1] at ek
            cases kvs with
            | nil => simp at ek
            | cons q kvs =>
              rw [List.map_cons, List.map_cons] at ek
              injection ek with h1 _
              rw [h1]
              exact kk_tup _
          obtain ⟨q, rfl⟩ := kk2 (d := k) (by rw [← hp]; exact hp1)
          obtain ⟨b, xs, ew, hb, _, rb⟩ := rk.seqT
          have ex := rb.keys
          subst ex
          rcases find_get (fun q : List Key => D.tup (q.map kD)) (fun a b => by
            show (D.tup _).keq (.tup _) = _
            unfold D.keq
            exact keqs_kD a b) q (by rw [ek, e1]) ra with ⟨h1, h2⟩ | ⟨d, x, h1, h2, h3⟩
          · exact .inl ⟨h1, .inr ⟨kvs, q, b, .inl hH, ew, hb, h2.symm⟩⟩
          · exact .inr ⟨d, x, h1, .inr ⟨kvs, q, b, .inl hH, ew, hb, h2.symm⟩, h3⟩
  · cases e2
end

section
variable {N : Nv} {W : XK} {X : Cx} {md : Md} {e a b : Expr} {es : List Expr} {f fa fb : Δ → M D} {g0 : G0} {g : Gh} {H0 H : Hp} {S : Store} {δ : Δ} {σ : L2.St} {Q : VK} {pos : Pos}
/-! ### a[b] -/
theorem RpB.obL {v : V} {i : Nat} {xs : List D} (st : StOk N.K g S H) (r : RpB N.K g H v (.ob i)) (hs : S[i]? = some (.ml xs)) : ∃ a vs, v = .ref a ∧ g.ρ[i]? = some a ∧ H a = some (.lst vs) ∧ vs.length ≤ sizeLine ∧ RpAll N.K g H vs xs := by
  rcases r with r | ⟨_, _, _, _, e2, _⟩
  · cases r with
    | ob h =>
      obtain ⟨vs, h1, h2, h3⟩ := st.at_ i _ _ h hs
      exact ⟨_, vs, rfl, h, h1, h2, h3⟩
  · cases e2
theorem RpB.scr {K : PySem.W.Frag} {v : V} {ns : List Int} (r : RpB K g H v (.scr ns)) : ∃ a, v = .ref a ∧ SqL K H a (ns.map V.int) ∧ ns.length ≤ sizeLine := by
  rcases r with r | ⟨_, _, _, _, e2, _⟩
  · cases r with
    | scr h l => exact ⟨_, rfl, h.sq, l⟩
  · cases e2
theorem RpAll.scrI {K : PySem.W.Frag} : ∀ ns : List Int, RpAll K g H (ns.map V.int) (ns.map D.int)
  | [] => .nil
  | n :: ns => .cons (.int n) (RpAll.scrI ns)
theorem atI_mapV {ns : List Int} {i j : Int} (h : L2.atI ns i = some j) : L2.atI (ns.map V.int) i = some (.int j) := by
  unfold L2.atI at h ⊢
  rw [List.length_map]
  cases e : ixN ns.length i with
  | none => rw [e] at h; cases h
  | some k =>
    rw [e] at h
    show (ns.map V.int)[k]? = _
    rw [List.getElem?_map, show ns[k]? = some j from h]
    rfl
/-- a shared list's items -/
def obM (i : Nat) : M (List D) := fun S => match S[i]? with
  | some (.ml xs) => .ok xs S
  | none => .stk
theorem Res.ofOb {α : Type} {R : Gh → Hp → α → Prop} {i : Nat} {k : List D → M α} (h : Res N W g H R (M.bind (obM i) k S)) : ∃ xs, S[i]? = some (.ml xs) ∧ Res N W g H R (k xs S) := by
  unfold M.bind obM at h
  cases e : S[i]? with
  | none => rw [e] at h; exact h.elim
  | some o =>
    cases o with
    | ml xs => rw [e] at h; exact ⟨xs, rfl, h⟩
def dIx : D → D → M D
  | .lst xs, .int i => M.opt (atI xs i)
  | .tup xs, .int i => M.opt (atI xs i)
  | .str s, .int i => if s.length ≤ sizeLine then M.opt ((atI s.cps.toList i).map fun c => .str ⟨#[c]⟩) else M.stuck
  | .dct kvs, k => if dOk kvs k = true then M.opt (dGet kvs k) else M.stuck
  | .ob n, .int i => M.bind (obM n) fun xs => M.opt (atI xs i)
  | .scr ns, .int i => M.opt ((atI ns i).map D.int)
  | _, _ => M.stuck
theorem opD_ix (hK : N.K = X.K) : OpD N W .fz (fun x y H Q => rIx X.K x y H Q ∨ ∃ a v, x = .ref a ∧ DGet H a y (some v) ∧ Q v H) dIx := fun x y v w g H S Q st rv rw q => by
  cases x with
  | lst xs =>
    cases y <;> first | exact q.elim | skip
    rename_i i
    obtain ⟨d, e, q⟩ := Res.ofOpt q
    obtain ⟨p, vs, e1, hs, hl, ra⟩ := rv.seqL
    obtain ⟨u, e2, ru⟩ := ra.atI e
    exact .inl (.inl ⟨p, vs, i, u, e1, rw.int, .of hs, e2, q.now st u ru⟩)
  | tup xs =>
    cases y <;> first | exact q.elim | skip
    rename_i i
    obtain ⟨d, e, q⟩ := Res.ofOpt q
    obtain ⟨p, vs, e1, hs, hl, ra⟩ := rv.seqT
    obtain ⟨u, e2, ru⟩ := ra.atI e
    exact .inl (.inr (.inl ⟨p, vs, i, u, e1, rw.int, .of hs, e2, q.now st u ru⟩))
  | str s =>
    cases y <;> first | exact q.elim | skip
    rename_i i
    obtain ⟨hl, q⟩ := Res.ite q
    obtain ⟨d, e, q⟩ := Res.ofOpt q
    rw [Option.map_eq_some_iff] at e
    obtain ⟨c, e, rfl⟩ := e
    exact .inl (.inr (.inr ⟨s, i, c, rv.str, rw.int, hl, e, q.now st _ (.str _)⟩))
  | dct kvs =>
    obtain ⟨hl, q⟩ := Res.ite q
    obtain ⟨d, e, q⟩ := Res.ofOpt q
    obtain ⟨a, e1, z, h⟩ := rv.dget rw hl
    rcases h with ⟨h, _⟩ | ⟨d', x, h, hd, rx⟩
    · rw [h] at e; cases e
    · rw [h] at e; cases e
      exact .inr ⟨a, x, e1, hd, q.now st x rx⟩
  | ob n =>
    cases y <;> first | exact q.elim | skip
    rename_i i
    obtain ⟨xs, hs, q⟩ := Res.ofOb q
    obtain ⟨d, e, q⟩ := Res.ofOpt q
    obtain ⟨p, vs, e1, _, hs, hl, ra⟩ := rv.obL st hs
    obtain ⟨u, e2, ru⟩ := ra.atI e
    exact .inl (.inl ⟨p, vs, i, u, e1, rw.int, .of hs, e2, q.now st u ru⟩)
  | scr ns =>
    cases y <;> first | exact q.elim | skip
    rename_i i
    obtain ⟨d, e, q⟩ := Res.ofOpt q
    obtain ⟨p, e1, hs, hl⟩ := rv.scr
    rw [Option.map_eq_some_iff] at e
    obtain ⟨j, e, rfl⟩ := e
    exact .inl (.inl ⟨p, _, i, .int j, e1, rw.int, hK ▸ hs, atI_mapV e, q.now st _ (.int _)⟩)
  | _ => exact q.elim
theorem de_ix {ma mb : Md} (hu : X.A.units + 1 < cLine) (ha : DE N W X ma a fa) (hb : DE N W X mb b fb) (hs : PlainIx b) (hK : N.K = X.K := by rfl) : DE N W X .fz (.Subscript a b pos) (f2 dIx fa fb) :=
  two_of (t := fun _ _ _ => True) (r := fun x y H Q => rIx X.K x y H Q ∨ ∃ a v, x = .ref a ∧ DGet H a y (some v) ∧ Q v H) (ma := ma) (mb := mb) (by
    refine ⟨fun pins s σ H Q I h => ?_⟩
    refine Subscript_ (binT ha hb I h fun v u s2 x y H2 I2 rx ry q => ?_)
    rcases q with q | ⟨p, z, ex, hd, q⟩
    · exact ix_seq a b pins s2 σ H2 x y v u Q I2 rx ry q (hs _ _)
    · subst ex
      obtain rfl : v = Value.ref p := rx
      refine tail_any (dict_typeIs I2 hd) PySem.F.slot_dict_getitem.lookup ?_ (hs _ _)
      exact d_getItem hu I2 hd ry fun w' s3 I3 rw' => ⟨z, H2, I3, rw', q⟩) (opD_ix hK)

/-! ### y in d, a dict -/
def dInD (y x : D) : M D := match x with
  | .dct kvs => if dOk kvs y = true then M.ret (.bl (dGet kvs y).isSome) else M.stuck
  | _ => M.stuck

/-! ### a[lo:hi] -/
def cutD (xs : List D) (lo hi : Option Int) : List D := (xs.drop (HT.sIx xs.length 0 lo)).take (HT.sIx xs.length xs.length hi - HT.sIx xs.length 0 lo)
theorem RpAll.cut {K : PySem.W.Frag} {vs : List V} {ds : List D} (r : RpAll K g H vs ds) (lo hi : Option Int) : RpAll K g H (cutV vs lo hi) (cutD ds lo hi) := by
  unfold cutV cutD
  rw [r.length]
  exact (r.drop _).take _
def DO (N : Nv) (W : XK) (X : Cx) (e : Option Expr) (f : Δ → M (Option Int)) : Prop :=
  PO X e (fun σ H Q => ∃ g0 H0 g S δ, Good N g0 H0 g S δ σ H ∧ Res N W g H (fun g' H' o => Q o H') (f δ S))
theorem _root_.L2.PO.imp {e : Option Expr} {t t' : TO} (h : PO X e t) (w : ∀ σ H Q, t' σ H Q → t σ H Q) : PO X e t' := ⟨fun pins s σ H Q I q => h.run pins s σ H Q I (w σ H Q q)⟩
theorem do_none : DO N W X none (fun _ => M.ret none) := po_none.imp fun σ H Q ⟨g0, H0, g, S, δ, G, q⟩ => q.now G.st
def D.toI : D → M (Option Int)
  | .int i => M.ret (some i)
  | _ => M.stuck
theorem do_some {ma : Md} (h : DE N W X ma e f) : DO N W X (some e) (fun δ => M.bind (f δ) D.toI) := (po_some h).imp fun σ H Q ⟨g0, H0, g, S, δ, G, q⟩ => tE.seq G q fun x S1 v H1 g1 k1 G1 rv q1 => by
  cases x <;> first | exact q1.elim | skip
  exact ⟨_, rv.bo.int, q1.now G1.st⟩
def dCut (x : D) (lo hi : Option Int) : M D := match x with
  | .lst xs => M.ret (.lst (cutD xs lo hi))
  | .tup xs => M.ret (.tup (cutD xs lo hi))
  | .scr ns => M.ret (.lst (cutD (ns.map D.int) lo hi))
  | .str s => if s.length ≤ sizeLine then M.ret (.str (cutS s lo hi)) else M.stuck
  | _ => M.stuck
def fCut (fa : Δ → M D) (fl fh : Δ → M (Option Int)) : Δ → M D := fun δ => M.bind (fa δ) fun x => M.bind (fl δ) fun l => M.bind (fh δ) fun h => dCut x l h
theorem Res.lstZ {xs : List V} {ds : List D} (st : StOk N.K g S H) (ra : RpAll N.K g H xs ds) (hl : xs.length ≤ sizeLine) (h : Res N W g H (fun g' H' d => ∀ v, RpM N.K H .fz g' H' v d → Q v H') (M.ret (.lst ds) S)) :
    ∀ p, H p = none → Q (.ref p) (upd H p (.lst xs)) := fun p hp => h.ret st (Ex.newZ hp) _ (.lst (.inl rfl) upd_same hl (ra.keep (Ex.newZ hp).kp))
theorem cut_whole {α : Type} (xs : List α) {l h : Nat} (e : l = 0 ∧ h = xs.length) : (xs.drop l).take (h - l) = xs := by
  obtain ⟨rfl, rfl⟩ := e
  simp
theorem PO.seq {β : Type} {m : Δ → M (Option Int)} {k : Option Int → M β} {R : Gh → Hp → β → Prop} {Q : Option Int → Hp → Prop} (G : Good N g0 H0 g S δ σ H) (r : Res N W g H R (M.bind (m δ) k S))
    (hk : ∀ x S1 H1 g1, Kp g H g1 H1 → Good N g0 H0 g1 S1 δ σ H1 → Res N W g1 H1 R (k x S1) → Q x H1) : ∃ g0 H0 g S δ, Good N g0 H0 g S δ σ H ∧ Res N W g H (fun g' H' o => Q o H') (m δ S) := by
  refine ⟨g0, H0, g, S, δ, G, ?_⟩
  have h := r.first
  cases e : m δ S with
  | ok a S1 =>
    rw [e] at h
    intro g' H' k' st
    obtain ⟨S', e', q⟩ := h g' H' k' st
    cases e'
    exact hk a S1 H' g' k' (G.later k' st) (q.later k')
  | err c x S1 => rw [e] at h; exact h
  | stk => rw [e] at h; exact h
theorem de_cut {ma : Md} {lo hi : Option Expr} {fl fh : Δ → M (Option Int)} {p2 : Pos} (ha : DE N W X ma a fa) (hl : DO N W X lo fl) (hh : DO N W X hi fh) (hK : N.K = X.K := by rfl) : DE N W X .fz (.Subscript a (.Slice lo hi none p2) pos) (fCut fa fl fh) :=
  (pe_slice (SlR.or sl_list (SlR.or sl_tupA sl_str)) ha hl hh).imp fun σ H Q ⟨g0, H0, g, S, δ, G, q⟩ => tE.seq G q fun x S1 v H1 g1 k1 G1 rv q1 => PO.seq G1 q1 fun l S2 H2 g2 k2 G2 q2 => PO.seq G2 q2 fun h S3 H3 g3 k3 G3 q3 => by
    have rv := (rv.bo.keep k2).keep k3
    cases x with
    | lst xs =>
      obtain ⟨p, vs, e1, hs, hl, ra⟩ := rv.seqL
      exact .inl ⟨p, vs, e1, .of hs, Res.lstZ G3.st (ra.cut l h) (Nat.le_trans (cutV_length _ _ _) hl) q3⟩
    | tup xs =>
      obtain ⟨p, vs, e1, hs, hl, ra⟩ := rv.seqT
      refine .inr (.inl ⟨p, vs, e1, .of hs, fun e => ?_, fun _ => Res.tup G3.st (ra.cut l h) (Nat.le_trans (cutV_length _ _ _) hl) q3⟩)
      refine Res.now G3.st q3 _ ?_
      unfold cutD
      rw [cut_whole xs (by rw [← ra.length]; exact e)]
      exact .tup hs hl ra
    | str s =>
      obtain ⟨hl, q⟩ := Res.ite q3
      exact .inr (.inr ⟨s, rv.str, hl, q.now G3.st _ (.str _)⟩)
    | scr ns =>
      obtain ⟨p, e1, hs, hl⟩ := rv.scr
      exact .inl ⟨p, _, e1, hK ▸ hs, Res.lstZ G3.st ((RpAll.scrI ns).cut l h) (Nat.le_trans (cutV_length _ _ _) (by rw [List.length_map]; exact hl)) q3⟩
    | _ => exact q3.elim

/-! ### built-ins of one argument -/
def C1 (N : Nv) (W : XK) (md : Md) (r : List V → Hp → VK → Prop) (k : D → M D) : Prop := ∀ x v g H S Q, StOk N.K g S H → RpB N.K g H v x → Res N W g H (fun g' H' d => ∀ u, RpM N.K H md g' H' u d → Q u H') (k x S) → r [v] H Q
theorem one_of {t : TE} {r : List V → Hp → VK → Prop} {k : D → M D} {ma : Md} (h : PE X e (tCB r (tCons (tE N W ma fa) tNil))) (hk : C1 N W md r k) : DE N W X md e (f1 k fa) :=
  h.imp fun σ H Q ⟨g0, H0, g, S, δ, G, q⟩ => tE.seq G q fun x S1 v H1 g1 k1 G1 rv q1 => hk x v g1 H1 S1 Q G1.st rv.bo (q1.mono (.refl _ _) fun g' H' d k' q u ru => q u (ru.down fun a h => k1.kd a h))
theorem de_cb {id : String} {x : Str} {p : Pos} {r : List V → Hp → VK → Prop} {k : D → M D} {ma : Md} (hc : CallR X (.builtin id) r) (hk : C1 N W md r k) (hg : Gl X x) (hm : X.mg x = none) (hv : bootBuiltins x = some (.builtin id)) (ha : DE N W X ma a fa)
    (hn : x ≠ "__name__" := by decide) (hdb : (x == ("__debug__" : Str)) = false := by decide) (he : starEach [a] X.env = (false, eval a X.env) :: starEach [] X.env := by rfl) (hpl : (backTo pos (starEach [] X.env)).any (·.1) = false := by rfl) : DE N W X md (.Call (.Name x p) [a] [] pos) (f1 k fa) :=
  one_of (t := fun _ _ _ => True) (pe_callB hc hg hm hv (pa_cons ha pa_nil he) hn hdb he hpl) hk
theorem de_ct {T : String} {x : Str} {p : Pos} {r : List V → Hp → VK → Prop} {k : D → M D} {ma : Md} (hc : CallR X (.type T) r) (hk : C1 N W md r k) (hg : Gl X x) (hm : X.mg x = none) (hv : bootBuiltins x = some (.type T)) (ha : DE N W X ma a fa)
    (hn : x ≠ "__name__" := by decide) (hdb : (x == ("__debug__" : Str)) = false := by decide) (he : starEach [a] X.env = (false, eval a X.env) :: starEach [] X.env := by rfl) (hpl : (backTo pos (starEach [] X.env)).any (·.1) = false := by rfl) : DE N W X md (.Call (.Name x p) [a] [] pos) (f1 k fa) :=
  one_of (t := fun _ _ _ => True) (pe_callTy hc hg hm hv (pa_cons ha pa_nil he) hn hdb he hpl) hk

def dLen : D → M D
  | .lst xs => M.ret (.int xs.length)
  | .tup xs => M.ret (.int xs.length)
  | .dct kvs => M.ret (.int kvs.length)
  | .str s => if s.length ≤ sizeLine then M.ret (.int s.length) else M.stuck
  | .ob n => M.bind (obM n) fun xs => M.ret (.int xs.length)
  | .scr ns => M.ret (.int ns.length)
  | _ => M.stuck
theorem dcAt_len {ks : List D} {vs : List V} {p : Addr} (h : DcAt H p ks vs) : ks.length = vs.length := by
  rcases h with ⟨kvs, _, e1, e2⟩ | ⟨kvs, _, e1, e2⟩ <;> rw [e1, e2] <;> simp
theorem de_len {x : Str} {p : Pos} {ma : Md} (hg : Gl X x) (hm : X.mg x = none) (hv : bootBuiltins x = some (.builtin "len")) (ha : DE N W X ma a fa)
    (hn : x ≠ "__name__" := by decide) (hdb : (x == ("__debug__" : Str)) = false := by decide) (he : starEach [a] X.env = (false, eval a X.env) :: starEach [] X.env := by rfl) (hpl : (backTo pos (starEach [] X.env)).any (·.1) = false := by rfl) (hK : N.K = X.K := by rfl) : DE N W X .fz (.Call (.Name x p) [a] [] pos) (f1 dLen fa) :=
  de_cb (CallR.or call_len_seq (CallR.or call_len_str (CallR.or call_lenD call_len_dT))) (fun x v g H S Q st rv q => by
    cases x with
    | lst xs =>
      obtain ⟨p, vs, e1, hs, hl, ra⟩ := rv.seqL
      refine .inl ⟨p, vs, by rw [e1], .inl (.of hs), ?_⟩
      rw [ra.length]
      exact q.now st _ (.int _)
    | tup xs =>
      obtain ⟨p, vs, e1, hs, hl, ra⟩ := rv.seqT
      refine .inl ⟨p, vs, by rw [e1], .inr (.of hs), ?_⟩
      rw [ra.length]
      exact q.now st _ (.int _)
    | scr ns =>
      obtain ⟨p, e1, hs, hl⟩ := rv.scr
      refine .inl ⟨p, _, by rw [e1], .inl (hK ▸ hs), ?_⟩
      rw [List.length_map]
      exact q.now st _ (.int _)
    | ob n =>
      obtain ⟨xs, hs, q⟩ := Res.ofOb q
      obtain ⟨p, vs, e1, _, hs, hl, ra⟩ := rv.obL st hs
      refine .inl ⟨p, vs, by rw [e1], .inl (.of hs), ?_⟩
      rw [ra.length]
      exact q.now st _ (.int _)
    | str s =>
      obtain ⟨hl, q⟩ := Res.ite q
      exact .inr (.inl ⟨s, by rw [rv.str], hl, q.now st _ (.int _)⟩)
    | dct kvs =>
      rcases rv with r | ⟨_, _, _, _, e2, _⟩
      · cases r with
        | @dct _ ks vs _ z dc l ek ra =>
          have hl : kvs.length = ks.length := by have := congrArg List.length ek; rw [List.length_map] at this; exact this
          rcases dc with ⟨qs, hH, e1, e2⟩ | ⟨qs, hH, e1, e2⟩
          · refine .inr (.inr (.inl ⟨_, qs, rfl, hH, ?_⟩))
            have : qs.length = kvs.length := by rw [hl, e1, List.length_map]
            rw [this]
            exact q.now st _ (.int _)
          · refine .inr (.inr (.inr ⟨_, qs, rfl, hH, ?_⟩))
            have : qs.length = kvs.length := by rw [hl, e1, List.length_map]
            rw [this]
            exact q.now st _ (.int _)
      · cases e2
    | _ => exact q.elim) hg hm hv ha hn hdb he hpl
def dAbs : D → M D
  | .int i => M.ret (.int (if i < 0 then -i else i))
  | _ => M.stuck
theorem de_abs {x : Str} {p : Pos} {ma : Md} (hg : Gl X x) (hm : X.mg x = none) (hv : bootBuiltins x = some (.builtin "abs")) (ha : DE N W X ma a fa)
    (hn : x ≠ "__name__" := by decide) (hdb : (x == ("__debug__" : Str)) = false := by decide) (he : starEach [a] X.env = (false, eval a X.env) :: starEach [] X.env := by rfl) (hpl : (backTo pos (starEach [] X.env)).any (·.1) = false := by rfl) : DE N W X .fz (.Call (.Name x p) [a] [] pos) (f1 dAbs fa) :=
  de_cb call_abs (fun x v g H S Q st rv q => by
    cases x <;> first | exact q.elim | skip
    exact ⟨_, by rw [rv.int], q.now st _ (.int _)⟩) hg hm hv ha hn hdb he hpl
def dInt : D → M D
  | .int i => M.ret (.int i)
  | .bl b => M.ret (.int (if b then 1 else 0))
  | _ => M.stuck
theorem de_toInt {x : Str} {p : Pos} {ma : Md} (hg : Gl X x) (hm : X.mg x = none) (hv : bootBuiltins x = some (.type "int")) (ha : DE N W X ma a fa)
    (hn : x ≠ "__name__" := by decide) (hdb : (x == ("__debug__" : Str)) = false := by decide) (he : starEach [a] X.env = (false, eval a X.env) :: starEach [] X.env := by rfl) (hpl : (backTo pos (starEach [] X.env)).any (·.1) = false := by rfl) : DE N W X .fz (.Call (.Name x p) [a] [] pos) (f1 dInt fa) :=
  de_ct call_int1 (fun x v g H S Q st rv q => by
    cases x <;> first | exact q.elim | skip
    · rename_i b
      exact .inr ⟨b, by rw [rv.bl], q.now st _ (.int _)⟩
    · exact .inl ⟨_, by rw [rv.int], q.now st _ (.int _)⟩) hg hm hv ha hn hdb he hpl
def dTup : D → M D
  | .lst xs => M.ret (.tup xs)
  | .tup xs => M.ret (.tup xs)
  | _ => M.stuck
theorem de_toTup {x : Str} {p : Pos} {ma : Md} (hg : Gl X x) (hm : X.mg x = none) (hv : bootBuiltins x = some (.type "tuple")) (ha : DE N W X ma a fa)
    (hn : x ≠ "__name__" := by decide) (hdb : (x == ("__debug__" : Str)) = false := by decide) (he : starEach [a] X.env = (false, eval a X.env) :: starEach [] X.env := by rfl) (hpl : (backTo pos (starEach [] X.env)).any (·.1) = false := by rfl) (hK : N.K = X.K := by rfl) : DE N W X .fz (.Call (.Name x p) [a] [] pos) (f1 dTup fa) :=
  de_ct call_tuple_of (fun x v g H S Q st rv q => by
    cases x <;> first | exact q.elim | skip
    · obtain ⟨p, vs, e1, hs, hl, ra⟩ := rv.seqL
      exact ⟨p, vs, by rw [e1], .inl ⟨.of hs, Res.tup st ra hl q⟩⟩
    · obtain ⟨p, vs, e1, hs, hl, ra⟩ := rv.seqT
      exact ⟨p, vs, by rw [e1], .inr ⟨.of hs, q.now st _ (.tup hs hl ra)⟩⟩) hg hm hv ha hn hdb he hpl
def dList : D → M D
  | .lst xs => M.ret (.lst xs)
  | .tup xs => M.ret (.lst xs)
  | _ => M.stuck
theorem de_toList {x : Str} {p : Pos} {ma : Md} (hg : Gl X x) (hm : X.mg x = none) (hv : bootBuiltins x = some (.type "list")) (ha : DE N W X ma a fa)
    (hn : x ≠ "__name__" := by decide) (hdb : (x == ("__debug__" : Str)) = false := by decide) (he : starEach [a] X.env = (false, eval a X.env) :: starEach [] X.env := by rfl) (hpl : (backTo pos (starEach [] X.env)).any (·.1) = false := by rfl) (hK : N.K = X.K := by rfl) : DE N W X .fr (.Call (.Name x p) [a] [] pos) (f1 dList fa) :=
  de_ct call_list_of (fun x v g H S Q st rv q => by
    cases x <;> first | exact q.elim | skip
    · obtain ⟨p, vs, e1, hs, hl, ra⟩ := rv.seqL
      exact ⟨p, vs, by rw [e1], .inl (.of hs), Res.lst st ra hl q⟩
    · obtain ⟨p, vs, e1, hs, hl, ra⟩ := rv.seqT
      exact ⟨p, vs, by rw [e1], .inr (.of hs), Res.lst st ra hl q⟩) hg hm hv ha hn hdb he hpl
/-- a list of ints, of truths -/
def D.ints : List D → Option (List Int)
  | [] => some []
  | .int i :: r => (D.ints r).map (i :: ·)
  | _ => none
def D.bls : List D → Option (List Bool)
  | [] => some []
  | .bl i :: r => (D.bls r).map (i :: ·)
  | _ => none
theorem RpAll.ints {K : PySem.W.Frag} : ∀ {ds : List D} {vs : List V} {ns : List Int}, RpAll K g H vs ds → D.ints ds = some ns → vs = ns.map V.int
  | [], _, _, r, h => by cases r; cases h; rfl
  | d :: ds, _, ns, .cons (v := v) a b, h => by
    cases d with
    | int i =>
      unfold D.ints at h
      cases e : D.ints ds with
      | none => rw [e] at h; cases h
      | some ms =>
        rw [e] at h
        cases h
        cases a
        rw [RpAll.ints b e]
        rfl
    | _ => unfold D.ints at h; cases h
theorem RpAll.bls {K : PySem.W.Frag} : ∀ {ds : List D} {vs : List V} {ns : List Bool}, RpAll K g H vs ds → D.bls ds = some ns → vs = ns.map V.bl
  | [], _, _, r, h => by cases r; cases h; rfl
  | d :: ds, _, ns, .cons (v := v) a b, h => by
    cases d with
    | bl i =>
      unfold D.bls at h
      cases e : D.bls ds with
      | none => rw [e] at h; cases h
      | some ms =>
        rw [e] at h
        cases h
        cases a
        rw [RpAll.bls b e]
        rfl
    | _ => unfold D.bls at h; cases h
theorem ints_map : ∀ ns : List Int, D.ints (ns.map D.int) = some ns
  | [] => rfl
  | n :: ns => by
    rw [List.map_cons]
    unfold D.ints
    rw [ints_map ns]
    rfl
theorem bls_map : ∀ ns : List Bool, D.bls (ns.map D.bl) = some ns
  | [] => rfl
  | n :: ns => by
    rw [List.map_cons]
    unfold D.bls
    rw [bls_map ns]
    rfl
def dSum : D → M D
  | .lst xs => M.bind (M.opt (D.ints xs)) fun ns => M.ret (.int ns.sum)
  | _ => M.stuck
theorem de_sum {x : Str} {p : Pos} {ma : Md} (hc : X.calm = true) (hg : Gl X x) (hm : X.mg x = none) (hv : bootBuiltins x = some (.builtin "sum")) (ha : DE N W X ma a fa)
    (hn : x ≠ "__name__" := by decide) (hdb : (x == ("__debug__" : Str)) = false := by decide) (he : starEach [a] X.env = (false, eval a X.env) :: starEach [] X.env := by rfl) (hpl : (backTo pos (starEach [] X.env)).any (·.1) = false := by rfl) (hK : N.K = X.K := by rfl) : DE N W X .fz (.Call (.Name x p) [a] [] pos) (f1 dSum fa) :=
  de_cb (cr_sum hc) (fun x v g H S Q st rv q => by
    cases x <;> first | exact q.elim | skip
    rename_i xs
    obtain ⟨p, vs, e1, hs, hl, ra⟩ := rv.seqL
    have q : Res N W g H _ (M.bind (M.opt (D.ints xs)) (fun ns => M.ret (D.int ns.sum)) S) := q
    cases e : D.ints xs with
    | none => rw [e] at q; exact q.elim
    | some ns =>
      rw [e] at q
      rw [ra.ints e] at hs
      exact ⟨p, ns, by rw [e1], .of hs, Res.now (a := D.int ns.sum) st q _ (.int _)⟩) hg hm hv ha hn hdb he hpl
def dAll : D → M D
  | .lst xs => M.bind (M.opt (D.bls xs)) fun ns => M.ret (.bl (ns.all id))
  | _ => M.stuck
def dAny : D → M D
  | .lst xs => M.bind (M.opt (D.bls xs)) fun ns => M.ret (.bl (ns.any id))
  | _ => M.stuck
theorem de_all {x : Str} {p : Pos} {ma : Md} (hc : X.calm = true) (hg : Gl X x) (hm : X.mg x = none) (hv : bootBuiltins x = some (.builtin "all")) (ha : DE N W X ma a fa)
    (hn : x ≠ "__name__" := by decide) (hdb : (x == ("__debug__" : Str)) = false := by decide) (he : starEach [a] X.env = (false, eval a X.env) :: starEach [] X.env := by rfl) (hpl : (backTo pos (starEach [] X.env)).any (·.1) = false := by rfl) (hK : N.K = X.K := by rfl) : DE N W X .fz (.Call (.Name x p) [a] [] pos) (f1 dAll fa) :=
  de_cb (cr_all hc) (fun x v g H S Q st rv q => by
    cases x <;> first | exact q.elim | skip
    rename_i xs
    obtain ⟨p, vs, e1, hs, hl, ra⟩ := rv.seqL
    have q : Res N W g H _ (M.bind (M.opt (D.bls xs)) (fun ns => M.ret (D.bl (ns.all id))) S) := q
    cases e : D.bls xs with
    | none => rw [e] at q; exact q.elim
    | some ns =>
      rw [e] at q
      rw [ra.bls e] at hs
      exact ⟨p, ns, by rw [e1], .of hs, Res.now (a := D.bl (ns.all id)) st q _ (.bl _)⟩) hg hm hv ha hn hdb he hpl
theorem de_any {x : Str} {p : Pos} {ma : Md} (hc : X.calm = true) (hg : Gl X x) (hm : X.mg x = none) (hv : bootBuiltins x = some (.builtin "any")) (ha : DE N W X ma a fa)
    (hn : x ≠ "__name__" := by decide) (hdb : (x == ("__debug__" : Str)) = false := by decide) (he : starEach [a] X.env = (false, eval a X.env) :: starEach [] X.env := by rfl) (hpl : (backTo pos (starEach [] X.env)).any (·.1) = false := by rfl) (hK : N.K = X.K := by rfl) : DE N W X .fz (.Call (.Name x p) [a] [] pos) (f1 dAny fa) :=
  de_cb (cr_any hc) (fun x v g H S Q st rv q => by
    cases x <;> first | exact q.elim | skip
    rename_i xs
    obtain ⟨p, vs, e1, hs, hl, ra⟩ := rv.seqL
    have q : Res N W g H _ (M.bind (M.opt (D.bls xs)) (fun ns => M.ret (D.bl (ns.any id))) S) := q
    cases e : D.bls xs with
    | none => rw [e] at q; exact q.elim
    | some ns =>
      rw [e] at q
      rw [ra.bls e] at hs
      exact ⟨p, ns, by rw [e1], .of hs, Res.now (a := D.bl (ns.any id)) st q _ (.bl _)⟩) hg hm hv ha hn hdb he hpl
end
end DL

set_option Elab.async false
set_option linter.all false
set_option maxRecDepth 100000
set_option maxHeartbeats 4000000
/-! DL4b: l.extend(t), t a tuple. -/
namespace DL
open PySem PySem.Spec PyProof.Rows L2
theorem list_extend_tup (l : Addr) (items : Array Value) (n : Nat) (b : Addr) (items2 : Array Value) (n2 : Nat) (dd : Option Addr) (sl : Array (Option Value)) (hs0 : ¬(!items.isEmpty && Builtin.List.listTooLong (items.size + items2.size)) = true) (hs1 : items.size ≤ sizeLine) (hs2 : items.size + items2.size ≤ sizeLine + 1) :
    Meets (Builtin.«list.extend» ⟨[.ref l, .ref b], []⟩) (fun _ R s => s.heap.get? l = some { cls := .type "list", dict := none, data := .seq items n, slots := #[] } ∧ s.heap.get? b = some { cls := .type "tuple", dict := dd, data := .seq items2 n2, slots := sl } ∧ R (.ok (.ret Value.none)) { s with heap := s.heap.update l (Obj.mapSeq fun x => x ++ items2), toks := s.toks }) :=
  .of_wp fun prog w A R s h => by
    obtain ⟨hp, g, d, tk, os⟩ := s
    obtain ⟨hl, hb, h⟩ := h
    have f1 := AutoSeq1.idx_int
    have f2 := AutoSeq1.sub_tuple_tuple
    have f3 := AutoSeq1.sub_list_list
    have f4 := AutoSeq1.sub_tuple_list
    have f5 := AutoSeq1.sub_list_tuple
    have hz' : (items ++ items2).size ≤ sizeLine + 1 := by rw [Array.size_append]; exact hs2
    wp_walk using (wpAny_updateSeq hl rfl (hz := hs1) (_hz' := hz')), wpAny_loadPart' hl, wpAny_loadPart' hb
    exact ⟨_, rfl, h⟩
section
variable {X : Cx}
def rExtendB : V → List V → Hp → VK → Prop := fun x vs H Q => ∃ l b xs zs, x = .ref l ∧ vs = [.ref b] ∧ H l = some (.lst xs) ∧ (H b = some (.lst zs) ∨ H b = some (.tup zs)) ∧ xs.length + zs.length ≤ sizeLine ∧ Q .non (upd H l (.lst (xs ++ zs)))
theorem mt_extendB : MtM X "list.extend" rExtendB := by
  intro pins s σ H x vs v us Q I rx rv h
  obtain ⟨l, b, xs, zs, hx, hv, hH, hB | hB, hz, q⟩ := h
  · exact mt_extend pins s σ H x vs v us Q I rx rv ⟨l, b, xs, zs, hx, hv, hH, hB, hz, q⟩
  subst hx hv
  cases rx
  obtain ⟨u, rfl, ru⟩ := rv.one
  cases ru
  obtain ⟨z, its, n, r, hl, e⟩ := I.lstM hH
  obtain ⟨its2, r2, ⟨⟨cls, dd, data, sl⟩, e2, hc, n2, hd⟩, hl2⟩ := I.tuple (.of hB)
  simp only at hc hd
  subst hc hd
  have hl2 : zs.length = its2.length := r2.length
  have hsz : its.toArray.size + its2.toArray.size ≤ sizeLine := by rw [List.size_toArray, List.size_toArray]; omega
  have hlong : ¬ (!its.toArray.isEmpty && Builtin.List.listTooLong (its.toArray.size + its2.toArray.size)) = true := by
    rw [notLongL hsz, Bool.and_false]
    exact Bool.false_ne_true
  refine call_meets F.slot_list_extend ⟨_, e, rfl⟩ F.entry_list_extend (F.args_list_extend_2 _ _)
    (list_extend_tup l its.toArray n b its2.toArray n2 dd sl hlong (by rw [List.size_toArray]; omega) (by omega)) ⟨e, e2, ?_⟩
  refine ⟨.non, _, I.lset (its' := its ++ its2) hH e (by simp) (r.append r2) ?_, rfl, q⟩
  rw [List.length_append]
  omega
end
end DL

set_option Elab.async false
set_option linter.all false
set_option maxRecDepth 100000
set_option maxHeartbeats 4000000
/-! DL4: statements, targets, loops, comprehensions, calls, defs. -/
namespace DL
open PySem PySem.Spec PyProof.Rows L2

/-! ### an own list changes -/
section
variable {N : Nv} {g0 : G0} {g : Gh} {H0 H : Hp} {S : Store} {δ : Δ} {σ : L2.St}
theorem Kq.mut {a : Addr} {xs ys : List V} (h : H a = some (.lst xs)) (nz : ¬ g.Z a) : Kq g H g (upd H a (.lst ys)) where
  z := fun _ h => h
  r := ⟨[], by simp⟩
  kz := fun b o z e => by rw [upd_ne (show b ≠ a from fun q => nz (by rw [← q]; exact z))]; exact e
  kt := fun b zs e => by rw [upd_ne (fun q => by rw [q, h] at e; cases e)]; exact e
  kf := fun b o u e => by rw [upd_ne (fun q => by rw [q, h] at e; cases e)]; exact e
theorem Kp.mut {gb : Gh} {a : Addr} {xs ys : List V} (k : Kp gb H0 g H) (h : H a = some (.lst xs)) (h0 : H0 a = none) : Kp gb H0 g (upd H a (.lst ys)) where
  z := k.z
  r := k.r
  zf := k.zf
  rf := k.rf
  kd := fun b e => k.kd b (by
    by_cases q : b = a
    · rw [q, upd_same] at e; cases e
    · rw [upd_ne q] at e; exact e)
  kz := fun b o z e => by rw [upd_ne (ne_of_none e h0)]; exact k.kz b o z e
  kt := fun b o e => by rw [upd_ne (ne_of_none e h0)]; exact k.kt b o e
  kf := fun b o u e => by rw [upd_ne (ne_of_none e h0)]; exact k.kf b o u e
  kr := fun b o e n => by rw [upd_ne (ne_of_none e h0)]; exact k.kr b o e n
theorem StOk.mut {a : Addr} {xs ys : List V} {K : PySem.W.Frag} (st : StOk K g S H) (h : H a = some (.lst xs)) (nz : ¬ g.Z a) (nr : a ∉ g.ρ) : StOk K g S (upd H a (.lst ys)) where
  len := st.len
  nd := st.nd
  nz := st.nz
  zt := fun b z => by rw [upd_ne (show b ≠ a from fun q => nz (by rw [← q]; exact z))]; exact st.zt b z
  at_ := fun i b o h1 h2 => (st.at_ i b o h1 h2).keep (Kq.mut h nz) (upd_ne (show b ≠ a from fun q => nr (by rw [← q]; exact List.mem_of_getElem? h1)))
theorem getElem?_set_eq {α : Type} {l : List α} {i j : Nat} {x y : α} (h : (l.set i x)[j]? = some y) : (j = i ∧ x = y) ∨ (j ≠ i ∧ l[j]? = some y) := by
  by_cases e : i = j
  · subst e
    left
    have hl : i < l.length := by
      have := (List.getElem?_eq_some_iff.mp h).1
      simpa using this
    rw [List.getElem?_set_self hl] at h
    exact ⟨rfl, Option.some.inj h⟩
  · right
    rw [List.getElem?_set_ne e] at h
    exact ⟨fun q => e q.symm, h⟩
/-- the own list of slot i holds other items -/
theorem Good.mut (G : Good N g0 H0 g S δ σ H) {i : Nat} {ds ds' : List D} {vs' : List V} {a : Addr} (hi : δ[i]? = some (some (.own ds))) (hs : σ[i]? = some (some (.ref a))) (hl : vs'.length ≤ sizeLine) (ra : RpAll N.K g H vs' ds') :
    Good N g0 H0 g S (δ.set i (some (.own ds'))) σ (upd H a (.lst vs')) := by
  obtain ⟨v, e, a', vs, ev, h0, h1, nz, nr, _, _⟩ := G.sl i _ hi
  rw [hs] at e
  cases e
  cases ev
  have q : Kq g H g (upd H a (.lst vs')) := Kq.mut h1 nz
  refine ⟨fun j s hj => ?_, by rw [List.length_set]; exact G.len, fun j k xs ys v hj hk => ?_, G.st.mut h1 nz nr, G.kp.mut h1 h0, fun p hp => (G.ck p hp).trans q⟩
  · rcases getElem?_set_eq hj with ⟨rfl, e⟩ | ⟨hne, hj⟩
    · cases e
      exact ⟨.ref a, hs, a, vs', rfl, h0, upd_same, nz, nr, hl, ra.keepQ q⟩
    · obtain ⟨v, e, r⟩ := G.sl j s hj
      refine ⟨v, e, ?_⟩
      cases s with
      | d d => exact Rp.keepQ q r
      | own es =>
        obtain ⟨b, ws, ev, k0, k1, k2, k3, k4, k5⟩ := r
        subst ev
        have hba : b ≠ a := fun z => hne (G.dis j i es ds _ hj hi e (by rw [hs, z]))
        exact ⟨b, ws, rfl, k0, by rw [upd_ne hba]; exact k1, k2, k3, k4, k5.keepQ q⟩
  · have old : ∀ {j : Nat} {xs : List D}, (δ.set i (some (.own ds')))[j]? = some (some (.own xs)) → ∃ ys, δ[j]? = some (some (.own ys)) := fun {j xs} h => by
      rcases getElem?_set_eq h with ⟨rfl, _⟩ | ⟨_, h⟩
      · exact ⟨_, hi⟩
      · exact ⟨_, h⟩
    obtain ⟨x1, e1⟩ := old hj
    obtain ⟨x2, e2⟩ := old hk
    exact G.dis j k x1 x2 v e1 e2
/-- a slot gets data -/
theorem Good.set (G : Good N g0 H0 g S δ σ H) {i : Nat} {v : V} {d : D} (r : Rp N.K g H v d) : Good N g0 H0 g S (δ.set i (some (.d d))) (σ.set i (some v)) H := by
  refine ⟨fun j s hj => ?_, by rw [List.length_set, List.length_set]; exact G.len, fun j k xs ys u hj hk h1 h2 => ?_, G.st, G.kp, G.ck⟩
  · rcases getElem?_set_eq hj with ⟨rfl, e⟩ | ⟨hne, hj⟩
    · cases e
      have hl : j < σ.length := by
        rw [← G.len]
        have := (List.getElem?_eq_some_iff.mp ‹_›).1
        simpa using this
      exact ⟨v, List.getElem?_set_self hl, r⟩
    · obtain ⟨u, e, q⟩ := G.sl j s hj
      exact ⟨u, by rw [List.getElem?_set_ne (fun z => hne z.symm)]; exact e, q⟩
  · rcases getElem?_set_eq hj with ⟨_, e⟩ | ⟨n1, hj⟩
    · cases e
    · rcases getElem?_set_eq hk with ⟨_, e⟩ | ⟨n2, hk⟩
      · cases e
      · rw [List.getElem?_set_ne (fun z => n1 z.symm)] at h1
        rw [List.getElem?_set_ne (fun z => n2 z.symm)] at h2
        exact G.dis j k xs ys u hj hk h1 h2
/-- a slot gets a new list -/
theorem Good.setOwn (G : Good N g0 H0 g S δ σ H) {i : Nat} {a : Addr} {vs : List V} {ds : List D} (h0 : H0 a = none) (hf : ∀ (j : Nat) (v : V) (es : List D), δ[j]? = some (some (.own es)) → σ[j]? = some (some v) → v ≠ .ref a) (h1 : H a = some (.lst vs)) (nz : ¬ g.Z a) (nr : a ∉ g.ρ) (hl : vs.length ≤ sizeLine) (ra : RpAll N.K g H vs ds) :
    Good N g0 H0 g S (δ.set i (some (.own ds))) (σ.set i (some (.ref a))) H := by
  refine ⟨fun j s hj => ?_, by rw [List.length_set, List.length_set]; exact G.len, fun j k xs ys u hj hk h1 h2 => ?_, G.st, G.kp, G.ck⟩
  · rcases getElem?_set_eq hj with ⟨rfl, e⟩ | ⟨hne, hj⟩
    · cases e
      have hl' : j < σ.length := by
        rw [← G.len]
        have := (List.getElem?_eq_some_iff.mp ‹_›).1
        simpa using this
      exact ⟨.ref a, List.getElem?_set_self hl', a, vs, rfl, h0, h1, nz, nr, hl, ra⟩
    · obtain ⟨u, e, q⟩ := G.sl j s hj
      exact ⟨u, by rw [List.getElem?_set_ne (fun z => hne z.symm)]; exact e, q⟩
  · rcases getElem?_set_eq hj with ⟨e1, e⟩ | ⟨n1, hj⟩
    · rcases getElem?_set_eq hk with ⟨e2, _⟩ | ⟨n2, hk⟩
      · rw [e1, e2]
      · subst e1
        rw [List.getElem?_set_ne (fun z => n2 z.symm)] at h2
        have hl' : j < σ.length := by
          have := (List.getElem?_eq_some_iff.mp h1).1
          simpa using this
        rw [List.getElem?_set_self hl'] at h1
        cases h1
        rcases getElem?_set_eq hk with ⟨q, _⟩ | ⟨_, hk⟩
        · exact q.symm
        · exact absurd rfl (hf k _ ys hk h2)
    · rcases getElem?_set_eq hk with ⟨e2, _⟩ | ⟨n2, hk⟩
      · subst e2
        rw [List.getElem?_set_ne (fun z => n1 z.symm)] at h1
        have hl' : k < σ.length := by
          have := (List.getElem?_eq_some_iff.mp h2).1
          simpa using this
        rw [List.getElem?_set_self hl'] at h2
        cases h2
        rcases getElem?_set_eq hj with ⟨q, _⟩ | ⟨_, hj⟩
        · exact q
        · exact absurd rfl (hf j _ xs hj h1)
      · rw [List.getElem?_set_ne (fun z => n1 z.symm)] at h1
        rw [List.getElem?_set_ne (fun z => n2 z.symm)] at h2
        exact G.dis j k xs ys u hj hk h1 h2
/-- the own list of a slot -/
def own? (δ : Δ) (i : Nat) : Option (List D) := match δ[i]? with
  | some (some (.own ds)) => some ds
  | _ => none
theorem own?_some {δ : Δ} {i : Nat} {ds : List D} (h : own? δ i = some ds) : δ[i]? = some (some (.own ds)) := by
  unfold own? at h
  cases e : δ[i]? with
  | none => rw [e] at h; cases h
  | some o =>
    rw [e] at h
    cases o with
    | none => cases h
    | some s =>
      cases s with
      | d _ => cases h
      | own es => cases h; rfl
/-- an own list is frozen -/
theorem Good.freeze (G : Good N g0 H0 g S δ σ H) {i : Nat} {ds : List D} (hi : δ[i]? = some (some (.own ds))) : ∃ g', Good N g0 H0 g' S (δ.set i (some (.d (.lst ds)))) σ H := by
  obtain ⟨v, hs, a, vs, ev, h0, h1, nz, nr, hl, ra⟩ := G.sl i _ hi
  subst ev
  have q : Kq g H (g.fz a) H := ⟨fun _ h => .inr h, ⟨[], by simp [Gh.fz]⟩, fun _ _ _ h => h, fun _ _ h => h, fun _ _ _ h => h⟩
  have k := G.kp
  refine ⟨g.fz a, fun j s hj => ?_, by rw [List.length_set]; exact G.len, fun j k xs ys v hj hk => ?_, ⟨G.st.len, G.st.nd, fun x hx h => h.elim (fun e => nr (e ▸ hx)) (G.st.nz x hx), fun x h => h.elim (fun e => ⟨_, e ▸ h1⟩) (G.st.zt x), fun i x o h1 h2 => (G.st.at_ i x o h1 h2).keep q rfl⟩,
    ⟨fun x h => .inr (k.z x h), k.r, fun x h => h.elim (fun e => .inr (e ▸ h0)) (k.zf x), k.rf, k.kd, k.kz, k.kt, k.kf, k.kr⟩, fun p hp => (G.ck p hp).trans q⟩
  · rcases getElem?_set_eq hj with ⟨rfl, e⟩ | ⟨hne, hj⟩
    · cases e
      exact ⟨.ref a, hs, .lst (.inl rfl) h1 hl (ra.keepQ q)⟩
    · obtain ⟨v, e, r⟩ := G.sl j s hj
      refine ⟨v, e, ?_⟩
      cases s with
      | d d => exact Rp.keepQ q r
      | own es =>
        obtain ⟨b, ws, ev, k0, k1, k2, k3, k4, k5⟩ := r
        subst ev
        have hba : b ≠ a := fun z => hne (G.dis j i es ds _ hj hi e (by rw [hs, z]))
        exact ⟨b, ws, rfl, k0, k1, fun z => z.elim hba k2, k3, k4, k5.keepQ q⟩
  · rcases getElem?_set_eq hj with ⟨_, e⟩ | ⟨n1, hj⟩
    · cases e
    · rcases getElem?_set_eq hk with ⟨_, e⟩ | ⟨n2, hk⟩
      · cases e
      · exact G.dis j k xs ys v hj hk
end

/-! ### statements -/
inductive Fl where
  | nx (δ : Δ) | rt (d : D) | bk (δ : Δ) | ct (δ : Δ)
def ResS (N : Nv) (W : XK) (g0 : G0) (H0 : Hp) (D : Ends) : Out Fl → Prop
  | .ok (.nx δ) S => ∀ g σ H, Good N g0 H0 g S δ σ H → D.nx σ H
  | .ok (.rt d) S => ∀ g H v, Kp g0.g H0 g H → StOk N.K g S H → Rp N.K g H v d → D.rt v H
  | .ok (.bk δ) S => ∀ g σ H, Good N g0 H0 g S δ σ H → D.bk σ H
  | .ok (.ct δ) S => ∀ g σ H, Good N g0 H0 g S δ σ H → D.ct σ H
  | .err c x S => ∀ g H cls d, Kp g0.g H0 g H → StOk N.K g S H → ExAt N g H c x cls d → W cls d H
  | .stk => False
def tS (N : Nv) (W : XK) (F : Δ → M Fl) : TS := fun D σ H => ∃ g0 H0 g S δ, Good N g0 H0 g S δ σ H ∧ ResS N W g0 H0 D (F δ S)
def DS (N : Nv) (W : XK) (X : Cx) (st : Stmt) (F : Δ → M Fl) : Prop := PS X st (tS N W F)
def DSs (N : Nv) (W : XK) (X : Cx) (st : List Stmt) (F : Δ → M Fl) : Prop := PSs X st (tS N W F)

section
variable {N : Nv} {W : XK} {X : Cx} {md : Md} {e a b : Expr} {es : List Expr} {f fa fb : Δ → M D} {F F' : Δ → M Fl} {g0 : G0} {g : Gh} {H0 H : Hp} {S : Store} {δ : Δ} {σ : L2.St} {Q : VK} {pos : Pos} {st : Stmt} {rest sts : List Stmt} {D : Ends}

/-- an expression within a statement -/
theorem sE {m : Δ → M DL.D} {k : DL.D → M Fl} (G : Good N g0 H0 g S δ σ H) (r : ResS N W g0 H0 D (M.bind (m δ) k S))
    (hk : ∀ x S1 v H1 g1, Kp g H g1 H1 → Good N g0 H0 g1 S1 δ σ H1 → RpM N.K H md g1 H1 v x → ResS N W g0 H0 D (k x S1) → Q v H1) : tE N W md m σ H Q := by
  refine ⟨g0, H0, g, S, δ, G, ?_⟩
  unfold M.bind at r
  cases e : m δ S with
  | ok a S1 =>
    rw [e] at r
    exact fun g' H' k' st v rv => hk a S1 v H' g' k' (G.later k' st) rv r
  | err c x S1 =>
    rw [e] at r
    exact fun g' H' cls d k' st ex => r g' H' cls d (G.kp.trans k') st ex
  | stk => rw [e] at r; exact r
theorem sT {m : Δ → M Bool} {k : Bool → M Fl} {Q : Bool → Hp → Prop} (G : Good N g0 H0 g S δ σ H) (r : ResS N W g0 H0 D (M.bind (m δ) k S))
    (hk : ∀ x S1 H1 g1, Kp g H g1 H1 → Good N g0 H0 g1 S1 δ σ H1 → ResS N W g0 H0 D (k x S1) → Q x H1) : tT N W m σ H Q := by
  refine ⟨g0, H0, g, S, δ, G, ?_⟩
  unfold M.bind at r
  cases e : m δ S with
  | ok a S1 =>
    rw [e] at r
    exact fun g' H' k' st => hk a S1 H' g' k' (G.later k' st) r
  | err c x S1 =>
    rw [e] at r
    exact fun g' H' cls d k' st ex => r g' H' cls d (G.kp.trans k') st ex
  | stk => rw [e] at r; exact r

def fNx : Δ → M Fl := fun δ => M.ret (.nx δ)
def fSeq (F F' : Δ → M Fl) : Δ → M Fl := fun δ => M.bind (F δ) fun o => match o with
  | .nx δ1 => F' δ1
  | o => M.ret o
theorem dss_nil : DSs N W X [] fNx := pss_nil.imp fun D σ H ⟨g0, H0, g, S, δ, G, r⟩ => r g σ H G
theorem dss_cons (h : DS N W X st F) (h' : DSs N W X rest F') : DSs N W X (st :: rest) (fSeq F F') := (pss_cons h h').imp fun D σ H ⟨g0, H0, g, S, δ, G, r⟩ => by
  refine ⟨g0, H0, g, S, δ, G, ?_⟩
  unfold fSeq M.bind at r
  cases e : F δ S with
  | ok a S1 =>
    rw [e] at r
    cases a with
    | nx δ1 => exact fun g' σ' H' G' => ⟨g0, H0, g', S1, δ1, G', r⟩
    | _ => exact r
  | err c x S1 => rw [e] at r; exact r
  | stk => rw [e] at r; exact r
theorem dss_one (h : DS N W X st F) : DSs N W X [st] F := pss_one h
/-- ghost: slot i's list is frozen ahead -/
def fzS (i : Nat) (δ : Δ) : Δ := match own? δ i with
  | some ds => δ.set i (some (.d (.lst ds)))
  | none => δ
theorem dss_fz (i : Nat) (h : DSs N W X sts F) : DSs N W X sts (fun δ => F (fzS i δ)) := h.imp fun D σ H ⟨g0, H0, g, S, δ, G, r⟩ => by
  have r : ResS N W g0 H0 D (F (fzS i δ) S) := r
  unfold fzS at r
  cases e : own? δ i with
  | some ds =>
    rw [e] at r
    obtain ⟨g', G'⟩ := G.freeze (own?_some e)
    exact ⟨g0, H0, g', S, _, G', r⟩
  | none =>
    rw [e] at r
    exact ⟨g0, H0, g, S, δ, G, r⟩
def fPass : Δ → M Fl := fun δ => M.ret (.nx δ)
theorem ds_pass : DS N W X (.Pass pos) fPass := ps_pass.imp fun D σ H ⟨g0, H0, g, S, δ, G, r⟩ => r g σ H G
def fBk : Δ → M Fl := fun δ => M.ret (.bk δ)
def fCt : Δ → M Fl := fun δ => M.ret (.ct δ)
theorem ds_break : DS N W X (.Break pos) fBk := ps_break.imp fun D σ H ⟨g0, H0, g, S, δ, G, r⟩ => r g σ H G
theorem ds_continue : DS N W X (.Continue pos) fCt := ps_continue.imp fun D σ H ⟨g0, H0, g, S, δ, G, r⟩ => r g σ H G
def fNever : Δ → M Fl := fun _ => M.stuck
theorem ds_never : DS N W X st fNever := ps_never.imp fun D σ H ⟨g0, H0, g, S, δ, G, r⟩ => r
theorem dss_never : DSs N W X sts fNever := pss_never.imp fun D σ H ⟨g0, H0, g, S, δ, G, r⟩ => r
def fRet (f : Δ → M DL.D) : Δ → M Fl := fun δ => M.bind (f δ) fun d => M.ret (.rt d)
theorem ds_ret (h : DE N W X .fz e f) : DS N W X (.Return (some e) pos) (fRet f) := (ps_ret h).imp fun D σ H ⟨g0, H0, g, S, δ, G, r⟩ => sE G r fun x S1 v H1 g1 k1 G1 rv r1 => r1 g1 H1 v G1.kp G1.st rv
def fRetN : Δ → M Fl := fun _ => M.ret (.rt .non)
theorem ds_retN : DS N W X (.Return none pos) fRetN := ps_retN.imp fun D σ H ⟨g0, H0, g, S, δ, G, r⟩ => r g H .non G.kp G.st .non
def fExpr (f : Δ → M DL.D) : Δ → M Fl := fun δ => M.bind (f δ) fun _ => M.ret (.nx δ)
theorem ds_expr (h : DE N W X md e f) (hs : swapsWith e none pos.line X.env = pure false := by rfl) : DS N W X (.Expr e pos) (fExpr f) := (ps_expr h hs).imp fun D σ H ⟨g0, H0, g, S, δ, G, r⟩ => sE G r fun x S1 v H1 g1 k1 G1 rv r1 => r1 g1 σ H1 G1
def fIfS (fc : Δ → M Bool) (F F' : Δ → M Fl) : Δ → M Fl := fun δ => M.bind (fc δ) fun c => if c = true then F δ else F' δ
theorem ds_if {c : Expr} {s1 s2 : List Stmt} {fc : Δ → M Bool} (hc : DT N W X c fc) (h : DSs N W X s1 F) (h' : DSs N W X s2 F') : DS N W X (.If c s1 s2 pos) (fIfS fc F F') := (ps_if hc h h').imp fun D σ H ⟨g0, H0, g, S, δ, G, r⟩ => sT G r fun x S1 H1 g1 k1 G1 r1 => by
  cases x with
  | true =>
    rw [if_pos rfl] at r1 ⊢
    exact ⟨g0, H0, g1, S1, δ, G1, r1⟩
  | false =>
    rw [if_neg (by decide)] at r1 ⊢
    exact ⟨g0, H0, g1, S1, δ, G1, r1⟩

/-! ### stores -/
def fSet (i : Nat) (f : Δ → M DL.D) : Δ → M Fl := fun δ => M.bind (f δ) fun d => M.ret (.nx (δ.set i (some (.d d))))
theorem ds_set {i : Nat} {x : Str} {pos' : Pos} (hN : X.N.Nodup) (hi : X.N[i]? = some x) (hx : Loc X.env.scope x) (h : DE N W X .fz e f) (hs : swapsWith e (some (.Name x pos')) pos.line X.env = pure false := by rfl) (hf : X.fn x = true ∨ X.env.scope.names.lookup x = some .local := by first | exact .inl rfl | exact .inr rfl | assumption) :
    DS N W X (.Assign [.Name x pos'] e pos) (fSet i f) := (ps_set hN hi hx h hs hf).imp fun D σ H ⟨g0, H0, g, S, δ, G, r⟩ => sE G r fun x S1 v H1 g1 k1 G1 rv r1 => r1 g1 _ H1 (G1.set rv)
def fOwn (i : Nat) (f : Δ → M DL.D) : Δ → M Fl := fun δ => M.bind (f δ) fun d => match d with
  | .lst ds => M.ret (.nx (δ.set i (some (.own ds))))
  | _ => M.stuck
theorem ds_own {i : Nat} {x : Str} {pos' : Pos} (hN : X.N.Nodup) (hi : X.N[i]? = some x) (hx : Loc X.env.scope x) (h : DE N W X .fr e f) (hs : swapsWith e (some (.Name x pos')) pos.line X.env = pure false := by rfl) (hf : X.fn x = true ∨ X.env.scope.names.lookup x = some .local := by first | exact .inl rfl | exact .inr rfl | assumption) :
    DS N W X (.Assign [.Name x pos'] e pos) (fOwn i f) := (ps_set hN hi hx h hs hf).imp fun D σ H ⟨g0, H0, g, S, δ, G, r⟩ => sE G r fun x S1 v H1 g1 k1 G1 rv r1 => by
  obtain ⟨a, vs, ds, e1, e2, hn, h1, nz, nr, hl, ra⟩ := rv
  subst e1 e2
  refine r1 g1 _ H1 (G1.setOwn (G.kp.kd a hn) (fun j v es hj hv z => ?_) h1 nz nr hl ra)
  obtain ⟨w, e, b, ws, ev, _, hb, _⟩ := G.sl j _ hj
  rw [hv] at e
  cases e
  subst z
  cases ev
  rw [hn] at hb
  cases hb

/-! ### targets -/
/-- the slots outside are as they were -/
def Off (is : List Nat) (σ σ' : L2.St) : Prop := σ'.length = σ.length ∧ ∀ j, j ∉ is → σ'[j]? = σ[j]?
def tG (N : Nv) (is : List Nat) (gg : DL.D → Δ → Option Δ) : TG := fun v σ H Q => ∃ g0 H0 g S δ d δ', Good N g0 H0 g S δ σ H ∧ Rp N.K g H v d ∧ gg d δ = some δ' ∧ ∀ σ', Good N g0 H0 g S δ' σ' H → Off is σ σ' → Q σ' H
def tGs (N : Nv) (is : List Nat) (gg : List DL.D → Δ → Option Δ) : TGs := fun vs σ H Q => ∃ g0 H0 g S δ ds δ', Good N g0 H0 g S δ σ H ∧ RpAll N.K g H vs ds ∧ gg ds δ = some δ' ∧ ∀ σ', Good N g0 H0 g S δ' σ' H → Off is σ σ' → Q σ' H
def DG (N : Nv) (X : Cx) (tg : Expr) (is : List Nat) (gg : DL.D → Δ → Option Δ) : Prop := PG X tg (tG N is gg)
def DGs (N : Nv) (X : Cx) (ts : List Expr) (is : List Nat) (gg : List DL.D → Δ → Option Δ) : Prop := PGs X ts (tGs N is gg)
theorem _root_.L2.PG.imp {tg : Expr} {t t' : TG} (h : PG X tg t) (w : ∀ v σ H Q, t' v σ H Q → t v σ H Q) : PG X tg t' := ⟨fun pins s σ H v u Q I r q => h.run pins s σ H v u Q I r (w v σ H Q q)⟩
theorem _root_.L2.PGs.imp {tg : List Expr} {t t' : TGs} (h : PGs X tg t) (w : ∀ v σ H Q, t' v σ H Q → t v σ H Q) : PGs X tg t' := ⟨fun pins s σ H v u Q I r q => h.run pins s σ H v u Q I r (w v σ H Q q)⟩
theorem _root_.L2.PG.or {tg : Expr} {t t' : TG} (h : PG X tg t) (h' : PG X tg t') : PG X tg (fun v σ H Q => t v σ H Q ∨ t' v σ H Q) := ⟨fun pins s σ H v u Q I r q => q.elim (h.run pins s σ H v u Q I r) (h'.run pins s σ H v u Q I r)⟩
def ggName (i : Nat) : DL.D → Δ → Option Δ := fun d δ => some (δ.set i (some (.d d)))
theorem Off.set {i : Nat} {v : V} : Off [i] σ (σ.set i (some v)) := ⟨List.length_set, fun j h => List.getElem?_set_ne fun e => h (by simp [e])⟩
theorem Off.refl (is : List Nat) (σ : L2.St) : Off is σ σ := ⟨rfl, fun _ _ => rfl⟩
theorem Off.trans {is js : List Nat} {σ1 σ2 : L2.St} (a : Off is σ σ1) (b : Off js σ1 σ2) : Off (is ++ js) σ σ2 := ⟨b.1.trans a.1, fun j h => by
  rw [List.mem_append, not_or] at h
  exact (b.2 j h.2).trans (a.2 j h.1)⟩
theorem dg_name {i : Nat} {x : Str} (hN : X.N.Nodup) (hi : X.N[i]? = some x) (hx : Loc X.env.scope x) (hf : X.fn x = true ∨ X.env.scope.names.lookup x = some .local := by first | exact .inl rfl | exact .inr rfl | assumption) : DG N X (.Name x pos) [i] (ggName i) :=
  (pg_name hN hi hx hf).imp fun v σ H Q ⟨g0, H0, g, S, δ, d, δ', G, r, e, q⟩ => by
    cases e
    exact q _ (G.set r) .set
def ggNil : List DL.D → Δ → Option Δ := fun ds δ => match ds with
  | [] => some δ
  | _ => none
def ggCons (gg : DL.D → Δ → Option Δ) (gs : List DL.D → Δ → Option Δ) : List DL.D → Δ → Option Δ := fun ds δ => match ds with
  | [] => none
  | d :: ds => (gg d δ).bind fun δ1 => gs ds δ1
theorem dgs_nil : DGs N X [] [] ggNil := pgs_nil.imp fun v σ H Q ⟨g0, H0, g, S, δ, ds, δ', G, r, e, q⟩ => by
  cases ds with
  | nil =>
    cases e
    cases r
    exact ⟨rfl, q σ G (.refl _ _)⟩
  | cons => cases e
theorem dgs_cons {t : Expr} {ts : List Expr} {is js : List Nat} {gg : DL.D → Δ → Option Δ} {gs : List DL.D → Δ → Option Δ} (h : DG N X t is gg) (h' : DGs N X ts js gs) (hs : (assignEach (t :: ts) X.env).map (·.2) = assign t X.env :: (assignEach ts X.env).map (·.2) := by rfl) : DGs N X (t :: ts) (is ++ js) (ggCons gg gs) :=
  (pgs_cons h h' hs).imp fun v σ H Q ⟨g0, H0, g, S, δ, ds, δ', G, r, e, q⟩ => by
    cases ds with
    | nil => cases e
    | cons d ds =>
      cases r with
      | cons r1 r2 =>
        have e : (gg d δ).bind (fun δ1 => gs ds δ1) = some δ' := e
        cases e1 : gg d δ with
        | none => rw [e1] at e; cases e
        | some δ1 =>
          rw [e1] at e
          exact ⟨_, _, rfl, g0, H0, g, S, δ, d, δ1, G, r1, e1, fun σ1 G1 o1 => ⟨g0, H0, g, S, δ1, ds, δ', G1, r2, e, fun σ2 G2 o2 => q σ2 G2 (o1.trans o2)⟩⟩
def ggTup (n : Nat) (gs : List DL.D → Δ → Option Δ) : DL.D → Δ → Option Δ := fun d δ => match d.items with
  | some ds => if ds.length = n then gs ds δ else none
  | none => none
theorem dg_tup {ts : List Expr} {k n : Nat} {is : List Nat} {gs : List DL.D → Δ → Option Δ} (hc : X.calm = true) (h : DGs N X ts is gs) (hn : (assignEach ts X.env).length = n := by rfl) (hst : (assignEach ts X.env).findIdx? (·.1) = none := by rfl) : DG N X (.Tuple ts k pos) is (ggTup n gs) :=
  (PG.or (pg_tup hc h hn hst) (pg_lst hc h hn hst)).imp fun v σ H Q ⟨g0, H0, g, S, δ, d, δ', G, r, e, q⟩ => by
    cases r with
    | @tup a xs ds hs hl ra =>
      have e : (if ds.length = n then gs ds δ else none) = some δ' := e
      by_cases hlen : ds.length = n
      · rw [if_pos hlen] at e
        exact .inl ⟨a, xs, rfl, .of hs, by rw [ra.length]; exact hlen, g0, H0, g, S, δ, ds, δ', G, ra, e, q⟩
      · rw [if_neg hlen] at e; cases e
    | @lst a xs ds z hs hl ra =>
      have e : (if ds.length = n then gs ds δ else none) = some δ' := e
      by_cases hlen : ds.length = n
      · rw [if_pos hlen] at e
        exact .inr ⟨a, xs, rfl, .of hs, by rw [ra.length]; exact hlen, g0, H0, g, S, δ, ds, δ', G, ra, e, q⟩
      · rw [if_neg hlen] at e; cases e
    | _ => cases e
/-- target = value -/
def fAsg (f : Δ → M DL.D) (gg : DL.D → Δ → Option Δ) : Δ → M Fl := fun δ => M.bind (f δ) fun d => match gg d δ with
  | some δ' => M.ret (.nx δ')
  | none => M.stuck
theorem ds_asg {tg : Expr} {is : List Nat} {gg : DL.D → Δ → Option Δ} (h : DE N W X .fz e f) (hg : DG N X tg is gg) (hs : swapsWithSole [tg] e pos.line X.env = pure false := by rfl) (hw : swappedStores [tg] e X.env = pure none := by rfl)
    (h1 : (assignEach [tg] X.env).map (·.2) = [assign tg X.env] := by rfl) : DS N W X (.Assign [tg] e pos) (fAsg f gg) := (ps_asg h hg hs hw h1).imp fun D σ H ⟨g0, H0, g, S, δ, G, r⟩ => sE G r fun x S1 v H1 g1 k1 G1 rv r1 => by
  cases e : gg x δ with
  | none => rw [e] at r1; exact r1.elim
  | some δ' =>
    rw [e] at r1
    exact ⟨g0, H0, g1, S1, δ, x, δ', G1, rv, e, fun σ' G' o => r1 g1 σ' H1 G'⟩

/-! ### own lists: append, extend -/
def fApp (i : Nat) (f : Δ → M DL.D) : Δ → M Fl := fun δ => match own? δ i with
  | some ds => M.bind (f δ) fun x => if ds.length < sizeLine then M.ret (.nx (δ.set i (some (.own (ds ++ [x]))))) else M.stuck
  | none => M.stuck
theorem ds_app {i : Nat} {o : Expr} {apos cpos : Pos} (ho : PE X o (tVar i)) (h : DE N W X .fz e f) (hbase : attributeBase o "append" X.env (eval o X.env) = eval o X.env := by rfl)
    (hfew : ((backTo cpos (starEach [e] X.env)).all (fun x => !x.1) && (backToKw cpos (keywordEach [] X.env)).all (fun x => x.1.isSome) && decide ([e].length + ([] : List Keyword).length + (if ([] : List Keyword).isEmpty then 0 else 1) < 30)) = true := by rfl)
    (hline : (apos.endLine == cpos.line) = true := by rfl) (hs : starEach [e] X.env = (false, eval e X.env) :: starEach [] X.env := by rfl) (hplain : (backTo cpos (starEach [] X.env)).any (·.1) = false := by rfl) (hsw : swapsWith (.Call (.Attribute o "append" apos) [e] [] cpos) none pos.line X.env = pure false := by rfl) :
    DS N W X (.Expr (.Call (.Attribute o "append" apos) [e] [] cpos) pos) (fApp i f) :=
  (ps_expr (pe_bm PySem.F.plainAttrs_list PySem.F.slot_list_append PySem.F.type_list_append mt_append ho (pa_cons h pa_nil hs) hbase hfew hline hs hplain) hsw).imp fun D σ H ⟨g0, H0, g, S, δ, G, r⟩ => by
    unfold fApp at r
    cases hd : own? δ i with
    | none => rw [hd] at r; exact r.elim
    | some ds =>
      rw [hd] at r
      have hd := own?_some hd
      obtain ⟨v, hs, a, vs, ev, h0, h1, nz, nr, hl, ra⟩ := G.sl i _ hd
      subst ev
      refine ⟨.ref a, hs, .inl ⟨rfl, _, .of h1⟩, sE G r fun x S1 v H1 g1 k1 G1 rv r1 => ?_⟩
      by_cases hz : ds.length < sizeLine
      · rw [if_pos hz] at r1
        obtain ⟨u, hs', b, ws, ev, k0, k1, kz, kr, kl, ka⟩ := G1.sl i _ hd
        rw [hs] at hs'
        cases hs'
        cases ev
        have hz' : ws.length < sizeLine := by rw [ka.length]; exact hz
        refine ⟨a, ws, v, rfl, rfl, k1, hz', r1 g1 σ _ (G1.mut hd hs (by rw [List.length_append]; exact hz') (ka.append (.cons rv .nil)))⟩
      · rw [if_neg hz] at r1; exact r1.elim
def fExt (i : Nat) (f : Δ → M DL.D) : Δ → M Fl := fun δ => match own? δ i with
  | some ds => M.bind (f δ) fun x => match x.items with
    | some es => if ds.length + es.length ≤ sizeLine then M.ret (.nx (δ.set i (some (.own (ds ++ es))))) else M.stuck
    | none => M.stuck
  | none => M.stuck
theorem ds_ext {i : Nat} {o : Expr} {apos cpos : Pos} (ho : PE X o (tVar i)) (h : DE N W X .fz e f) (hbase : attributeBase o "extend" X.env (eval o X.env) = eval o X.env := by rfl)
    (hfew : ((backTo cpos (starEach [e] X.env)).all (fun x => !x.1) && (backToKw cpos (keywordEach [] X.env)).all (fun x => x.1.isSome) && decide ([e].length + ([] : List Keyword).length + (if ([] : List Keyword).isEmpty then 0 else 1) < 30)) = true := by rfl)
    (hline : (apos.endLine == cpos.line) = true := by rfl) (hs : starEach [e] X.env = (false, eval e X.env) :: starEach [] X.env := by rfl) (hplain : (backTo cpos (starEach [] X.env)).any (·.1) = false := by rfl) (hsw : swapsWith (.Call (.Attribute o "extend" apos) [e] [] cpos) none pos.line X.env = pure false := by rfl) :
    DS N W X (.Expr (.Call (.Attribute o "extend" apos) [e] [] cpos) pos) (fExt i f) :=
  (ps_expr (pe_bm PySem.F.plainAttrs_list PySem.F.slot_list_extend PySem.F.type_list_extend mt_extendB ho (pa_cons h pa_nil hs) hbase hfew hline hs hplain) hsw).imp fun D σ H ⟨g0, H0, g, S, δ, G, r⟩ => by
    unfold fExt at r
    cases hd : own? δ i with
    | none => rw [hd] at r; exact r.elim
    | some ds =>
      rw [hd] at r
      have hd := own?_some hd
      obtain ⟨v, hs, a, vs, ev, h0, h1, nz, nr, hl, ra⟩ := G.sl i _ hd
      subst ev
      refine ⟨.ref a, hs, .inl ⟨rfl, _, .of h1⟩, sE G r fun x S1 v H1 g1 k1 G1 rv r1 => ?_⟩
      have hx : ∃ es, x.items = some es := by
        cases e : x.items with
        | some es => exact ⟨es, rfl⟩
        | none =>
          simp only [e] at r1
          exact r1.elim
      obtain ⟨es, he⟩ := hx
      simp only [he] at r1
      have r1 : ResS N W g0 H0 D ((if ds.length + es.length ≤ sizeLine then M.ret (Fl.nx (δ.set i (some (.own (ds ++ es))))) else M.stuck) S1) := r1
      by_cases hz : ds.length + es.length ≤ sizeLine
      · rw [if_pos hz] at r1
        obtain ⟨u, hs', b, ws, ev, k0, k1, kz, kr, kl, ka⟩ := G1.sl i _ hd
        rw [hs] at hs'
        cases hs'
        cases ev
        obtain ⟨c, zs, ec, hc, hcl, rc⟩ : ∃ c zs, v = .ref c ∧ (H1 c = some (.lst zs) ∨ H1 c = some (.tup zs)) ∧ zs.length ≤ sizeLine ∧ RpAll N.K g1 H1 zs es := by
          cases x <;> first | (cases he; done) | skip
          · cases he
            obtain ⟨c, zs, ec, hc, hcl, rc⟩ := RpB.seqL (.inl rv)
            exact ⟨c, zs, ec, .inl hc, hcl, rc⟩
          · cases he
            obtain ⟨c, zs, ec, hc, hcl, rc⟩ := RpB.seqT (.inl rv)
            exact ⟨c, zs, ec, .inr hc, hcl, rc⟩
        have hz' : ws.length + zs.length ≤ sizeLine := by rw [ka.length, rc.length]; exact hz
        refine ⟨a, c, ws, zs, rfl, by rw [ec], k1, hc, hz', r1 g1 σ _ (G1.mut hd hs (by rw [List.length_append]; exact hz') (ka.append rc))⟩
      · rw [if_neg hz] at r1; exact r1.elim
end
end DL

set_option Elab.async false
set_option linter.all false
set_option maxRecDepth 100000
set_option maxHeartbeats 4000000
/-! DL5: what is walked, loops, comprehensions, calls, defs. -/
namespace DL
open PySem PySem.Spec PyProof.Rows L2

/-! ### what is walked -/
/-- J gives the data ds, one after another, as long as data stay -/
structure ItOk (N : Nv) (g : Gh) (H : Hp) (J : It) (ds : List D) : Prop where
  len : ds.length ≤ sizeLine
  go : ∀ g' H' i, Kq g H g' H' → i < ds.length → J.go i H'
  stop : ∀ g' H' i, Kq g H g' H' → ds.length = i → J.stop i H'
  yld : ∀ g' H' i x H'' d, Kq g H g' H' → ds[i]? = some d → J.yld i H' x H'' → ∃ g'', Ex g' H' g'' H'' ∧ Rp N.K g'' H'' x d
def tI (N : Nv) (W : XK) (f : Δ → M (List D)) : TI := fun σ H R => ∃ g0 H0 g S δ, Good N g0 H0 g S δ σ H ∧ Res N W g H (fun g' H' ds => ∀ J, ItOk N g' H' J ds → R J H') (f δ S)
def DI (N : Nv) (W : XK) (X : Cx) (tg iter : Expr) (f : Δ → M (List D)) : Prop := PI X tg iter (tI N W f)
theorem _root_.L2.PI.imp {X : Cx} {tg e : Expr} {t t' : TI} (h : PI X tg e t) (w : ∀ σ H R, t' σ H R → t σ H R) : PI X tg e t' := ⟨fun pins s σ H R I q => h.run pins s σ H R I (w σ H R q)⟩

section
variable {N : Nv} {W : XK} {X : Cx} {md : Md} {e a b tg iter : Expr} {es : List Expr} {f fa fb : Δ → M D} {g0 : G0} {g : Gh} {H0 H : Hp} {S : Store} {δ : Δ} {σ : L2.St} {Q : VK} {pos : Pos}
/-- the first operand, its equation told -/
theorem tE.seqE {β : Type} {m : Δ → M D} {k : D → M β} {R : Gh → Hp → β → Prop} {Q : VK} (G : Good N g0 H0 g S δ σ H) (r : Res N W g H R (M.bind (m δ) k S))
    (hk : ∀ x S1 v H1 g1, m δ S = .ok x S1 → Kp g H g1 H1 → Good N g0 H0 g1 S1 δ σ H1 → RpM N.K H md g1 H1 v x → Res N W g1 H1 R (k x S1) → Q v H1) : tE N W md m σ H Q := by
  refine ⟨g0, H0, g, S, δ, G, ?_⟩
  have h := r.first
  cases e : m δ S with
  | ok a S1 =>
    rw [e] at h
    intro g' H' k' st v rv
    obtain ⟨S', e', q⟩ := h g' H' k' st
    cases e'
    exact hk a S1 v H' g' e k' (G.later k' st) rv (q.later k')
  | err c x S1 => rw [e] at h; exact h
  | stk => rw [e] at h; exact h
theorem itOk_list {a : Addr} {xs : List V} {ds : List D} (K : PySem.W.Frag) (z : g.Z a) (h : H a = some (.lst xs)) (hl : xs.length ≤ sizeLine) (ra : RpAll N.K g H xs ds) : ItOk N g H (Itl K a) ds where
  len := by rw [← ra.length]; exact hl
  go := fun g' H' i k hi => by
    have hi' : i < xs.length := by rw [ra.length]; exact hi
    exact ⟨xs, xs[i], .of (k.kz _ _ z h), List.getElem?_eq_getElem hi'⟩
  stop := fun g' H' i k hi => ⟨xs, .of (k.kz _ _ z h), by rw [ra.length]; exact Nat.le_of_eq hi⟩
  yld := fun g' H' i x H'' d k hd hy => by
    obtain ⟨rfl, hx⟩ := hy
    obtain ⟨v, hv, rv⟩ := ra.get hd
    have := hx xs (.of (k.kz _ _ z h))
    rw [hv] at this
    cases this
    exact ⟨g', .refl _ _, rv.keepQ k⟩
theorem itOk_tup {a : Addr} {xs : List V} {ds : List D} (K : PySem.W.Frag) (h : H a = some (.tup xs)) (hl : xs.length ≤ sizeLine) (ra : RpAll N.K g H xs ds) : ItOk N g H (Itt K a) ds where
  len := by rw [← ra.length]; exact hl
  go := fun g' H' i k hi => by
    have hi' : i < xs.length := by rw [ra.length]; exact hi
    exact ⟨xs, xs[i], .of (k.kt _ _ h), List.getElem?_eq_getElem hi'⟩
  stop := fun g' H' i k hi => ⟨xs, .of (k.kt _ _ h), by rw [ra.length]; exact Nat.le_of_eq hi⟩
  yld := fun g' H' i x H'' d k hd hy => by
    obtain ⟨rfl, hx⟩ := hy
    obtain ⟨v, hv, rv⟩ := ra.get hd
    have := hx xs (.of (k.kt _ _ h))
    rw [hv] at this
    cases this
    exact ⟨g', .refl _ _, rv.keepQ k⟩
def iSeq (f : Δ → M D) : Δ → M (List D) := fun δ => M.bind (f δ) fun x => M.opt x.items
theorem di_seq (h : DE N W X .fz e f) : DI N W X tg e (iSeq f) := (PI.or (pi_list h) (pi_tup h)).imp fun σ H R ⟨g0, H0, g, S, δ, G, q⟩ => by
  have lft : (∀ xs S1, f δ S ≠ .ok (.tup xs) S1) → iList X.K (tE N W .fz f) σ H R := fun hne => tE.seqE G q fun x S1 v H1 g1 e k1 G1 rv q1 => by
    cases x with
    | lst ds =>
      cases (show Rp N.K g1 H1 v _ from rv) with
      | lst z hs hl ra => exact ⟨_, rfl, ⟨_, .of hs⟩, Res.now (a := ds) G1.st q1 _ (itOk_list _ z hs hl ra)⟩
    | tup ds => exact absurd e (hne ds S1)
    | _ => exact q1.elim
  cases e : f δ S with
  | ok x S1 =>
    cases x with
    | tup ds =>
      refine .inr (tE.seqE G q fun x S2 v H1 g1 e2 k1 G1 rv q1 => ?_)
      rw [e] at e2
      cases e2
      cases (show Rp N.K g1 H1 v _ from rv) with
      | tup hs hl ra => exact ⟨_, rfl, ⟨_, .of hs⟩, Res.now (a := ds) G1.st q1 _ (itOk_tup _ hs hl ra)⟩
    | _ => exact .inl (lft fun xs S2 z => by rw [e] at z; cases z)
  | err c x S1 => exact .inl (lft fun xs S2 z => by rw [e] at z; cases z)
  | stk => exact .inl (lft fun xs S2 z => by rw [e] at z; cases z)
def rangeD (lo : Int) (n : Nat) : List D := (List.range n).map fun i => .int (lo + (i : Nat))
theorem itOk_range {lo : Int} {n : Nat} (hn : n ≤ sizeLine) : ItOk N g H (Itr lo n) (rangeD lo n) where
  len := by unfold rangeD; rw [List.length_map, List.length_range]; exact hn
  go := fun g' H' i k hi => by unfold rangeD at hi; rw [List.length_map, List.length_range] at hi; exact hi
  stop := fun g' H' i k hi => by unfold rangeD at hi; rw [List.length_map, List.length_range] at hi; exact Nat.le_of_eq hi
  yld := fun g' H' i x H'' d k hd hy => by
    obtain ⟨rfl, rfl⟩ := hy
    unfold rangeD at hd
    rw [List.getElem?_map] at hd
    cases e : (List.range n)[i]? with
    | none => rw [e] at hd; cases hd
    | some j =>
      rw [e] at hd
      cases hd
      have := List.getElem?_eq_some_iff.mp e
      obtain ⟨h1, h2⟩ := this
      rw [List.getElem_range] at h2
      subst h2
      exact ⟨g', .refl _ _, .int _⟩
theorem line_le {n : Int} (h : n ≤ 16777216) : n.toNat ≤ sizeLine := by
  rw [sizeLine_eq]
  omega
def iRange1 (f : Δ → M D) : Δ → M (List D) := fun δ => M.bind (f δ) fun x => match x with
  | .int j => if -16777216 ≤ j ∧ j ≤ 16777216 then M.ret (rangeD 0 j.toNat) else M.stuck
  | _ => M.stuck
theorem di_range1 {p : Pos} {ma : Md} (hg : Gl X "range") (hm : X.mg "range" = none) (ha : DE N W X ma a fa) (hs : starEach [a] X.env = [(false, eval a X.env)] := by rfl) (hs' : starEach [a] X.env = (false, eval a X.env) :: starEach [] X.env := by rfl) : DI N W X tg (.Call (.Name "range" p) [a] [] pos) (iRange1 fa) :=
  (pi_range1 hg hm (pa_cons ha pa_nil hs') hs).imp fun σ H R ⟨g0, H0, g, S, δ, G, q⟩ => tE.seq G q fun x S1 v H1 g1 k1 G1 rv q1 => by
    cases x <;> first | exact q1.elim | skip
    rename_i j
    obtain ⟨hj, q1⟩ := Res.ite q1
    refine ⟨j, by rw [rv.bo.int], by omega, by omega, Res.now G1.st q1 _ (itOk_range (line_le hj.2))⟩
def iRange2 (f f' : Δ → M D) : Δ → M (List D) := fun δ => M.bind (f δ) fun x => M.bind (f' δ) fun y => match x, y with
  | .int i, .int j => if (-16777216 ≤ i ∧ i ≤ 16777216) ∧ -16777216 ≤ j ∧ j ≤ 16777216 ∧ j - i ≤ 16777216 then M.ret (rangeD i (j - i).toNat) else M.stuck
  | _, _ => M.stuck
theorem di_range2 {p : Pos} {ma mb : Md} (hg : Gl X "range") (hm : X.mg "range" = none) (ha : DE N W X ma a fa) (hb : DE N W X mb b fb) (hs : starEach [a, b] X.env = [(false, eval a X.env), (false, eval b X.env)] := by rfl) (hs2 : starEach [b] X.env = [(false, eval b X.env)] := by rfl) (hs3 : starEach [a, b] X.env = (false, eval a X.env) :: starEach [b] X.env := by rfl) (hs4 : starEach [b] X.env = (false, eval b X.env) :: starEach [] X.env := by rfl) :
    DI N W X tg (.Call (.Name "range" p) [a, b] [] pos) (iRange2 fa fb) :=
  (pi_range2 hg hm (pa_cons ha (pa_cons hb pa_nil hs4) hs3) hs hs2).imp fun σ H R ⟨g0, H0, g, S, δ, G, q⟩ => tE.seq G q fun x S1 v H1 g1 k1 G1 rv q1 => tE.seq G1 q1 fun y S2 w H2 g2 k2 G2 rw q2 => by
    cases x <;> cases y <;> first | exact q2.elim | skip
    rename_i i j
    obtain ⟨hj, q2⟩ := Res.ite q2
    refine ⟨i, j, by rw [(rv.bo.keep k2).int, rw.bo.int], by omega, Res.now G2.st q2 _ (itOk_range (line_le hj.2.2.2))⟩

/-! ### for -/
def loopM (gg : D → Δ → Option Δ) (F : Δ → M Fl) : List D → Δ → M Fl
  | [], δ => M.ret (.nx δ)
  | d :: ds, δ => match gg d δ with
    | none => M.stuck
    | some δ1 => M.bind (F δ1) fun o => match o with
      | .nx δ2 => loopM gg F ds δ2
      | .ct δ2 => loopM gg F ds δ2
      | .bk δ2 => M.ret (.nx δ2)
      | .rt v => M.ret (.rt v)
def fFor (fi : Δ → M (List D)) (gg : D → Δ → Option Δ) (F : Δ → M Fl) : Δ → M Fl := fun δ => M.bind (fi δ) fun ds => loopM gg F ds δ
theorem Good.check (G : Good N g0 H0 g S δ σ H) : Good N ⟨g0.g, (g, H) :: g0.C⟩ H0 g S δ σ H :=
  ⟨G.sl, G.len, G.dis, G.st, G.kp, fun p hp => by
    rcases List.mem_cons.mp hp with rfl | hp
    · exact ⟨fun _ h => h, ⟨[], by simp⟩, fun _ _ _ h => h, fun _ _ h => h, fun _ _ _ h => h⟩
    · exact G.ck p hp⟩
theorem Good.uncheck {c : Gh × Hp} (G : Good N ⟨g0.g, c :: g0.C⟩ H0 g S δ σ H) : Good N g0 H0 g S δ σ H :=
  ⟨G.sl, G.len, G.dis, G.st, G.kp, fun p hp => G.ck p (List.mem_cons_of_mem _ hp)⟩
theorem sI {m : Δ → M (List D)} {k : List D → M Fl} {D : Ends} {R : It → Hp → Prop} (G : Good N g0 H0 g S δ σ H) (r : ResS N W g0 H0 D (M.bind (m δ) k S))
    (hk : ∀ ds S1 H1 g1, Kp g H g1 H1 → Good N g0 H0 g1 S1 δ σ H1 → ResS N W g0 H0 D (k ds S1) → ∀ J, ItOk N g1 H1 J ds → R J H1) : tI N W m σ H R := by
  refine ⟨g0, H0, g, S, δ, G, ?_⟩
  unfold M.bind at r
  cases e : m δ S with
  | ok a S1 =>
    rw [e] at r
    exact fun g' H' k' st J hJ => hk a S1 H' g' k' (G.later k' st) r J hJ
  | err c x S1 =>
    rw [e] at r
    exact fun g' H' cls d k' st ex => r g' H' cls d (G.kp.trans k') st ex
  | stk => rw [e] at r; exact r
theorem drop_get {α : Type} {xs : List α} {i : Nat} (h : i < xs.length) : xs.drop i = xs[i] :: xs.drop (i + 1) := List.drop_eq_getElem_cons h
theorem ds_for {body : List Stmt} {fi : Δ → M (List D)} {is : List Nat} {gg : D → Δ → Option Δ} {F : Δ → M Fl} (hp : PassesOwn (model X.prog X.w) X.A X.env X.xe) (hc : X.calm = true) (hi : DI N W X tg iter fi) (hg : DG N X tg is gg) (hb : DSs N W X body F)
    (hs : ∀ x, foldedSetIterable iter X.env x = pure x := by intro _; rfl) : DS N W X (.For tg iter body [] pos) (fFor fi gg F) :=
  (ps_for hp hc hi hg hb hs).imp fun D σ H ⟨g0, H0, g, S, δ, G, r⟩ => sI G r fun ds S1 H1 g1 k1 G1 r1 J hJ => by
    refine ⟨fun i m σ H => m = ds.length - i ∧ i ≤ ds.length ∧ ∃ g S δ, Good N ⟨g0.g, (g1, H1) :: g0.C⟩ H0 g S δ σ H ∧ ResS N W g0 H0 D (loopM gg F (ds.drop i) δ S), ⟨_, rfl, Nat.zero_le _, g1, S1, δ, G1.check, r1⟩, ?_⟩
    rintro i m σ H ⟨rfl, hi, g2, S2, δ2, G2, r2⟩
    have q := G2.ck _ List.mem_cons_self
    by_cases hlt : i < ds.length
    · refine .inr ⟨hJ.go g2 H i q hlt, fun σ' H' => ∃ g S δ, Good N ⟨g0.g, (g1, H1) :: g0.C⟩ H0 g S δ σ' H' ∧ ResS N W g0 H0 D (loopM gg F (ds.drop (i + 1)) δ S), fun σ' H' h => ⟨ds.length - (i + 1), by omega, rfl, hlt, h⟩, fun x H' hy => ?_⟩
      obtain ⟨g3, ex, rx⟩ := hJ.yld g2 H i x H' ds[i] q (List.getElem?_eq_getElem hlt) hy
      have G3 := G2.later ex.kp (G2.st.ex ex)
      rw [drop_get hlt] at r2
      unfold loopM at r2
      cases e : gg ds[i] δ2 with
      | none => rw [e] at r2; exact r2.elim
      | some δ3 =>
        rw [e] at r2
        refine ⟨_, _, g3, S2, δ2, ds[i], δ3, G3, rx, e, fun σ3 G4 _ => ⟨_, _, g3, S2, δ3, G4, ?_⟩⟩
        simp only [M.bind] at r2
        cases ef : F δ3 S2 with
        | stk => rw [ef] at r2; exact r2
        | err c z S3 => rw [ef] at r2; exact r2
        | ok o S3 =>
          rw [ef] at r2
          cases o with
          | nx δ4 => exact fun g4 σ4 H4 G5 => ⟨g4, S3, δ4, G5, r2⟩
          | ct δ4 => exact fun g4 σ4 H4 G5 => ⟨g4, S3, δ4, G5, r2⟩
          | bk δ4 => exact fun g4 σ4 H4 G5 => r2 g4 σ4 H4 G5.uncheck
          | rt v => exact r2
    · have e : i = ds.length := by omega
      subst e
      rw [List.drop_length] at r2
      exact .inl ⟨hJ.stop g2 H _ q rfl, r2 g2 σ H G2.uncheck⟩

/-! ### while, at most n turns -/
def whileM (n : Nat) (fc : Δ → M Bool) (F : Δ → M Fl) : Δ → M Fl := match n with
  | 0 => fun _ => M.stuck
  | n + 1 => fun δ => M.bind (fc δ) fun c => if c = true then M.bind (F δ) fun o => match o with
      | .nx δ2 => whileM n fc F δ2
      | .ct δ2 => whileM n fc F δ2
      | .bk δ2 => M.ret (.nx δ2)
      | .rt v => M.ret (.rt v)
    else M.ret (.nx δ)
theorem ds_while {c : Expr} {body : List Stmt} {fc : Δ → M Bool} {F : Δ → M Fl} (n : Nat) (hp : PassesOwn (model X.prog X.w) X.A X.env X.xe) (hc : DT N W X c fc) (hb : DSs N W X body F) : DS N W X (.While c body [] pos) (whileM n fc F) :=
  (ps_while hp hc hb).imp fun D σ H ⟨g0, H0, g, S, δ, G, r⟩ => by
    refine ⟨fun m σ H => ∃ g S δ, Good N g0 H0 g S δ σ H ∧ ResS N W g0 H0 D (whileM m fc F δ S), ⟨n, g, S, δ, G, r⟩, ?_⟩
    rintro m σ H ⟨g, S, δ, G, r⟩
    cases m with
    | zero => exact r.elim
    | succ m =>
      unfold whileM at r
      refine sT G r fun x S1 H1 g1 k1 G1 r1 => ?_
      cases x with
      | false =>
        rw [if_neg (by decide)] at r1 ⊢
        exact r1 g1 σ H1 G1
      | true =>
        rw [if_pos rfl] at r1 ⊢
        refine ⟨fun σ' H' => ∃ g S δ, Good N g0 H0 g S δ σ' H' ∧ ResS N W g0 H0 D (whileM m fc F δ S), fun σ' H' h => ⟨m, Nat.lt_succ_self m, h⟩, g0, H0, g1, S1, δ, G1, ?_⟩
        simp only [M.bind] at r1
        cases ef : F δ S1 with
        | stk => rw [ef] at r1; exact r1
        | err c z S3 => rw [ef] at r1; exact r1
        | ok o S3 =>
          rw [ef] at r1
          cases o with
          | nx δ4 => exact fun g4 σ4 H4 G5 => ⟨g4, S3, δ4, G5, r1⟩
          | ct δ4 => exact fun g4 σ4 H4 G5 => ⟨g4, S3, δ4, G5, r1⟩
          | bk δ4 => exact r1
          | rt v => exact r1
end
end DL

set_option Elab.async false
set_option linter.all false
set_option maxRecDepth 100000
set_option maxHeartbeats 4000000
/-! DL6: comprehensions, calls, defs. -/
namespace DL
open PySem PySem.Spec PyProof.Rows L2

def wipeD (δ : Δ) : List Nat → Δ
  | [] => δ
  | v :: vs => (wipeD δ vs).set v none
def Out.quiet {α : Type} : Out α → Out α
  | .err _ _ _ => .stk
  | o => o
def M.quiet {α : Type} (m : M α) : M α := fun S => (m S).quiet
def lcM (gg : D → Δ → Option Δ) (ft : Δ → M Bool) (fe : Δ → M D) (δ : Δ) : List D → M (List D)
  | [] => M.ret []
  | d :: ds => match gg d δ with
    | none => M.stuck
    | some δ1 => M.bind (M.quiet (ft δ1)) fun b => if b = true then M.bind (M.quiet (fe δ1)) fun y => M.bind (lcM gg ft fe δ ds) fun ys => M.ret (y :: ys) else lcM gg ft fe δ ds
def fLc (fi : Δ → M (List D)) (gg : D → Δ → Option Δ) (ft : Δ → M Bool) (fe : Δ → M D) (vs : List Nat) : Δ → M D := fun δ => M.bind (fi δ) fun ds => M.bind (lcM gg ft fe (wipeD δ vs) ds) fun ys => M.ret (.lst ys)

section
variable {N : Nv} {W : XK} {X : Cx} {md : Md} {e a b tg iter elt : Expr} {es : List Expr} {f fa fb : Δ → M D} {g0 : G0} {g : Gh} {H0 H : Hp} {S : Store} {δ : Δ} {σ : L2.St} {Q : VK} {pos : Pos}
abbrev W0 : XK := fun _ _ _ => False
theorem Good.wipe1 (G : Good N g0 H0 g S δ σ H) (i : Nat) : Good N g0 H0 g S (δ.set i none) (σ.set i none) H := by
  refine ⟨fun j s hj => ?_, by rw [List.length_set, List.length_set]; exact G.len, fun j k xs ys u hj hk h1 h2 => ?_, G.st, G.kp, G.ck⟩
  · rcases getElem?_set_eq hj with ⟨rfl, e⟩ | ⟨hne, hj⟩
    · cases e
    · obtain ⟨u, e, q⟩ := G.sl j s hj
      exact ⟨u, by rw [List.getElem?_set_ne (fun z => hne z.symm)]; exact e, q⟩
  · rcases getElem?_set_eq hj with ⟨_, e⟩ | ⟨n1, hj⟩
    · cases e
    · rcases getElem?_set_eq hk with ⟨_, e⟩ | ⟨n2, hk⟩
      · cases e
      · rw [List.getElem?_set_ne (fun z => n1 z.symm)] at h1
        rw [List.getElem?_set_ne (fun z => n2 z.symm)] at h2
        exact G.dis j k xs ys u hj hk h1 h2
theorem Good.wipe (G : Good N g0 H0 g S δ σ H) : ∀ vs : List Nat, Good N g0 H0 g S (wipeD δ vs) (wipe σ vs) H
  | [] => G
  | v :: vs => (G.wipe vs).wipe1 v
theorem wipe_get (σ : L2.St) (i : Nat) : ∀ vs : List Nat, (wipe σ vs)[i]? = if i ∈ vs ∧ i < σ.length then some none else σ[i]?
  | [] => by simp [wipe]
  | v :: vs => by
    unfold wipe
    have ih := wipe_get σ i vs
    have hl := wipe_length σ vs
    by_cases e : v = i
    · subst e
      by_cases hv : v < σ.length
      · rw [List.getElem?_set_self (by rw [hl]; exact hv), if_pos ⟨List.mem_cons_self, hv⟩]
      · rw [if_neg (fun h => hv h.2), List.getElem?_eq_none (by simp; rw [hl]; omega), List.getElem?_eq_none (by omega)]
    · rw [List.getElem?_set_ne e, ih]
      have : (i ∈ v :: vs) ↔ (i ∈ vs) := by simp [List.mem_cons, Ne.symm e]
      simp only [this]
theorem wipe_off {is vs : List Nat} {σ2 : L2.St} (h : ∀ i ∈ is, i ∈ vs) (o : Off is (wipe σ vs) σ2) : wipe σ2 vs = wipe σ vs := by
  apply List.ext_getElem?
  intro i
  have hl : σ2.length = σ.length := by rw [o.1, wipe_length]
  rw [wipe_get, wipe_get, hl]
  by_cases hi : i ∈ vs
  · by_cases hb : i < σ.length
    · rw [if_pos ⟨hi, hb⟩, if_pos ⟨hi, hb⟩]
    · rw [if_neg (fun z => hb z.2), if_neg (fun z => hb z.2), List.getElem?_eq_none (by omega), List.getElem?_eq_none (by omega)]
  · rw [if_neg (fun z => hi z.1), if_neg (fun z => hi z.1), o.2 i (fun z => hi (h i z)), wipe_get, if_neg (fun z => hi z.1)]
/-- a list that no slot knows changes -/
theorem Good.mutNew {b : Addr} {xs ys : List V} (G : Good N g0 H0 g S δ σ H) (hD : H b = some (.lst xs)) (h0 : H0 b = none) (nz : ¬ g.Z b) (nr : b ∉ g.ρ) (hf : ∀ (j : Nat) (v : V) (es : List D), δ[j]? = some (some (.own es)) → σ[j]? = some (some v) → v ≠ .ref b) :
    Good N g0 H0 g S δ σ (upd H b (.lst ys)) := by
  have q : Kq g H g (upd H b (.lst ys)) := Kq.mut hD nz
  refine ⟨fun j s hj => ?_, G.len, G.dis, G.st.mut hD nz nr, G.kp.mut hD h0, fun p hp => (G.ck p hp).trans q⟩
  obtain ⟨v, e, r⟩ := G.sl j s hj
  refine ⟨v, e, ?_⟩
  cases s with
  | d d => exact Rp.keepQ q r
  | own es =>
    obtain ⟨c, ws, ev, k0, k1, k2, k3, k4, k5⟩ := r
    subst ev
    have hcb : c ≠ b := fun z => hf j _ es hj e (by rw [z])
    exact ⟨c, ws, rfl, k0, by rw [upd_ne hcb]; exact k1, k2, k3, k4, k5.keepQ q⟩
theorem StOk.nz' {K : PySem.W.Frag} (st : StOk K g S H) {p : Addr} (hp : H p = none) : ¬ g.Z p ∧ p ∉ g.ρ := by
  refine ⟨fun z => ?_, fun z => ?_⟩
  · obtain ⟨o, e⟩ := st.zt p z
    rw [hp] at e; cases e
  · obtain ⟨o, e⟩ := st.there z
    rw [hp] at e; cases e
theorem _root_.DL.M.bind_ok {α β : Type} {m : M α} {k : α → M β} {a : α} {S S1 : Store} (e : m S = .ok a S1) : M.bind m k S = k a S1 := by unfold M.bind; rw [e]
theorem _root_.DL.M.bind_err {α β : Type} {m : M α} {k : α → M β} {c : Str} {x : D} {S S1 : Store} (e : m S = .err c x S1) : M.bind m k S = .err c x S1 := by unfold M.bind; rw [e]
theorem _root_.DL.M.bind_stk {α β : Type} {m : M α} {k : α → M β} {S : Store} (e : m S = .stk) : M.bind m k S = .stk := by unfold M.bind; rw [e]
theorem Res.bindE {α β : Type} {R : Gh → Hp → β → Prop} {m : M α} {k : α → M β} (h : Res N W g H R (M.bind m k S)) : (∃ a S1, m S = .ok a S1 ∧ Res N W g H R (k a S1)) ∨ ∃ c x S1, m S = .err c x S1 := by
  unfold M.bind at h
  cases e : m S with
  | ok a S1 => rw [e] at h; exact .inl ⟨a, S1, rfl, h⟩
  | err c x S1 => exact .inr ⟨c, x, S1, rfl⟩
  | stk => rw [e] at h; exact h.elim
theorem quiet_ok {α : Type} {m : M α} {a : α} {S1 : Store} (h : M.quiet m S = .ok a S1) : m S = .ok a S1 := by
  unfold M.quiet at h
  cases e : m S with
  | ok b S2 => rw [e] at h; exact h
  | err c x S2 => rw [e] at h; cases h
  | stk => rw [e] at h; cases h
theorem quiet_noErr {α : Type} {m : M α} {c : Str} {x : D} {S1 : Store} (h : M.quiet m S = .err c x S1) : False := by
  unfold M.quiet at h
  cases e : m S with
  | ok b S2 => rw [e] at h; cases h
  | err c x S2 => rw [e] at h; cases h
  | stk => rw [e] at h; cases h
/-- a test, a part within a comprehension's turn -/
theorem tT_run {fc : Δ → M Bool} {c : Bool} {S1 : Store} {Q : Bool → Hp → Prop} (G : Good N g0 H0 g S δ σ H) (e : fc δ S = .ok c S1) (h : ∀ g' H', Kp g H g' H' → StOk N.K g' S1 H' → Q c H') : tT N W fc σ H Q :=
  ⟨g0, H0, g, S, δ, G, by rw [e]; exact h⟩
theorem tE_run {fc : Δ → M D} {c : D} {S1 : Store} {Q : VK} (G : Good N g0 H0 g S δ σ H) (e : fc δ S = .ok c S1) (h : ∀ g' H' v, Kp g H g' H' → StOk N.K g' S1 H' → RpM N.K H md g' H' v c → Q v H') : tE N W md fc σ H Q :=
  ⟨g0, H0, g, S, δ, G, by rw [e]; exact fun g' H' k st v r => h g' H' v k st r⟩
def DTs (N : Nv) (W : XK) (X : Cx) (ifs : List Expr) (f : Δ → M Bool) : Prop := PTs X ifs (tT N W f)
theorem _root_.L2.PTs.imp {ifs : List Expr} {t t' : TT} (h : PTs X ifs t) (w : ∀ σ H Q, t' σ H Q → t σ H Q) : PTs X ifs t' := ⟨fun pins s σ H Q I q => h.run pins s σ H Q I (w σ H Q q)⟩
def tYesM : Δ → M Bool := fun _ => M.ret true
theorem dts_nil : DTs N W X [] tYesM := pts_nil.imp fun σ H Q ⟨g0, H0, g, S, δ, G, q⟩ => q.now G.st
theorem dts_one {c : Expr} {fc : Δ → M Bool} (h : DT N W X c fc) : DTs N W X [c] fc := pts_one h
theorem tI_seq {β : Type} {m : Δ → M (List D)} {k : List D → M β} {R : Gh → Hp → β → Prop} {R' : It → Hp → Prop} (G : Good N g0 H0 g S δ σ H) (r : Res N W g H R (M.bind (m δ) k S))
    (hk : ∀ ds S1 H1 g1, Kp g H g1 H1 → Good N g0 H0 g1 S1 δ σ H1 → Res N W g1 H1 R (k ds S1) → ∀ J, ItOk N g1 H1 J ds → R' J H1) : tI N W m σ H R' := by
  refine ⟨g0, H0, g, S, δ, G, ?_⟩
  have h := r.first
  cases e : m δ S with
  | ok a S1 =>
    rw [e] at h
    intro g' H' k' st J hJ
    obtain ⟨S', e', q⟩ := h g' H' k' st
    cases e'
    exact hk a S1 H' g' k' (G.later k' st) (q.later k') J hJ
  | err c x S1 => rw [e] at h; exact h
  | stk => rw [e] at h; exact h
/-- a turn of a comprehension, by what it comes to -/
theorem lc_turn {gg : D → Δ → Option Δ} {ft : Δ → M Bool} {fe : Δ → M D} {δ : Δ} {d : D} {ds ys : List D} {S Sf : Store} (h : lcM gg ft fe δ (d :: ds) S = .ok ys Sf) :
    ∃ δ1 b S1, gg d δ = some δ1 ∧ ft δ1 S = .ok b S1 ∧ ((b = false ∧ lcM gg ft fe δ ds S1 = .ok ys Sf) ∨ (b = true ∧ ∃ y S2 zs, fe δ1 S1 = .ok y S2 ∧ lcM gg ft fe δ ds S2 = .ok zs Sf ∧ ys = y :: zs)) := by
  unfold lcM at h
  cases e : gg d δ with
  | none => rw [e] at h; cases h
  | some δ1 =>
    rw [e] at h
    simp only at h
    cases e1 : M.quiet (ft δ1) S with
    | stk => rw [M.bind_stk e1] at h; cases h
    | err c x S2 => exact (quiet_noErr e1).elim
    | ok b S1 =>
      rw [M.bind_ok e1] at h
      refine ⟨δ1, b, S1, rfl, quiet_ok e1, ?_⟩
      cases b with
      | false =>
        rw [if_neg (by decide)] at h
        exact .inl ⟨rfl, h⟩
      | true =>
        rw [if_pos rfl] at h
        cases e2 : M.quiet (fe δ1) S1 with
        | stk => rw [M.bind_stk e2] at h; cases h
        | err c x S2 => exact (quiet_noErr e2).elim
        | ok y S2 =>
          rw [M.bind_ok e2] at h
          cases e3 : lcM gg ft fe δ ds S2 with
          | stk => rw [M.bind_stk e3] at h; cases h
          | err c x S2 => rw [M.bind_err e3] at h; cases h
          | ok zs S3 =>
            rw [M.bind_ok e3] at h
            cases h
            exact .inr ⟨rfl, y, S2, zs, quiet_ok e2, e3, rfl⟩
theorem lc_noErr {gg : D → Δ → Option Δ} {ft : Δ → M Bool} {fe : Δ → M D} {δ : Δ} : ∀ {ds : List D} {S : Store} {c : Str} {x : D} {S1 : Store}, lcM gg ft fe δ ds S = .err c x S1 → False
  | [], _, _, _, _, h => by cases h
  | d :: ds, S, c, x, S1, h => by
    unfold lcM at h
    cases e : gg d δ with
    | none => rw [e] at h; cases h
    | some δ1 =>
      rw [e] at h
      simp only at h
      cases e1 : M.quiet (ft δ1) S with
      | stk => rw [M.bind_stk e1] at h; cases h
      | err c x S2 => exact (quiet_noErr e1).elim
      | ok b S1 =>
        rw [M.bind_ok e1] at h
        cases b with
        | false =>
          rw [if_neg (by decide)] at h
          exact lc_noErr h
        | true =>
          rw [if_pos rfl] at h
          cases e2 : M.quiet (fe δ1) S1 with
          | stk => rw [M.bind_stk e2] at h; cases h
          | err c x S2 => exact (quiet_noErr e2).elim
          | ok y S2 =>
            rw [M.bind_ok e2] at h
            cases e3 : lcM gg ft fe δ ds S2 with
            | stk => rw [M.bind_stk e3] at h; cases h
            | err c x S2 => exact lc_noErr e3
            | ok zs S3 => rw [M.bind_ok e3] at h; cases h
/-- what the layer's rule asks of a comprehension -/
theorem lc_weak {K : PySem.W.Frag} {fi : Δ → M (List D)} {is vs : List Nat} {gg : D → Δ → Option Δ} {ft : Δ → M Bool} {fe : Δ → M D} (his : ∀ i ∈ is, i ∈ vs) {σ : L2.St} {H : Hp} {Q : VK} (h : tE N W .fr (fLc fi gg ft fe vs) σ H Q) : tLc (tI N W fi) (tG N is gg) (tT N W0 ft) (tE N W0 .fz fe) vs σ H Q := by
  obtain ⟨g0, H0, g, S, δ, G, q⟩ := h
  exact tI_seq G q fun ds S1 H1 g1 k1 G1 q1 J hJ L hL => by
    have h0 : H0 L = none := G1.kp.kd _ hL
    obtain ⟨nz1, nr1⟩ := G1.st.nz' hL
    have noslot : ∀ (j : Nat) (v : V) (es : List D), δ[j]? = some (some (.own es)) → σ[j]? = some (some v) → v ≠ .ref L := fun j v es hj hv z => by
      obtain ⟨w, e, b, ws, ev, _, hb, _⟩ := G1.sl j _ hj
      rw [hv] at e
      cases e
      subst z
      cases ev
      rw [hL] at hb
      cases hb
    have k0 : Kp g1 H1 g1 (upd H1 L (.lst [])) := (Ex.new hL).kp
    cases ef : lcM gg ft fe (wipeD δ vs) ds S1 with
    | stk => rw [M.bind_stk ef] at q1; exact q1.elim
    | err c x S2 => exact (lc_noErr ef).elim
    | ok ys Sf =>
      rw [M.bind_ok ef] at q1
      refine ⟨fun i m H => m = ds.length - i ∧ i ≤ ds.length ∧ ∃ g2 S2 acc da rs, Good N g0 H0 g2 S2 δ σ H ∧ Kp g1 H1 g2 H ∧ H L = some (.lst acc) ∧ acc.length ≤ i ∧ ¬ g2.Z L ∧ L ∉ g2.ρ ∧ RpAll N.K g2 H acc da ∧
        lcM gg ft fe (wipeD δ vs) (ds.drop i) S2 = .ok rs Sf ∧ da ++ rs = ys, ⟨_, rfl, Nat.zero_le _, g1, S1, [], [], ys, G1.later k0 (G1.st.ex (Ex.new hL)), k0, upd_same, Nat.zero_le _, nz1, nr1, .nil, ef, rfl⟩, ?_⟩
      rintro i m H2 ⟨rfl, hi', g2, S2, acc, da, rs, G2, k2, hA, hlen, nz, nr, ra, e2, ed⟩
      by_cases hlt : i < ds.length
      · refine .inr ⟨hJ.go g2 H2 i k2.q hlt, fun H' => ∃ g2 S2 acc da rs, Good N g0 H0 g2 S2 δ σ H' ∧ Kp g1 H1 g2 H' ∧ H' L = some (.lst acc) ∧ acc.length ≤ i + 1 ∧ ¬ g2.Z L ∧ L ∉ g2.ρ ∧ RpAll N.K g2 H' acc da ∧
          lcM gg ft fe (wipeD δ vs) (ds.drop (i + 1)) S2 = .ok rs Sf ∧ da ++ rs = ys, fun H' h => ⟨ds.length - (i + 1), by omega, rfl, hlt, h⟩, fun x H3 hy => ?_⟩
        obtain ⟨g3, ex, rx⟩ := hJ.yld g2 H2 i x H3 ds[i] k2.q (List.getElem?_eq_getElem hlt) hy
        have G3 := G2.later ex.kp (G2.st.ex ex)
        rw [drop_get hlt] at e2
        obtain ⟨δ1, b, S4, eg, et, hb⟩ := lc_turn e2
        refine ⟨g0, H0, g3, S2, wipeD δ vs, ds[i], δ1, G3.wipe vs, rx, eg, fun σ4 G4 off => ⟨wipe_off his off, tT_run G4 et fun g5 H5 k5 st5 => ?_⟩⟩
        have k15 : Kp g1 H1 g5 H5 := (k2.trans ex.kp).trans k5
        have kk : Kp g2 H2 g5 H5 := ex.kp.trans k5
        have G5 := G2.later kk st5
        have hA5 : H5 L = some (.lst acc) := kk.kr _ _ hA nr
        have nz5 : ¬ g5.Z L := fun z => by
          rcases kk.zf L z with q | q
          · exact nz q
          · rw [hA] at q; cases q
        have nr5 : L ∉ g5.ρ := fun z => by
          rcases kk.rf L z with q | q
          · exact nr q
          · rw [hA] at q; cases q
        rcases hb with ⟨rfl, er⟩ | ⟨rfl, y, S6, zs, ey, er, ez⟩
        · rw [if_neg (by decide)]
          exact ⟨g5, S4, acc, da, rs, G5, k15, hA5, by omega, nz5, nr5, ra.keep kk, er, ed⟩
        · rw [if_pos rfl]
          refine tE_run (G4.later k5 st5) ey fun g6 H6 v k6 st6 rv => ?_
          have kk6 : Kp g2 H2 g6 H6 := kk.trans k6
          have hA6 : H6 L = some (.lst acc) := kk6.kr _ _ hA nr
          have nz6 : ¬ g6.Z L := fun z => by
            rcases kk6.zf L z with q | q
            · exact nz q
            · rw [hA] at q; cases q
          have nr6 : L ∉ g6.ρ := fun z => by
            rcases kk6.rf L z with q | q
            · exact nr q
            · rw [hA] at q; cases q
          have hds := hJ.len
          have G6 := G2.later kk6 st6
          have qm : Kq g6 H6 g6 (upd H6 L (.lst (acc ++ [v]))) := Kq.mut hA6 nz6
          refine ⟨acc, hA6, by omega, g6, S6, acc ++ [v], da ++ [y], zs, G6.mutNew hA6 h0 nz6 nr6 noslot, (k15.trans k6).mut hA6 hL, upd_same, by rw [List.length_append]; exact Nat.add_le_add_right hlen 1, nz6, nr6, ((ra.keep kk6).append (.cons rv .nil)).keepQ qm, er, ?_⟩
          rw [← ed, ez, List.append_assoc]
          rfl
      · have e : i = ds.length := by omega
        subst e
        rw [List.drop_length] at e2
        cases e2
        rw [List.append_nil] at ed
        subst ed
        have hds := hJ.len
        exact .inl ⟨hJ.stop g2 H2 _ k2.q rfl, q1 g2 H2 k2 G2.st _ ⟨L, acc, da, rfl, rfl, k1.kd _ hL, hA, nz, nr, Nat.le_trans hlen hds, ra⟩⟩
theorem de_lc {ifs : List Expr} {scope : Scope} {own : List (Str × Nat)} {fi : Δ → M (List D)} {is : List Nat} {gg : D → Δ → Option Δ} {ft : Δ → M Bool} {fe : Δ → M D} {me : Md} (hc : X.calm = true) (hN : X.N.Nodup) (hi : DI N W X tg iter fi) (ok : BlkOk X.N X.env.scope scope own)
    (hg : ∀ (s : Shared) (H : Hp) (C : Addr) (cl : List (Str × Addr)) (fp : List Addr), DG N (X.blk s H scope (compEnvC scope cl C X.env) fp) tg is gg)
    (ht : ∀ (s : Shared) (H : Hp) (C : Addr) (cl : List (Str × Addr)) (fp : List Addr), DTs N W0 (X.blk s H scope (compEnvC scope cl C X.env) fp) ifs ft)
    (he : ∀ (s : Shared) (H : Hp) (C : Addr) (cl : List (Str × Addr)) (fp : List Addr), DE N W0 (X.blk s H scope (compEnvC scope cl C X.env) fp) .fz elt fe)
    (his : ∀ i ∈ is, i ∈ own.map (·.2) := by decide) (hs : ∀ x, foldedSetIterable iter X.env x = pure x := by intro _; rfl) :
    DE N W X .fr (.ListComp elt [⟨tg, iter, ifs, 0⟩] scope pos) (fLc fi gg ft fe (own.map (·.2))) :=
  (pe_lc hc hN hi ok hg ht he hs).imp fun σ H Q h => lc_weak (K := N.K) his h
end
end DL

set_option Elab.async false
set_option linter.all false
set_option maxRecDepth 100000
set_option maxHeartbeats 4000000
/-! DL7: calls, defs, isinstance, max and min of two, zip, enumerate. -/
namespace DL
open PySem PySem.Spec PyProof.Rows L2

/-! ### what a def does with data -/
/-- the promise: with n arguments that are data it gives what m gives -/
def spD (N : Nv) (n : Nat) (m : List D → M D) : Sp := fun vs H Q E => ∃ g S ds, ds.length = n ∧ RpAll N.K g H vs ds ∧ StOk N.K g S H ∧ Res N E g H (fun g' H' d => ∀ v, Rp N.K g' H' v d → Q v H') (m ds S)
def startD (L : Nat) (ds : List D) : Δ := ds.map (fun d => some (Slot.d d)) ++ List.replicate (L - ds.length) none
def endM : Fl → M D
  | .nx _ => M.ret .non
  | .rt d => M.ret d
  | _ => M.stuck
/-- n arguments, L names, the body -/
def fnM (n L : Nat) (F : Δ → M Fl) : List D → M D := fun ds => if ds.length = n then M.quiet (M.bind (F (startD L ds)) endM) else M.stuck
section
variable {P : Program} {w : World} {K : PySem.W.Frag} {mg : Str → Option Value} {base : Heap}
theorem good_start {N : Nv} {g : Gh} {H : Hp} {S : Store} {L : Nat} {vs : List V} {ds : List D} {Nm : List Str} (st : StOk N.K g S H) (ra : RpAll N.K g H vs ds) (hL : Nm.length = L) : Good N ⟨g, []⟩ H g S (startD L ds) (L2.start Nm vs) H := by
  have hl := ra.length
  refine ⟨fun i s hi => ?_, ?_, fun i j xs ys v hi => ?_, st, .refl _ _, fun p hp => absurd hp (by simp)⟩
  · unfold startD at hi
    by_cases hlt : i < ds.length
    · rw [List.getElem?_append_left (by simpa using hlt), List.getElem?_map] at hi
      cases e : ds[i]? with
      | none => rw [e] at hi; cases hi
      | some d =>
        rw [e] at hi
        cases hi
        obtain ⟨v, hv, rv⟩ := ra.get e
        refine ⟨v, ?_, rv⟩
        unfold L2.start
        rw [List.getElem?_append_left (by rw [List.length_map, hl]; exact hlt), List.getElem?_map, hv]
        rfl
    · rw [List.getElem?_append_right (by simpa using hlt), List.getElem?_replicate] at hi
      split at hi <;> cases hi
  · unfold startD L2.start
    rw [List.length_append, List.length_append, List.length_map, List.length_map, List.length_replicate, List.length_replicate, hl, hL]
  · unfold startD at hi
    by_cases hlt : i < ds.length
    · rw [List.getElem?_append_left (by simpa using hlt), List.getElem?_map] at hi
      cases e : ds[i]? with
      | none => rw [e] at hi; cases hi
      | some d => rw [e] at hi; cases hi
    · rw [List.getElem?_append_right (by simpa using hlt), List.getElem?_replicate] at hi
      split at hi <;> cases hi
/-- a def that raises nothing, by its body -/
theorem fn_ok0 {N : Nv} {x qual : Str} {st : Stmt} {f : Addr} {fd : FuncData} {Nm ps : List Str} {k L n : Nat} {Fb : Δ → M Fl} (F : Fun K x qual st f fd) (Sc : FnScope Nm ps (defScope st)) (hL : Nm.length = L) (hn : ps.length = n)
    (hb : ∀ (cdv : Value) (A : Around) (outer : List Env) (s : Shared) (H : Hp) (E : XK), Room k (A.deeper (envOfC qual (defScope st) s.heap.objs.size f cdv)) → DSs N W0 (cxOf CX0 P w K mg base Nm qual (defScope st) f cdv A outer s H E).nox (defBody st) Fb) :
    FnOk P w K mg base CX0 (k + 1) f fd ps (spD N n (fnM n L Fb)) := by
  refine F.ok Sc (fun vs H Q E h => ?_) (fun cdv A outer s H vs Q E hr h => ?_)
  · obtain ⟨g, S, ds, hl, ra, st, r⟩ := h
    rw [ra.length, hl, hn]
  · obtain ⟨g, S, ds, hl, ra, st, r⟩ := h
    refine ⟨_, hb cdv A outer s H E hr, ⟨g, []⟩, H, g, S, startD L ds, good_start st ra hL, ?_⟩
    unfold fnM at r
    rw [if_pos hl] at r
    cases e : M.bind (Fb (startD L ds)) endM S with
    | stk =>
      unfold M.quiet at r
      rw [e] at r
      exact r.elim
    | err c z S1 =>
      unfold M.quiet at r
      rw [e] at r
      exact r.elim
    | ok d S1 =>
      unfold M.quiet at r
      rw [e] at r
      cases ef : Fb (startD L ds) S with
      | stk => rw [M.bind_stk ef] at e; cases e
      | err c z S2 => rw [M.bind_err ef] at e; cases e
      | ok o S2 =>
        rw [M.bind_ok ef] at e
        cases o with
        | nx δ =>
          cases e
          exact fun g' σ' H' G' => r g' H' G'.kp G'.st _ .non
        | rt v =>
          cases e
          exact fun g' H' u k st ru => r g' H' k st u ru
        | bk _ => cases e
        | ct _ => cases e
end

section
variable {N : Nv} {W : XK} {X : Cx} {md : Md} {e a b tg iter elt : Expr} {es : List Expr} {f fa fb : Δ → M D} {g0 : G0} {g : Gh} {H0 H : Hp} {S : Store} {δ : Δ} {σ : L2.St} {Q : VK} {pos p : Pos}
def fCall (m : List D → M D) (n : Nat) (fr : Δ → M (List D)) : Δ → M D := fun δ => M.bind (fr δ) fun ds => if ds.length = n then m ds else M.stuck
theorem de_call {CX : CXT} {k n : Nat} {fA : Addr} {fd : FuncData} {ps : List Str} {m : List D → M D} {fr : Δ → M (List D)} {x : Str} (F : FnOk X.prog X.w X.K X.mg X.base CX k fA fd ps (spD N n m)) (hr : Room k X.A) (hg : Gl X x) (hm : X.mg x = some (.ref fA)) (hk : PySem.W.keepIn X.K (.ref fA) = true) (hb : Binds X.K fd ps []) (hx : Passes CX X W)
    (ha : DA N W X (e :: es) fr) (hdb : (x == ("__debug__" : Str)) = false := by decide) (he : starEach (e :: es) X.env = (false, eval e X.env) :: starEach es X.env := by rfl) (hpl : (backTo pos (starEach es X.env)).any (·.1) = false := by rfl) :
    DE N W X .fz (.Call (.Name x p) (e :: es) [] pos) (fCall m n fr) :=
  (pe_call F hr hg hm hk hb .nil hx ha hdb he hpl).imp fun σ H Q ⟨g0, H0, g, S, δ, G, q⟩ => tA.seq G q fun xs S1 vs H1 g1 k1 G1 ra q1 => by
    obtain ⟨hl, q1⟩ := Res.ite q1
    rw [List.append_nil]
    exact ⟨g1, S1, xs, hl, ra, G1.st, q1.mono (.refl _ _) fun g' H' d k' h v rv => h v rv⟩

/-! ### isinstance -/
def tyN : D → String
  | .non => "NoneType"
  | .bl _ => "bool"
  | .int _ => "int"
  | .str _ => "str"
  | .lst _ => "list"
  | .tup _ => "tuple"
  | .dct _ => "dict"
  | .ob _ => "list"
  | .fn _ => "function"
  | .scr _ => "list"
def D.isFn : D → Bool
  | .fn _ => true
  | .scr _ => true
  | _ => false
/-- whether a value of the built-in type a is one of b -/
def isTy (b : String) (d : D) : Bool := (kitB (tyN d) b).getD false
theorem RpB.ty {v : V} {d : D} (K : PySem.W.Frag) (st : StOk N.K g S H) (r : RpB N.K g H v d) (hf : d.isFn = false) : TyX K H v (.type (tyN d)) := by
  rcases r with r | ⟨a, vs, ds, e1, e2, h, _⟩
  · cases r with
    | non => exact .base .non
    | bl b => exact .base (.bl b)
    | int i => exact .base (.int i)
    | str s => exact .base (.str s)
    | lst z h l ra => exact .base (.lst h)
    | tup h l ra => exact .base (.tup h)
    | dct z dc l ek ra =>
      rcases dc with ⟨kvs, hH, _⟩ | ⟨kvs, hH, _⟩
      · exact .base (.dK hH)
      · exact .base (.dT hH)
    | @ob i a h =>
      have hi : i < S.length := by rw [st.len]; exact (List.getElem?_eq_some_iff.mp h).1
      have q := st.at_ i a _ h (List.getElem?_eq_getElem hi)
      revert q
      cases S[i] with
      | ml xs =>
        intro q
        obtain ⟨vs, hH, _⟩ := q
        exact .base (.lst hH)
    | fn _ => cases hf
    | scr _ => cases hf
  · subst e1 e2
    exact .base (.lst h)
def dIsi (b : String) : D → M D := fun x => if x.isFn = false then M.ret (.bl (isTy b x)) else M.stuck
theorem de_isi {b : String} {y : Str} {ma : Md} {p2 : Pos} (hg : Gl X "isinstance") (hm : X.mg "isinstance" = none) (hg2 : Gl X y) (hm2 : X.mg y = none) (hv2 : bootBuiltins y = some (.type b)) (ha : DE N W X ma a fa)
    (hT : ["NoneType", "bool", "int", "str", "list", "tuple", "dict"].all (fun t => (kitB t b).isSome) = true := by decide +kernel)
    (hn2 : y ≠ "__name__" := by decide) (hd2 : (y == ("__debug__" : Str)) = false := by decide)
    (he2 : starEach [a, .Name y p2] X.env = (false, eval a X.env) :: starEach [.Name y p2] X.env := by rfl) (he3 : starEach [.Name y p2] X.env = (false, eval (.Name y p2) X.env) :: starEach [] X.env := by rfl) (hpl : (backTo pos (starEach [.Name y p2] X.env)).any (·.1) = false := by rfl) :
    DE N W X .fz (.Call (.Name "isinstance" p) [a, .Name y p2] [] pos) (f1 (dIsi b) fa) :=
  (pe_callB call_isi hg hm (by decide +kernel) (pa_cons ha (pa_cons (pe_bltn (v := .ty b) hg2 hm2 hv2 rfl hn2 hd2) pa_nil he3) he2) (by decide) (by decide) he2 hpl).imp fun σ H Q ⟨g0, H0, g, S, δ, G, q⟩ => tE.seq G q fun x S1 v H1 g1 k1 G1 rv q1 => by
    have q1 : Res N W g1 H1 _ ((if x.isFn = false then M.ret (D.bl (isTy b x)) else M.stuck) S1) := q1
    obtain ⟨hf, q1⟩ := Res.ite q1
    have hh : (kitB (tyN x) b).isSome = true := by
      rw [List.all_eq_true] at hT
      apply hT
      cases x <;> first | (cases hf; done) | simp [tyN]
    obtain ⟨c, hc⟩ := Option.isSome_iff_exists.mp hh
    refine ⟨v, .ty b, .type (tyN x), .type b, c, rfl, .ty b, rv.bo.ty X.K G1.st hf, kit_ty hc, ?_⟩
    have q1 : Res N W g1 H1 _ (M.ret (D.bl (isTy b x)) S1) := q1
    unfold isTy at q1
    rw [hc] at q1
    exact q1.now G1.st _ (.bl _)

/-! ### max, min of two ints -/
def C2 (N : Nv) (W : XK) (r : List V → Hp → VK → Prop) (k : D → D → M D) : Prop := ∀ x y v w g H S Q, StOk N.K g S H → RpB N.K g H v x → RpB N.K g H w y → Res N W g H (fun g' H' d => ∀ u, RpM N.K H .fz g' H' u d → Q u H') (k x y S) → r [v, w] H Q
theorem de_cb2 {id : String} {x : Str} {r : List V → Hp → VK → Prop} {k : D → D → M D} {ma mb : Md} (hc : CallR X (.builtin id) r) (hk : C2 N W r k) (hg : Gl X x) (hm : X.mg x = none) (hv : bootBuiltins x = some (.builtin id)) (ha : DE N W X ma a fa) (hb : DE N W X mb b fb)
    (hn : x ≠ "__name__" := by decide) (hdb : (x == ("__debug__" : Str)) = false := by decide) (he : starEach [a, b] X.env = (false, eval a X.env) :: starEach [b] X.env := by rfl) (he2 : starEach [b] X.env = (false, eval b X.env) :: starEach [] X.env := by rfl) (hpl : (backTo pos (starEach [b] X.env)).any (·.1) = false := by rfl) : DE N W X .fz (.Call (.Name x p) [a, b] [] pos) (f2 k fa fb) :=
  (pe_callB hc hg hm hv (pa_cons ha (pa_cons hb pa_nil he2) he) hn hdb he hpl).imp fun σ H Q ⟨g0, H0, g, S, δ, G, q⟩ => tE.seq G q fun x S1 v H1 g1 k1 G1 rv q1 => tE.seq G1 q1 fun y S2 w H2 g2 k2 G2 rw q2 =>
    hk x y v w g2 H2 S2 Q G2.st (rv.bo.keep k2) rw.bo q2
def dMax : D → D → M D := kI fun i j => .int (if j > i then j else i)
def dMin : D → D → M D := kI fun i j => .int (if j < i then j else i)
theorem de_max2 {x : Str} {ma mb : Md} (hc : X.calm = true) (hg : Gl X x) (hm : X.mg x = none) (hv : bootBuiltins x = some (.builtin "max")) (ha : DE N W X ma a fa) (hb : DE N W X mb b fb)
    (hn : x ≠ "__name__" := by decide) (hdb : (x == ("__debug__" : Str)) = false := by decide) (he : starEach [a, b] X.env = (false, eval a X.env) :: starEach [b] X.env := by rfl) (he2 : starEach [b] X.env = (false, eval b X.env) :: starEach [] X.env := by rfl) (hpl : (backTo pos (starEach [b] X.env)).any (·.1) = false := by rfl) : DE N W X .fz (.Call (.Name x p) [a, b] [] pos) (f2 dMax fa fb) :=
  de_cb2 (call_max2 hc) (fun x y v w g H S Q st rv rw q => by
    cases x <;> cases y <;> first | exact q.elim | skip
    exact ⟨_, _, by rw [rv.int, rw.int], q.now st _ (.int _)⟩) hg hm hv ha hb hn hdb he he2 hpl
theorem de_min2 {x : Str} {ma mb : Md} (hc : X.calm = true) (hg : Gl X x) (hm : X.mg x = none) (hv : bootBuiltins x = some (.builtin "min")) (ha : DE N W X ma a fa) (hb : DE N W X mb b fb)
    (hn : x ≠ "__name__" := by decide) (hdb : (x == ("__debug__" : Str)) = false := by decide) (he : starEach [a, b] X.env = (false, eval a X.env) :: starEach [b] X.env := by rfl) (he2 : starEach [b] X.env = (false, eval b X.env) :: starEach [] X.env := by rfl) (hpl : (backTo pos (starEach [b] X.env)).any (·.1) = false := by rfl) : DE N W X .fz (.Call (.Name x p) [a, b] [] pos) (f2 dMin fa fb) :=
  de_cb2 (call_min2 hc) (fun x y v w g H S Q st rv rw q => by
    cases x <;> cases y <;> first | exact q.elim | skip
    exact ⟨_, _, by rw [rv.int, rw.int], q.now st _ (.int _)⟩) hg hm hv ha hb hn hdb he he2 hpl
end
end DL

set_option Elab.async false
set_option linter.all false
set_option maxRecDepth 100000
set_option maxHeartbeats 4000000
/-! DL8: what a law's text is known by; pairs of stores; comprehensions stored; op=; lists joined, turned round. -/
namespace DL
open PySem PySem.Spec PyProof.Rows L2

theorem hu65 {A : Around} {k : Nat} (hr : Room k A) : A.units + 65 < cLine := by
  have := hr.un
  omega
/-- a def of the text, by its name -/
structure FnAt (K : PySem.W.Frag) (mg : Str → Option Value) (x : Str) (st : Stmt) (ps : List Str) where
  f : Addr
  fd : FuncData
  F : Fun K x x st f fd
  g : mg x = some (.ref f)
  b : Binds K fd ps []

def Md.of : Bool → Md
  | true => .fr
  | false => .fz
/-- what is stored: data, or a new list of one's own -/
def setSl (o : Bool) (i : Nat) (d : D) (δ : Δ) : Option Δ := match o with
  | false => some (δ.set i (some (.d d)))
  | true => match d with
    | .lst ds => some (δ.set i (some (.own ds)))
    | _ => none
section
variable {N : Nv} {W : XK} {X : Cx} {md : Md} {e a b c tg iter elt : Expr} {es : List Expr} {f fa fb fc : Δ → M D} {F : Δ → M Fl} {g0 : G0} {g : Gh} {H0 H : Hp} {S : Store} {δ : Δ} {σ : L2.St} {Q : VK} {pos p : Pos}
theorem RpM.keep {K : PySem.W.Frag} {Hs : Hp} {g g' : Gh} {H H' : Hp} {v : V} {d : D} (k : Kp g H g' H') : ∀ {m : Md}, RpM K Hs m g H v d → RpM K Hs m g' H' v d
  | .fz, h => Rp.keep k h
  | .bo, h => RpB.keep k h
  | .fr, ⟨a, vs, ds, e1, e2, hn, h1, nz, nr, hl, ra⟩ => by
    refine ⟨a, vs, ds, e1, e2, hn, k.kr _ _ h1 nr, fun z => ?_, fun z => ?_, hl, ra.keep k⟩
    · rcases k.zf a z with q | q
      · exact nz q
      · rw [h1] at q; cases q
    · rcases k.rf a z with q | q
      · exact nr q
      · rw [h1] at q; cases q
theorem Good.ownIn (G : Good N g0 H0 g S δ σ H) {j : Nat} {v : V} {es : List D} (hj : δ[j]? = some (some (.own es))) (hv : σ[j]? = some (some v)) {a : Addr} (ha : H a = none) : v ≠ .ref a := fun z => by
  obtain ⟨w, e, b, ws, ev, _, hb, _⟩ := G.sl j _ hj
  rw [hv] at e
  cases e
  subst z
  cases ev
  rw [ha] at hb
  cases hb
/-- a value that came since (gs, Hs) is stored -/
theorem Good.put {gs : Gh} {Hs : Hp} {Ss : Store} (Gs : Good N g0 H0 gs Ss δ σ Hs) (G : Good N g0 H0 g S δ σ H) {o : Bool} {i : Nat} {v : V} {d : D} {δ' : Δ} (r : RpM N.K Hs (Md.of o) g H v d) (e : setSl o i d δ = some δ') : Good N g0 H0 g S δ' (σ.set i (some v)) H := by
  cases o with
  | false =>
    cases e
    exact G.set r
  | true =>
    obtain ⟨a, vs, ds, e1, e2, hn, h1, nz, nr, hl, ra⟩ := r
    subst e1 e2
    cases e
    exact G.setOwn (Gs.kp.kd a hn) (fun j w es hj hv => Gs.ownIn hj hv hn) h1 nz nr hl ra
def fPar2 (i j : Nat) (o1 o2 : Bool) (fa fb : Δ → M D) : Δ → M Fl := fun δ => M.bind (fa δ) fun x => M.bind (fb δ) fun y => match (setSl o1 i x δ).bind fun δ1 => setSl o2 j y δ1 with
  | some δ' => M.ret (.nx δ')
  | none => M.stuck
/-- two values, then two stores -/
theorem par2_core {D : Ends} {i j : Nat} {o1 o2 : Bool} (G : Good N g0 H0 g S δ σ H) (r : ResS N W g0 H0 D (fPar2 i j o1 o2 fa fb δ S)) {R : List V → Hp → Prop}
    (hk : ∀ v w g2 H2 S2 δ2, Good N g0 H0 g2 S2 δ2 ((σ.set i (some v)).set j (some w)) H2 → (∀ g' σ' H', Good N g0 H0 g' S2 δ2 σ' H' → D.nx σ' H') → R [v, w] H2) : tCons (tE N W (Md.of o1) fa) (tCons (tE N W (Md.of o2) fb) tNil) σ H R :=
  sE G r fun x S1 v H1 g1 k1 G1 rv r1 => sE G1 r1 fun y S2 w H2 g2 k2 G2 rw' r2 => by
    show R [v, w] H2
    cases e1 : setSl o1 i x δ with
    | none => rw [e1] at r2; exact r2.elim
    | some δ1 =>
      have G1' := G.put G1 rv e1
      cases e2 : setSl o2 j y δ1 with
      | none =>
        rw [e1, Option.bind_some, e2] at r2
        exact r2.elim
      | some δ2 =>
        rw [e1, Option.bind_some, e2] at r2
        exact hk v w g2 H2 S2 δ2 (G1'.put (G1'.later k2 G2.st) rw' e2) r2
theorem ds_par2 {i j : Nat} {o1 o2 : Bool} {x y : Str} {px py pt pt2 : Pos} {kt k2} (hc : X.calm = true) (hN : X.N.Nodup) (ha : DE N W X (Md.of o1) a fa) (hb : DE N W X (Md.of o2) b fb) (hi : X.N[i]? = some x := by rfl) (hj : X.N[j]? = some y := by rfl) (hij : i ≠ j := by decide)
    (hx : X.env.scope.names.lookup x = some .local := by rfl) (hy : X.env.scope.names.lookup y = some .local := by rfl)
    (hw : swappedStores [.Tuple [.Name x px, .Name y py] kt pt] (.Tuple [a, b] k2 pt2) X.env = pure (some [x, y]) := by rfl)
    (hs : swapsWithSole [.Tuple [.Name x px, .Name y py] kt pt] (.Tuple [a, b] k2 pt2) pos.line X.env = pure false := by rfl)
    (he : starEach [a, b] X.env = (false, eval a X.env) :: starEach [b] X.env := by rfl) (he2 : starEach [b] X.env = (false, eval b X.env) :: starEach [] X.env := by rfl) :
    DS N W X (.Assign [.Tuple [.Name x px, .Name y py] kt pt] (.Tuple [a, b] k2 pt2) pos) (fPar2 i j o1 o2 fa fb) :=
  (ps_par hc hN hi hj hij hx hy (pa_cons ha (pa_cons hb pa_nil he2) he) hw hs).imp fun D σ H ⟨g0, H0, g, S, δ, G, r⟩ => par2_core G r fun v w g2 H2 S2 δ2 G2 h => ⟨v, w, rfl, h g2 _ H2 G2⟩
/-- the same where the pair is made (a name is a cell) -/
theorem ds_tup2 {i j : Nat} {o1 o2 : Bool} {x y : Str} {px py pt pt2 : Pos} {kt k2} (hc : X.calm = true) (hN : X.N.Nodup) (ha : DE N W X (Md.of o1) a fa) (hb : DE N W X (Md.of o2) b fb) (hi : X.N[i]? = some x := by rfl) (hj : X.N[j]? = some y := by rfl)
    (hx : Loc X.env.scope x := by first | exact Or.inl rfl | exact Or.inr rfl) (hy : Loc X.env.scope y := by first | exact Or.inl rfl | exact Or.inr rfl) (hfx : X.fn x = true ∨ X.env.scope.names.lookup x = some .local := by first | exact .inl rfl | exact .inr rfl) (hfy : X.fn y = true ∨ X.env.scope.names.lookup y = some .local := by first | exact .inl rfl | exact .inr rfl)
    (hs : swapsWithSole [.Tuple [.Name x px, .Name y py] kt pt] (.Tuple [a, b] k2 pt2) pos.line X.env = pure false := by rfl) (hw : swappedStores [.Tuple [.Name x px, .Name y py] kt pt] (.Tuple [a, b] k2 pt2) X.env = pure none := by rfl)
    (h1 : (assignEach [.Tuple [.Name x px, .Name y py] kt pt] X.env).map (·.2) = [assign (.Tuple [.Name x px, .Name y py] kt pt) X.env] := by rfl)
    (hn : (assignEach [.Name x px, .Name y py] X.env).length = 2 := by rfl) (hst : (assignEach [.Name x px, .Name y py] X.env).findIdx? (·.1) = none := by rfl)
    (t1 : (assignEach [.Name x px, .Name y py] X.env).map (·.2) = assign (.Name x px) X.env :: (assignEach [.Name y py] X.env).map (·.2) := by rfl) (t2 : (assignEach [.Name y py] X.env).map (·.2) = assign (.Name y py) X.env :: (assignEach [] X.env).map (·.2) := by rfl)
    (he : starEach [a, b] X.env = (false, eval a X.env) :: starEach [b] X.env := by rfl) (he2 : starEach [b] X.env = (false, eval b X.env) :: starEach [] X.env := by rfl) :
    DS N W X (.Assign [.Tuple [.Name x px, .Name y py] kt pt] (.Tuple [a, b] k2 pt2) pos) (fPar2 i j o1 o2 fa fb) :=
  (ps_asg (pe_tup (pa_cons ha (pa_cons hb pa_nil he2) he)) (pg_tup hc (pgs_cons (pg_name hN hi hx hfx) (pgs_cons (pg_name hN hj hy hfy) pgs_nil t2) t1) hn hst) hs hw h1).imp fun D σ H ⟨g0, H0, g, S, δ, G, r⟩ =>
    show tCons (tE N W (Md.of o1) fa) (tCons (tE N W (Md.of o2) fb) tNil) σ H (fun xs H1 => xs.length ≤ sizeLine ∧ ∀ p, H1 p = none → gTup X.K 2 (gCons (gName i) (gCons (gName j) gNil)) (.ref p) σ (upd H1 p (.tup xs)) D.nx) from par2_core G r fun v w g2 H2 S2 δ2 G2 h => by
      refine ⟨by show 2 ≤ sizeLine; decide, fun p hp => ⟨p, [v, w], rfl, .of upd_same, rfl, v, [w], rfl, w, [], rfl, rfl, ?_⟩⟩
      exact h g2 _ _ (G2.later (Ex.new hp).kp (G2.st.ex (Ex.new hp)))
def fPar3 (i j l : Nat) (o1 o2 o3 : Bool) (fa fb fc : Δ → M D) : Δ → M Fl := fun δ => M.bind (fa δ) fun x => M.bind (fb δ) fun y => M.bind (fc δ) fun z => match ((setSl o1 i x δ).bind fun δ1 => setSl o2 j y δ1).bind fun δ2 => setSl o3 l z δ2 with
  | some δ' => M.ret (.nx δ')
  | none => M.stuck
theorem par3_core {D : Ends} {i j l : Nat} {o1 o2 o3 : Bool} (G : Good N g0 H0 g S δ σ H) (r : ResS N W g0 H0 D (fPar3 i j l o1 o2 o3 fa fb fc δ S)) {R : List V → Hp → Prop}
    (hk : ∀ u v w g2 H2 S2 δ2, Good N g0 H0 g2 S2 δ2 (((σ.set i (some u)).set j (some v)).set l (some w)) H2 → (∀ g' σ' H', Good N g0 H0 g' S2 δ2 σ' H' → D.nx σ' H') → R [u, v, w] H2) : tCons (tE N W (Md.of o1) fa) (tCons (tE N W (Md.of o2) fb) (tCons (tE N W (Md.of o3) fc) tNil)) σ H R :=
  sE G r fun x S1 u H1 g1 k1 G1 ru r1 => sE G1 r1 fun y S2 v H2 g2 k2 G2 rv r2 => sE G2 r2 fun z S3 w H3 g3 k3 G3 rw' r3 => by
    show R [u, v, w] H3
    cases e1 : setSl o1 i x δ with
    | none => rw [e1] at r3; exact r3.elim
    | some δ1 =>
      have G1' := G.put G1 ru e1
      cases e2 : setSl o2 j y δ1 with
      | none =>
        rw [e1, Option.bind_some, e2] at r3
        exact r3.elim
      | some δ2 =>
        have G2' := G1'.put (G1'.later k2 G2.st) rv e2
        cases e3 : setSl o3 l z δ2 with
        | none =>
          rw [e1, Option.bind_some, e2, Option.bind_some, e3] at r3
          exact r3.elim
        | some δ3 =>
          rw [e1, Option.bind_some, e2, Option.bind_some, e3] at r3
          exact hk u v w g3 H3 S3 δ3 (G2'.put (G2'.later k3 G3.st) rw' e3) r3
theorem ds_par3 {i j l : Nat} {o1 o2 o3 : Bool} {x y z : Str} {px py pz pt pt2 : Pos} {kt k2} (hc : X.calm = true) (hN : X.N.Nodup) (ha : DE N W X (Md.of o1) a fa) (hb : DE N W X (Md.of o2) b fb) (hcc : DE N W X (Md.of o3) c fc) (hi : X.N[i]? = some x := by rfl) (hj : X.N[j]? = some y := by rfl) (hl : X.N[l]? = some z := by rfl) (hij : i ≠ j := by decide) (hil : i ≠ l := by decide) (hjl : j ≠ l := by decide)
    (hx : X.env.scope.names.lookup x = some .local := by rfl) (hy : X.env.scope.names.lookup y = some .local := by rfl) (hz : X.env.scope.names.lookup z = some .local := by rfl)
    (hw : swappedStores [.Tuple [.Name x px, .Name y py, .Name z pz] kt pt] (.Tuple [a, b, c] k2 pt2) X.env = pure (some [x, y, z]) := by rfl)
    (hs : swapsWithSole [.Tuple [.Name x px, .Name y py, .Name z pz] kt pt] (.Tuple [a, b, c] k2 pt2) pos.line X.env = pure false := by rfl)
    (he : starEach [a, b, c] X.env = (false, eval a X.env) :: starEach [b, c] X.env := by rfl) (he2 : starEach [b, c] X.env = (false, eval b X.env) :: starEach [c] X.env := by rfl) (he3 : starEach [c] X.env = (false, eval c X.env) :: starEach [] X.env := by rfl) :
    DS N W X (.Assign [.Tuple [.Name x px, .Name y py, .Name z pz] kt pt] (.Tuple [a, b, c] k2 pt2) pos) (fPar3 i j l o1 o2 o3 fa fb fc) :=
  (ps_par3 hc hN hi hj hl hij hil hjl hx hy hz (pa_cons ha (pa_cons hb (pa_cons hcc pa_nil he3) he2) he) hw hs).imp fun D σ H ⟨g0, H0, g, S, δ, G, r⟩ => par3_core G r fun u v w g2 H2 S2 δ2 G2 h => ⟨u, v, w, rfl, h g2 _ H2 G2⟩

/-! ### name = [..] on one line -/
theorem ds_setLc {i : Nat} {y : Str} {py spos : Pos} {ifs : List Expr} {scope : Scope} {own : List (Str × Nat)} {fi : Δ → M (List D)} {is : List Nat} {gg : D → Δ → Option Δ} {ft : Δ → M Bool} {fe : Δ → M D} (hc : X.calm = true) (hN : X.N.Nodup) (hy : X.N[i]? = some y) (hyl : X.env.scope.names.lookup y = some .local)
    (hsw : swapsWith (.ListComp elt [⟨tg, iter, ifs, 0⟩] scope pos) (some (.Name y py)) spos.line X.env = pure true) (hi : DI N W X tg iter fi) (ok : BlkOk X.N X.env.scope scope own)
    (hg : ∀ (s : Shared) (H : Hp) (C : Addr) (cl : List (Str × Addr)) (fp : List Addr), DG N (X.blk s H scope (compEnvC scope cl C X.env) fp) tg is gg)
    (ht : ∀ (s : Shared) (H : Hp) (C : Addr) (cl : List (Str × Addr)) (fp : List Addr), DTs N W0 (X.blk s H scope (compEnvC scope cl C X.env) fp) ifs ft)
    (he : ∀ (s : Shared) (H : Hp) (C : Addr) (cl : List (Str × Addr)) (fp : List Addr), DE N W0 (X.blk s H scope (compEnvC scope cl C X.env) fp) .fz elt fe)
    (his : ∀ i ∈ is, i ∈ own.map (·.2) := by decide) (hs : ∀ x, foldedSetIterable iter X.env x = pure x := by intro _; rfl) :
    DS N W X (.Assign [.Name y py] (.ListComp elt [⟨tg, iter, ifs, 0⟩] scope pos) spos) (fSet i (fLc fi gg ft fe (own.map (·.2)))) :=
  (ps_setLc hc hN hy hyl hsw hi ok hg ht he hs).imp fun D σ H ⟨g0, H0, g, S, δ, G, r⟩ => lc_weak (K := N.K) his (by
    have q : tE N W .fr (fLc fi gg ft fe (own.map (·.2))) σ H fun v H1 => D.nx (σ.set i (some v)) H1 := sE G r fun x S1 v H1 g1 k1 G1 rv r1 => by
      obtain ⟨a, vs, ds, e1, e2, hn, h1, nz, nr, hl, ra⟩ := rv
      subst e1 e2
      have h0 := G.kp.kd a hn
      have G2 := G1.setOwn (i := i) h0 (fun j w es hj hv => G.ownIn hj hv hn) h1 nz nr hl ra
      by_cases hlt : i < δ.length
      · obtain ⟨g', G3⟩ := G2.freeze (i := i) (ds := ds) (List.getElem?_set_self hlt)
        rw [List.set_set] at G3
        exact r1 g' _ H1 G3
      · have e1 : δ.set i (some (.own ds)) = δ := List.set_eq_of_length_le (by omega)
        have e2 : δ.set i (some (.d (.lst ds))) = δ := List.set_eq_of_length_le (by omega)
        rw [e1] at G2
        refine r1 g1 _ H1 ?_
        rw [e2]
        exact G2
    exact q)
theorem ds_ownLc {i : Nat} {y : Str} {py spos : Pos} {ifs : List Expr} {scope : Scope} {own : List (Str × Nat)} {fi : Δ → M (List D)} {is : List Nat} {gg : D → Δ → Option Δ} {ft : Δ → M Bool} {fe : Δ → M D} (hc : X.calm = true) (hN : X.N.Nodup) (hy : X.N[i]? = some y) (hyl : X.env.scope.names.lookup y = some .local)
    (hsw : swapsWith (.ListComp elt [⟨tg, iter, ifs, 0⟩] scope pos) (some (.Name y py)) spos.line X.env = pure true) (hi : DI N W X tg iter fi) (ok : BlkOk X.N X.env.scope scope own)
    (hg : ∀ (s : Shared) (H : Hp) (C : Addr) (cl : List (Str × Addr)) (fp : List Addr), DG N (X.blk s H scope (compEnvC scope cl C X.env) fp) tg is gg)
    (ht : ∀ (s : Shared) (H : Hp) (C : Addr) (cl : List (Str × Addr)) (fp : List Addr), DTs N W0 (X.blk s H scope (compEnvC scope cl C X.env) fp) ifs ft)
    (he : ∀ (s : Shared) (H : Hp) (C : Addr) (cl : List (Str × Addr)) (fp : List Addr), DE N W0 (X.blk s H scope (compEnvC scope cl C X.env) fp) .fz elt fe)
    (his : ∀ i ∈ is, i ∈ own.map (·.2) := by decide) (hs : ∀ x, foldedSetIterable iter X.env x = pure x := by intro _; rfl) :
    DS N W X (.Assign [.Name y py] (.ListComp elt [⟨tg, iter, ifs, 0⟩] scope pos) spos) (fOwn i (fLc fi gg ft fe (own.map (·.2)))) :=
  (ps_setLc hc hN hy hyl hsw hi ok hg ht he hs).imp fun D σ H ⟨g0, H0, g, S, δ, G, r⟩ => lc_weak (K := N.K) his (by
    have q : tE N W .fr (fLc fi gg ft fe (own.map (·.2))) σ H fun v H1 => D.nx (σ.set i (some v)) H1 := sE G r fun x S1 v H1 g1 k1 G1 rv r1 => by
      obtain ⟨a, vs, ds, e1, e2, hn, h1, nz, nr, hl, ra⟩ := rv
      subst e1 e2
      exact r1 g1 _ H1 (G1.setOwn (G.kp.kd a hn) (fun j w es hj hv => G.ownIn hj hv hn) h1 nz nr hl ra)
    exact q)

/-! ### x += e, x -= e of ints -/
def fAug (k : Int → Int → Int) (i : Nat) (f : Δ → M D) : Δ → M Fl := fun δ => M.bind (gv i δ) fun x => M.bind (f δ) fun y => match x, y with
  | .int m, .int n => M.ret (.nx (δ.set i (some (.d (.int (k m n))))))
  | _, _ => M.stuck
theorem gv_ok {i : Nat} {d : D} {S' : Store} (h : gv i δ S = .ok d S') : δ[i]? = some (some (.d d)) ∧ S' = S := by
  unfold gv at h
  cases hd : δ[i]? with
  | none => rw [hd] at h; cases h
  | some o =>
    rw [hd] at h
    cases o with
    | none => cases h
    | some s =>
      cases s with
      | own _ => cases h
      | d d => cases h; exact ⟨rfl, rfl⟩
theorem gv_noErr {i : Nat} {c : Str} {x : D} {S' : Store} (h : gv i δ S = .err c x S') : False := by
  unfold gv at h
  cases hd : δ[i]? with
  | none => rw [hd] at h; cases h
  | some o =>
    rw [hd] at h
    cases o with
    | none => cases h
    | some s => cases s <;> cases h
theorem ds_aug {i : Nat} {x : Str} {op : Operator} {k : Int → Int → Int} {pos' : Pos} (hN : X.N.Nodup) (hi : X.N[i]? = some x) (hx : Loc X.env.scope x) (ho : PIp X op (ipI k)) (h : DE N W X md e f) (hf : X.fn x = true ∨ X.env.scope.names.lookup x = some .local := by first | exact .inl rfl | exact .inr rfl | assumption) :
    DS N W X (.AugAssign (.Name x pos') op e pos) (fAug k i f) := (ps_aug hN hi hx h ho hf).imp fun D σ H ⟨g0, H0, g, S, δ, G, r⟩ => by
  unfold fAug at r
  cases eg : gv i δ S with
  | stk => rw [M.bind_stk eg] at r; exact r.elim
  | err c z S1 => exact (gv_noErr eg).elim
  | ok d S1 =>
    rw [M.bind_ok eg] at r
    obtain ⟨hd, rfl⟩ := gv_ok eg
    obtain ⟨v, hv, rv⟩ := G.sl i (.d d) hd
    refine ⟨v, hv, sE G r fun y S2 w H1 g1 k1 G1 rw' r1 => ?_⟩
    cases d <;> cases y <;> first | exact r1.elim | skip
    cases (show Rp N.K g H v _ from rv)
    exact ⟨_, _, rfl, rw'.bo.int, r1 g1 _ H1 (G1.set (.int _))⟩

/-! ### lists joined -/
def dCat : D → D → M D
  | .lst xs, .lst ys => if xs.length + ys.length ≤ sizeLine then M.ret (.lst (xs ++ ys)) else M.stuck
  | _, _ => M.stuck
theorem de_cat {ma mb : Md} (ha : DE N W X ma a fa) (hb : DE N W X mb b fb) : DE N W X .fr (.BinOp a .Add b pos) (f2 dCat fa fb) :=
  de_op op_cat (fun x y v w g H S Q st rv rw q => by
    cases x <;> cases y <;> first | exact q.elim | skip
    obtain ⟨h, q⟩ := Res.ite q
    obtain ⟨p, xs, e1, h1, l1, r1⟩ := rv.seqL
    obtain ⟨p2, ys, e2, h2, l2, r2⟩ := rw.seqL
    have hl : xs.length + ys.length ≤ sizeLine := by rw [r1.length, r2.length]; exact h
    exact ⟨p, p2, xs, ys, e1, e2, h1, h2, hl, Res.lst st (r1.append r2) (by rw [List.length_append]; exact hl) q⟩) ha hb

/-! ### tests of None, chains -/
theorem dt_isN {ma : Md} (ha : DE N W X ma a fa) {p2 j} : DT N W X (.Compare a [.Is] [.Constant .none j p2] pos) (tV (f1 dIsN fa)) :=
  (pt_cmpR op_isN ha pe_non (nomark _)).imp fun σ H Q ⟨g0, H0, g, S, δ, G, q⟩ => by
    unfold tV f1 at q
    rw [M.bind_assoc] at q
    refine tE.seq G q fun x S1 v H1 g1 k1 G1 rv q1 => ?_
    rw [rv.bo.isN.1] at q1
    exact ⟨rfl, _, rfl, Res.now (a := decide (v = V.non)) G1.st q1⟩
theorem dt_notN {ma : Md} (ha : DE N W X ma a fa) {p2 j} : DT N W X (.Compare a [.IsNot] [.Constant .none j p2] pos) (tV (f1 dNotN fa)) :=
  (pt_cmpR op_notN ha pe_non (nomark _)).imp fun σ H Q ⟨g0, H0, g, S, δ, G, q⟩ => by
    unfold tV f1 at q
    rw [M.bind_assoc] at q
    refine tE.seq G q fun x S1 v H1 g1 k1 G1 rv q1 => ?_
    rw [rv.bo.isN.2] at q1
    exact ⟨rfl, _, rfl, Res.now (a := !decide (v = V.non)) G1.st q1⟩
theorem dt_chain {ma mb mc : Md} {op op' : CmpOp} {r r' : R2} {k k' : D → D → M D} (ho : OpR X (compareOp op) r) (hk : OpD N W .fz r k) (ho' : OpR X (compareOp op') r') (hk' : OpD N W .fz r' k') (ha : DE N W X ma a fa) (hb : DE N W X mb b fb) (hc : DE N W X mc c fc)
    (hm : lastMarks [op, op'] [b, c] = false := by with_unfolding_all rfl) : DT N W X (.Compare a [op, op'] [b, c] pos) (tV (fChain k k' fa fb fc)) :=
  (pt_chain ho ho' ha hb hc hm).imp fun σ H Q ⟨g0, H0, g, S, δ, G, q⟩ => by
    have q : Res N W g H (fun g' H' b => Q b H') (M.bind (fa δ) (fun x => M.bind (fb δ) fun y => M.bind (k x y) fun z => M.bind z.isBl fun b => M.bind (if b = true then M.bind (fc δ) fun u => k' y u else M.ret (.bl false)) D.isBl) S) := by
      have e : tV (fChain k k' fa fb fc) δ = M.bind (fa δ) (fun x => M.bind (fb δ) fun y => M.bind (k x y) fun z => M.bind z.isBl fun b => M.bind (if b = true then M.bind (fc δ) fun u => k' y u else M.ret (.bl false)) D.isBl) := by
        unfold tV fChain
        simp only [M.bind_assoc]
      rw [← e]
      exact q
    refine tE.seq G q fun x S1 v H1 g1 k1 G1 rv q1 => tE.seq G1 q1 fun y S2 w H2 g2 k2 G2 rw' q2 => ?_
    refine hk x y v w g2 H2 S2 _ G2.st (rv.bo.keep k2) rw'.bo ?_
    have h := q2.first
    cases e : k x y S2 with
    | stk => rw [e] at h; exact h
    | err c z S3 => rw [e] at h; exact h
    | ok d S3 =>
      rw [e] at h
      intro g' H' kk st u ru
      obtain ⟨S', e', q⟩ := h g' H' kk st
      cases e'
      cases d <;> first | exact q.elim | skip
      rename_i t
      cases (show Rp N.K g' H' u _ from ru)
      refine ⟨t, rfl, ?_⟩
      have G3 := G2.later kk st
      have q := q.later kk
      cases t with
      | false =>
        rw [if_neg (by decide)]
        exact ⟨false, rfl, Res.now (a := false) G3.st q⟩
      | true =>
        rw [if_pos rfl]
        have q : Res N W g' H' (fun g' H' b => Q b H') (M.bind (M.bind (fc δ) fun u => k' y u) D.isBl S3) := q
        rw [M.bind_assoc] at q
        refine tE.seq G3 q fun z S4 w4 H4 g4 k4 G4 r4 q4 => ?_
        refine hk' y z w w4 g4 H4 S4 _ G4.st ((rw'.bo.keep kk).keep k4) r4.bo ?_
        have h := q4.first
        cases e : k' y z S4 with
        | stk => rw [e] at h; exact h
        | err c z S5 => rw [e] at h; exact h
        | ok d S5 =>
          rw [e] at h
          intro g5 H5 k5 st5 u5 ru5
          obtain ⟨S6, e6, q6⟩ := h g5 H5 k5 st5
          cases e6
          cases d <;> first | exact q6.elim | skip
          cases (show Rp N.K g5 H5 u5 _ from ru5)
          exact ⟨_, rfl, q6 g5 H5 k5 st5⟩
theorem dt_in {ma mb : Md} (hu : X.A.units + 65 < cLine) (ha : DE N W X ma a fa) (hb : DE N W X mb b fb) (he : ∀ whole, isTrue (.Compare a [.In] [b] pos) X.env whole = (do let v ← whole; standAt (Expr.pos (.Compare a [.In] [b] pos)); holding [v] (truthy v)) := by intro _; rfl) (hm : behindInMarks .In b = false := by rfl) (hK : N.K = X.K := by rfl) : DT N W X (.Compare a [.In] [b] pos) (tV (f2 dIn fa fb)) := dt_val (de_in hu ha hb hm hK) he
end
end DL

set_option Elab.async false
set_option linter.all false
set_option maxRecDepth 100000
set_option maxHeartbeats 4000000
/-! DL9: zip and enumerate of lists and tuples, mixed. -/
namespace DL
open PySem PySem.Spec PyProof.Rows L2

/-- a list (true) or a tuple (false) at a -/
def SqC (K : PySem.W.Frag) : Bool → Hp → Addr → List V → Prop
  | true => SqL K
  | false => SqT K
def IterC : Bool → Heap → Addr → Addr → Nat → Prop
  | true => fun h it l i => h.IsListIter it l i
  | false => fun h it l i => h.IsTupleIter it l i
def HeapC : Bool → Heap → Addr → Array Value → Prop
  | true => fun h l xs => h.IsList l xs
  | false => fun h l xs => h.IsTuple l xs
def itObj : Bool → Addr → Obj
  | true, l => { cls := .type "list_iterator", data := .fields #[.ref l, .int 0 0] }
  | false, l => { cls := .type "tuple_iterator", data := .fields #[.ref l, .int 0 0] }
theorem beginsC : ∀ (c : Bool) (l : Addr) (xs : Array Value), Begins (.ref l) (itObj c l) fun h => HeapC c h l xs
  | true, l, xs => begins_list l xs
  | false, l, xs => begins_tuple l xs
theorem drawsC {prog : Program} {w : World} {A : Around} (hh : A.handled = none) (it l : Addr) (hne : l ≠ it) (xs : Array Value) : ∀ c : Bool, Draws prog w A it [it, l] xs.size (fun i v => xs[i]? = some v) (fun i h => IterC c h it l i ∧ HeapC c h l xs)
  | true => .list hh it l hne xs
  | false => .tuple hh it l hne xs
theorem iterC_new {h : Heap} {it l : Addr} : ∀ {c : Bool}, h.get? it = some (itObj c l) → IterC c h it l 0
  | true, e => ⟨_, e, rfl, rfl⟩
  | false, e => ⟨_, e, rfl, rfl⟩
theorem iterC_at {h h' : Heap} {it l : Addr} {i : Nat} (k : ∀ o, h.get? it = some o → h'.get? it = some o) : ∀ {c : Bool}, IterC c h it l i → IterC c h' it l i
  | true, e => e.at k
  | false, e => e.at k
theorem iterC_obj {h : Heap} {it l : Addr} {i : Nat} : ∀ {c : Bool}, IterC c h it l i → ∃ o, h.get? it = some o ∧ ∀ v, o.data ≠ .cell v
  | true, ⟨o, e, _, d⟩ => ⟨o, e, fun v q => by rw [d] at q; cases q⟩
  | false, ⟨o, e, _, d⟩ => ⟨o, e, fun v q => by rw [d] at q; cases q⟩
theorem heapC_lt {h : Heap} {l : Addr} {xs : Array Value} : ∀ {c : Bool}, HeapC c h l xs → l < h.objs.size
  | true, ⟨_, e, _⟩ => Heap.lt_size e
  | false, ⟨_, e, _⟩ => Heap.lt_size e
section
variable {X : Cx} {pins : List (Addr × Obj)} {σ : L2.St} {H : Hp} {s : Shared} {a : Addr} {xs ys : List V}
theorem src (I : Inv X pins σ H s) : ∀ {c : Bool}, SqC X.K c H a xs → ∃ its : List Value, Vals xs its ∧ HeapC c s.heap a its.toArray
  | true, h => let ⟨its, rv, p, _⟩ := I.list h; ⟨its, rv, p.isList⟩
  | false, h => let ⟨its, rv, p, _⟩ := I.tuple h; ⟨its, rv, p⟩
theorem src_inj (I : Inv X pins σ H s) : ∀ {c : Bool}, SqC X.K c H a xs → SqC X.K c H a ys → xs = ys
  | true, h, h' => I.list_inj h h'
  | false, h, h' => I.tuple_inj h h'
end
/-- pairs of the items of a and b -/
def ItzC (K : PySem.W.Frag) (c d : Bool) (a b : Addr) : It :=
  ⟨fun i H => ∃ (xs ys : List V) (x y : V), SqC K c H a xs ∧ SqC K d H b ys ∧ xs[i]? = some x ∧ ys[i]? = some y,
    fun i H v H' => ∃ T x y, v = .ref T ∧ H T = none ∧ H' = upd H T (.tup [x, y]) ∧ (∀ xs, SqC K c H a xs → xs[i]? = some x) ∧ ∀ ys, SqC K d H b ys → ys[i]? = some y,
    fun i H => ∃ xs ys : List V, SqC K c H a xs ∧ SqC K d H b ys ∧ (xs.length = i ∧ i ≤ ys.length ∨ ys.length = i ∧ i ≤ xs.length)⟩
theorem mem5 {p : Addr → Prop} {z TI TO i1 i2 : Addr} (h1 : p z) (h2 : p TI) (h3 : p TO) (h4 : p i1) (h5 : p i2) : ∀ c ∈ [z, TI, TO, i1, i2], p c := by
  intro c hc
  simp only [List.mem_cons, List.not_mem_nil, or_false] at hc
  rcases hc with q | q | q | q | q <;> (rw [q]; assumption)
theorem turn_zipC {P : Program} {w : World} {K : PySem.W.Frag} {elts : List Expr} {kk : Nat} {tpos : Pos} {c d : Bool} {a b z TI TO i1 i2 : Addr} (D : ZipSep2 z TI TO i1 i2 [i1, a] [i2, b]) (na : a ≠ i1) (nb : b ≠ i2) :
    Turn P w K (.Tuple elts kk tpos) (ItzC K c d a b) [z, TI, TO, i1, i2] z (fun i h => IsZip h z TI TO .none ∧ IsTupOf2 h TI (.ref i1) (.ref i2) ∧ (∃ x y, IsTupOf2 h TO x y) ∧ IterC c h i1 a i ∧ IterC d h i2 b i) where
  mem := by simp
  obj := fun i h st => by
    obtain ⟨hz, hTI, ⟨x, y, hTO⟩, h1, h2⟩ := st
    exact mem5 (p := fun b => ∃ o, h.get? b = some o ∧ ∀ v, o.data ≠ .cell v) ⟨_, hz, fun v q => nomatch q⟩ ⟨_, hTI, fun v q => nomatch q⟩ ⟨_, hTO, fun v q => nomatch q⟩ (iterC_obj h1) (iterC_obj h2)
  keep := fun i h h' st k => by
    obtain ⟨hz, hTI, ⟨x, y, hTO⟩, h1, h2⟩ := st
    exact ⟨k z (by simp) _ hz, k TI (by simp) _ hTI, ⟨x, y, k TO (by simp) _ hTO⟩, iterC_at (k i1 (by simp)) h1, iterC_at (k i2 (by simp)) h2⟩
  item := by
    intro X hP hw hK hc i pins s σ H E I hf st hg
    subst hP hw hK
    obtain ⟨hz, hTI, ⟨x0, y0, hTO⟩, h1, h2⟩ := st
    obtain ⟨xs, ys, x, y, hqx, hqy, hx, hy⟩ := hg
    obtain ⟨its, rv, p⟩ := src I hqx
    obtain ⟨its2, rv2, p2⟩ := src I hqy
    obtain ⟨u, hu, ru⟩ := rv.get hx
    obtain ⟨u2, hu2, ru2⟩ := rv2.get hy
    have hzl : z < s.heap.objs.size := Heap.lt_size hz
    have hh : X.A.in1.handled = none := I.ok.hd hc
    have l1 : i < its.toArray.size := by simpa using (List.getElem?_eq_some_iff.mp hu).1
    have l2 : i < its2.toArray.size := by simpa using (List.getElem?_eq_some_iff.mp hu2).1
    refine wpAny_pyNext_zipD2_item D (drawsC hh i1 a na its.toArray c) (drawsC hh i2 b nb its2.toArray d) hz hTI hTO ⟨h1, p⟩ ⟨h2, p2⟩ l1 l2 fun v1 v2 h' tk e1 e2 z' TO' s1 s2 hT hsz hk => ?_
    have e1 : its.toArray[i]? = some v1 := e1
    have e2 : its2.toArray[i]? = some v2 := e2
    rw [List.getElem?_toArray, hu] at e1
    rw [List.getElem?_toArray, hu2] at e2
    cases e1
    cases e2
    refine ⟨_, rfl, wpAny_letOwnedTupleGo_zip (s := { s with heap := h', toks := tk }) z' fun h'' z'' sb => ?_⟩
    have hT2 : h''.get? s.heap.objs.size = some { cls := .type "tuple", data := .seq #[u, u2] } := (sb.2 _ (Nat.ne_of_gt hzl)).trans hT
    have new : ObjOk X.prog X.w (upd H s.heap.objs.size (.tup [x, y])) h'' s.heap.objs.size (.tup [x, y]) :=
      ⟨by show 2 ≤ sizeLine; decide, [u, u2], .cons ru (.cons ru2 .nil), ⟨_, hT2, rfl, _, rfl⟩⟩
    have I1 : Inv X pins σ (upd H s.heap.objs.size (.tup [x, y])) { s with heap := h'', toks := tk } :=
      I.turnedNew (t' := tk) (ch := [z, TI, TO, i1, i2]) (fun c o hb q => (sb.2 c (fun q' => hb (by simp [q']))).trans (hk c o (fun q' => hb (by simp [q'])) (fun q' => hb (by simp [q'])) (fun q' => hb (by simp [q'])) (fun q' => hb (by simp [q'])) q)) hf (Nat.le_refl _) new
    refine ⟨.ref s.heap.objs.size, _, I1, rfl, ⟨_, x, y, rfl, I.hok.fresh (Nat.le_refl _), rfl, fun l hl => by rw [src_inj I hl hqx]; exact hx, fun l hl => by rw [src_inj I hl hqy]; exact hy⟩, ⟨z'', ?_, ⟨u, u2, ?_⟩, ?_, ?_⟩, ?_⟩
    · exact (sb.2 _ D.TIz).trans (hk _ _ D.TIz D.TITO D.TIi1 D.TIi2 hTI)
    · exact (sb.2 _ D.TOz).trans TO'
    · exact iterC_at (fun o q => (sb.2 _ D.zi1.symm).trans q) s1.1
    · exact iterC_at (fun o q => (sb.2 _ D.zi2.symm).trans q) s2.1
    · have o1 : i1 < s.heap.objs.size := let ⟨_, e, _⟩ := iterC_obj h1; Heap.lt_size e
      have o2 : i2 < s.heap.objs.size := let ⟨_, e, _⟩ := iterC_obj h2; Heap.lt_size e
      have all := mem5 (p := fun b => b < s.heap.objs.size) hzl (Heap.lt_size hTI) (Heap.lt_size hTO) o1 o2
      intro c hcm
      rw [upd_ne (Nat.ne_of_lt (all c hcm))]
      exact (hf c hcm).1
  done := by
    intro X hP hw hK hc i pins s σ H E I hf st hg
    subst hP hw hK
    obtain ⟨hz, hTI, ⟨x0, y0, hTO⟩, h1, h2⟩ := st
    obtain ⟨xs, ys, hqx, hqy, hend⟩ := hg
    obtain ⟨its, rv, p⟩ := src I hqx
    obtain ⟨its2, rv2, p2⟩ := src I hqy
    have l1 := rv.length
    have l2 := rv2.length
    have hh : X.A.in1.handled = none := I.ok.hd hc
    refine wpAny_pyNext_zipD2_end D (drawsC hh i1 a na its.toArray c) (drawsC hh i2 b nb its2.toArray d) hz hTI hTO ⟨h1, p⟩ ⟨h2, p2⟩ (by simp; omega) (by simp; omega) (by simp; omega) fun h' tk hk => ?_
    exact ⟨rfl, I.turnedL (t' := tk) (ch := [z, TI, TO, i1, i2]) (fun c o hb q => hk c o (fun q' => hb (by simp [q'])) (fun q' => hb (by simp [q'])) (fun q' => hb (by simp [q'])) (fun q' => hb (by simp [q'])) q) hf⟩
  self := fun A i s Q E st h => wpAny_pyIter_zip st.1 h
def iZipW (K : PySem.W.Frag) (ta : TA) : TI := fun σ H R => ta σ H fun vs H1 => ∃ c d a b xs ys, vs = [.ref a, .ref b] ∧ SqC K c H1 a xs ∧ SqC K d H1 b ys ∧ R (ItzC K c d a b) H1
theorem pi_zipC {X : Cx} {e e2 : Expr} {ta : TA} {p pos tpos : Pos} {elts : List Expr} {kk : Nat} (hg : Gl X "zip") (hm : X.mg "zip" = none) (ha : PA X [e, e2] ta)
    (hs : starEach [e, e2] X.env = (false, eval e X.env) :: starEach [e2] X.env := by rfl) (hpl : (backTo pos (starEach [e2] X.env)).any (·.1) = false := by rfl) :
    PI X (.Tuple elts kk tpos) (.Call (.Name "zip" p) [e, e2] [] pos) (iZipW X.K ta) := by
  refine ⟨fun pins s σ H R I h => ?_⟩
  refine Call_ (ld_blt I hg hm PyProof.Rows.boot_zip (PyProof.Rows.callWith_type1 (thn (ha.run pos pins s σ H _ I h) fun us s1 ⟨vs, H1, I1, r1, q1⟩ => ?_) hs hpl))
  obtain ⟨c, d, a, b, xs, ys, ex, hqx, hqy, q⟩ := q1
  subst ex
  cases r1 with
  | cons r rr =>
    cases rr with
    | cons r' rr =>
      cases rr
      cases r
      cases r'
      obtain ⟨its, rv, p1⟩ := src I1 hqx
      obtain ⟨its2, rv2, p2⟩ := src I1 hqy
      have la := heapC_lt p1
      have lb := heapC_lt p2
      refine zip_begins2 (beginsC c a its.toArray) (beginsC d b its2.toArray) p1 p2 fun h' hz hTI hTO h1 h2 hsz hk => wpAny_pyIter_zip hz ?_
      have I2 : Inv X pins σ H1 { s1 with heap := h' } := I1.kept (t' := s1.toks) hk
      refine ⟨s1.heap.objs.size + 4, [s1.heap.objs.size + 4, s1.heap.objs.size + 2, s1.heap.objs.size + 3, s1.heap.objs.size, s1.heap.objs.size + 1], _, _, H1, rfl, I2,
        turn_zipC (zip_sep2 (fp1 := [a]) (fp2 := [b]) (fun x hx => by simp at hx; rw [hx]; exact la) fun x hx => by simp at hx; rw [hx]; exact lb) (Nat.ne_of_lt la) (Nat.ne_of_lt (Nat.lt_succ_of_lt lb)), ⟨hz, hTI, ⟨_, _, hTO⟩, iterC_new h1, iterC_new h2⟩, ?_, q⟩
      have fr : ∀ k, FpOk X pins H1 (s1.heap.objs.size + k) := fun k => I1.fpOk (Nat.le_add_right _ _) (I1.hok.fresh (Nat.le_add_right _ _))
      exact mem5 (fr 4) (fr 2) (fr 3) (fr 0) (fr 1)

/-! ### enumerate -/
def IteC (K : PySem.W.Frag) (c : Bool) (a : Addr) : It :=
  ⟨fun i H => ∃ (xs : List V) (x : V), SqC K c H a xs ∧ xs[i]? = some x, fun i H v H' => ∃ T x, v = .ref T ∧ H T = none ∧ H' = upd H T (.tup [.int (i : Nat), x]) ∧ ∀ xs, SqC K c H a xs → xs[i]? = some x, fun i H => ∃ xs : List V, SqC K c H a xs ∧ xs.length = i⟩
theorem turn_enumC {P : Program} {w : World} {K : PySem.W.Frag} {elts : List Expr} {kk : Nat} {tpos : Pos} {c : Bool} (a e it : Addr) (hne : e ≠ it) (hea : e ≠ a) (hia : a ≠ it) :
    Turn P w K (.Tuple elts kk tpos) (IteC K c a) [e, it] e (fun i h => (∃ old, IsEnum h e it ((i : Nat) : Int) old) ∧ IterC c h it a i) where
  mem := by simp
  obj := fun i h st b hb => by
    obtain ⟨⟨old, he⟩, hi⟩ := st
    simp only [List.mem_cons, List.not_mem_nil, or_false] at hb
    rcases hb with q | q
    · rw [q]; exact ⟨_, he, fun v q => nomatch q⟩
    · rw [q]; exact iterC_obj hi
  keep := fun i h h' st k => let ⟨⟨old, he⟩, hi⟩ := st; ⟨⟨old, k e (by simp) _ he⟩, iterC_at (k it (by simp)) hi⟩
  item := by
    intro X hP hw hK hc i pins s σ H E I hf st hg
    subst hP hw hK
    obtain ⟨⟨old, he⟩, hit⟩ := st
    obtain ⟨xs, x, hq, hx⟩ := hg
    obtain ⟨its, rv, p⟩ := src I hq
    obtain ⟨u, hu, ru⟩ := rv.get hx
    have hel : e < s.heap.objs.size := Heap.lt_size he
    have hil : it < s.heap.objs.size := let ⟨_, q, _⟩ := iterC_obj hit; Heap.lt_size q
    have hh : X.A.in1.handled = none := I.ok.hd hc
    have l1 : i < its.toArray.size := by simpa using (List.getElem?_eq_some_iff.mp hu).1
    refine wpAny_pyNext_enum_itemD (drawsC hh it a hia its.toArray c) he ⟨hit, p⟩ l1 hne (by simp [hne, hea]) fun v h' tk e1 ho hit' hT hsz hk => ?_
    have e1 : its.toArray[i]? = some v := e1
    rw [List.getElem?_toArray, hu] at e1
    cases e1
    refine ⟨_, rfl, wpAny_letOwnedTupleGo_enum (s := { s with heap := h', toks := tk + 1 }) ho fun h'' he' sb => ?_⟩
    have hT2 : h''.get? s.heap.objs.size = some { cls := .type "tuple", data := .seq #[.int i tk, u] } := (sb.2 _ (Nat.ne_of_gt hel)).trans hT
    have new : ObjOk X.prog X.w (upd H s.heap.objs.size (.tup [.int (i : Nat), x])) h'' s.heap.objs.size (.tup [.int (i : Nat), x]) :=
      ⟨by show 2 ≤ sizeLine; decide, [.int i tk, u], .cons ⟨_, rfl⟩ (.cons ru .nil), ⟨_, hT2, rfl, _, rfl⟩⟩
    have I1 : Inv X pins σ (upd H s.heap.objs.size (.tup [.int (i : Nat), x])) { s with heap := h'', toks := tk + 1 } :=
      I.turnedNew (ch := [e, it]) (fun b ob hb q => (sb.2 b (fun z => hb (by simp [z]))).trans (hk b ob (fun z => hb (by simp [z])) (fun z => hb (by simp [z])) q)) hf (Nat.le_refl _) new
    refine ⟨.ref s.heap.objs.size, _, I1, rfl, ⟨_, x, rfl, I.hok.fresh (Nat.le_refl _), rfl, fun ys hy => by rw [src_inj I hy hq]; exact hx⟩, ⟨⟨u, ?_⟩, iterC_at (fun o q => (sb.2 it (Ne.symm hne)).trans q) hit'.1⟩, fun b hb => ?_⟩
    · rw [show ((i + 1 : Nat) : Int) = (i : Int) + 1 by omega]
      exact he'
    · have hb' : b < s.heap.objs.size := by
        have e' : b = e ∨ b = it := by simpa using hb
        rcases e' with z | z
        · rw [z]; exact hel
        · rw [z]; exact hil
      rw [upd_ne (Nat.ne_of_lt hb')]
      exact (hf b hb).1
  done := by
    intro X hP hw hK hc i pins s σ H E I hf st hg
    subst hP hw hK
    obtain ⟨⟨old, he⟩, hit⟩ := st
    obtain ⟨xs, hq, hx⟩ := hg
    obtain ⟨its, rv, p⟩ := src I hq
    obtain ⟨f0, f1, f2, f3, f4, f5⟩ := hf it (by simp)
    have hl : its.toArray.size = i := by simp; rw [← hx, rv.length]
    have hh : X.A.in1.handled = none := I.ok.hd hc
    subst hl
    exact wpAny_pyNext_enum_endD (drawsC hh it a hia its.toArray c) he ⟨hit, p⟩ fun h' eb => ⟨rfl, I.turned (t' := s.toks) (fun b o hb q => eb b o hb q) f0 f1 f3 f4 f5⟩
  self := fun A i s Q E st h => let ⟨⟨_, he⟩, _⟩ := st; wpAny_pyIter_enum he h
set_option maxHeartbeats 1000000 in
theorem meets_enum1 {v : Value} {o : Obj} {H : Heap → Prop} (B : Begins v o H) :
    Meets (Builtin.«enumerate.__new__» ⟨[.type "enumerate", v], []⟩) (fun _ R s => H s.heap ∧
      R (.ok (.ret (.ref (s.heap.push o).objs.size))) { s with heap := (s.heap.push o).push { cls := .type "enumerate", data := .fields #[.none, .bool false, .ref s.heap.objs.size, rawInt 0, .none, .none] } }) :=
  .of_wp fun prog w A R s h => by
    obtain ⟨hp, g, d, tk, os⟩ := s; obtain ⟨h1, h⟩ := h
    have hsub := sub_enumerate
    have q1 : ∀ {A' : Around} {E : Value → Shared → Prop} {Q : Value → Shared → Prop}, Q (.ref hp.objs.size) ⟨hp.push o, g, d, tk, os⟩ → wpAny (model prog w) A' (pyIter v) Q E ⟨hp, g, d, tk, os⟩ :=
      fun q => B.iter prog w _ _ ⟨hp, g, d, tk, os⟩ _ h1 q
    wp_walk using q1
    refine wpAny_stack_any fun st => wpAny_pure ?_
    split
    · rename_i c _ _ _ _ _
      cases (c == Value.type "enumerate")
      · wp_walk using q1
        exact ⟨_, rfl, h⟩
      · wp_walk using q1
        exact ⟨_, rfl, h⟩
    · wp_walk using q1
      exact ⟨_, rfl, h⟩
theorem enum_begins1 {prog : Program} {w : World} {A : Around} {E : Value → Shared → Prop} {s : Shared} {v : Value} {o : Obj} {H : Heap → Prop} {Q : Value → Shared → Prop} (B : Begins v o H) (h1 : H s.heap)
    (h : ∀ h', IsEnum h' (s.heap.objs.size + 1) s.heap.objs.size 0 .none → h'.get? s.heap.objs.size = some o → (∀ b o, s.heap.get? b = some o → h'.get? b = some o) → Q (.ref (s.heap.objs.size + 1)) { s with heap := h' }) :
    wpAny (model prog w) A (call (.type "enumerate") [v]) Q E s := by
  refine callType_new F.called_enumerate (by decide) (F.typeCall_enumerate_1 _) (F.newCall_enumerate_1 _) (fun obj => F.args_object_init_2 obj _) F.entry_enumerate_new
    (meets_enum1 B) ⟨h1, ?_⟩
  have hz : (s.heap.push o).objs.size = s.heap.objs.size + 1 := Heap.size_push ..
  show _ ∧ _
  rw [hz]
  have he : IsEnum ((s.heap.push o).push { cls := .type "enumerate", data := .fields #[.none, .bool false, .ref s.heap.objs.size, rawInt 0, .none, .none] }) (s.heap.objs.size + 1) s.heap.objs.size 0 .none := by
    have := Heap.get?_push_size (s.heap.push o) (o := { cls := .type "enumerate", data := .fields #[.none, .bool false, .ref s.heap.objs.size, rawInt 0, .none, .none] }) rfl
    rw [hz] at this; exact this
  exact ⟨⟨_, he, rfl⟩, h _ he (Heap.get?_push_of_some _ (Heap.get?_push_size _ B.free)) fun b o x => Heap.get?_push_of_some _ (Heap.get?_push_of_some _ x)⟩
def iEnumW (K : PySem.W.Frag) (ta : TA) : TI := fun σ H R => ta σ H fun vs H1 => ∃ c a xs, vs = [.ref a] ∧ SqC K c H1 a xs ∧ R (IteC K c a) H1
theorem pi_enumC {X : Cx} {e : Expr} {ta : TA} {p pos tpos : Pos} {elts : List Expr} {kk : Nat} (hg : Gl X "enumerate") (hm : X.mg "enumerate" = none) (ha : PA X [e] ta) (hs : starEach [e] X.env = [(false, eval e X.env)] := by rfl) :
    PI X (.Tuple elts kk tpos) (.Call (.Name "enumerate" p) [e] [] pos) (iEnumW X.K ta) := by
  refine ⟨fun pins s σ H R I h => ?_⟩
  refine Call_ (ld_blt I hg hm boot_enumerate (PyProof.Rows.callWith_type1 (thn (ha.run pos pins s σ H _ I h) fun us s1 ⟨vs, H1, I1, r1, q1⟩ => ?_) hs rfl))
  obtain ⟨c, a, xs, ex, hq, q⟩ := q1
  subst ex
  cases r1 with
  | cons r rr =>
    cases rr
    cases r
    obtain ⟨its, rv, p1⟩ := src I1 hq
    have la := heapC_lt p1
    refine enum_begins1 (beginsC c a its.toArray) p1 fun h' he hit hk => wpAny_pyIter_enum he ?_
    have I2 : Inv X pins σ H1 { s1 with heap := h' } := I1.kept (t' := s1.toks) hk
    refine ⟨s1.heap.objs.size + 1, [s1.heap.objs.size + 1, s1.heap.objs.size], _, _, H1, rfl, I2, turn_enumC (c := c) a (s1.heap.objs.size + 1) s1.heap.objs.size (Nat.succ_ne_self _) (Nat.ne_of_gt (Nat.lt_succ_of_lt la)) (Nat.ne_of_lt la), ⟨⟨.none, he⟩, iterC_new hit⟩, fun b hb => ?_, q⟩
    have e' : b = s1.heap.objs.size + 1 ∨ b = s1.heap.objs.size := by simpa using hb
    have hle : s1.heap.objs.size ≤ b := by
      rcases e' with z | z
      · rw [z]; exact Nat.le_add_right _ _
      · rw [z]; exact Nat.le_refl _
    exact I1.fpOk hle (I1.hok.fresh hle)

/-! ### by data -/
section
variable {N : Nv} {W : XK} {X : Cx} {a b tg : Expr} {fa fb : Δ → M D} {g0 : G0} {g : Gh} {H0 H : Hp} {S : Store} {δ : Δ} {σ : L2.St} {pos p : Pos}
def D.isL : D → Bool
  | .lst _ => true
  | _ => false
/-- a frozen row of items: it stays -/
theorem rowC {v : V} {d : D} {ds : List D} (K : PySem.W.Frag) (r : Rp N.K g H v d) (h : d.items = some ds) : ∃ a xs, v = .ref a ∧ xs.length ≤ sizeLine ∧ RpAll N.K g H xs ds ∧ ∀ g' H', Kq g H g' H' → SqC K d.isL H' a xs := by
  cases d with
  | lst es =>
    cases h
    cases r with
    | lst z hs hl ra => exact ⟨_, _, rfl, hl, ra, fun g' H' k => .of (k.kz _ _ z hs)⟩
  | tup es =>
    cases h
    cases r with
    | tup hs hl ra => exact ⟨_, _, rfl, hl, ra, fun g' H' k => .of (k.kt _ _ hs)⟩
  | _ => cases h
def iZip (fa fb : Δ → M D) : Δ → M (List D) := fun δ => M.bind (fa δ) fun x => M.bind (fb δ) fun y => M.bind (M.opt x.items) fun xs => M.bind (M.opt y.items) fun ys => M.ret ((xs.zip ys).map fun p => .tup [p.1, p.2])
theorem di_zip {elts : List Expr} {kk : Nat} {tpos : Pos} (hg : Gl X "zip") (hm : X.mg "zip" = none) (ha : DE N W X .fz a fa) (hb : DE N W X .fz b fb)
    (hs : starEach [a, b] X.env = (false, eval a X.env) :: starEach [b] X.env := by rfl) (hs2 : starEach [b] X.env = (false, eval b X.env) :: starEach [] X.env := by rfl) (hpl : (backTo pos (starEach [b] X.env)).any (·.1) = false := by rfl) : DI N W X (.Tuple elts kk tpos) (.Call (.Name "zip" p) [a, b] [] pos) (iZip fa fb) :=
  (pi_zipC hg hm (pa_cons ha (pa_cons hb pa_nil hs2) hs) hs hpl).imp fun σ H R ⟨g0, H0, g, S, δ, G, q⟩ => tE.seq G q fun x S1 v H1 g1 k1 G1 rv q1 => tE.seq G1 q1 fun y S2 w H2 g2 k2 G2 rw' q2 => by
    obtain ⟨xs, ex, q2⟩ : ∃ xs, x.items = some xs ∧ Res N W g2 H2 (fun g' H' ds => ∀ J, ItOk N g' H' J ds → R J H') (M.bind (M.opt y.items) (fun ys => M.ret ((xs.zip ys).map fun p => D.tup [p.1, p.2])) S2) := by
      cases e : x.items with
      | none => rw [e] at q2; exact q2.elim
      | some xs => rw [e] at q2; exact ⟨xs, rfl, q2⟩
    obtain ⟨ys, ey, q2⟩ : ∃ ys, y.items = some ys ∧ Res N W g2 H2 (fun g' H' ds => ∀ J, ItOk N g' H' J ds → R J H') (M.ret ((xs.zip ys).map fun p => D.tup [p.1, p.2]) S2) := by
      cases e : y.items with
      | none => rw [e] at q2; exact q2.elim
      | some ys => rw [e] at q2; exact ⟨ys, rfl, q2⟩
    obtain ⟨p1, vs, e1, hl1, r1, s1⟩ := rowC X.K (Rp.keep k2 rv) ex
    obtain ⟨p2, ws, e2, hl2, r2, s2⟩ := rowC X.K rw' ey
    have kr : Kq g2 H2 g2 H2 := (Kp.refl _ _).q
    refine ⟨x.isL, y.isL, p1, p2, vs, ws, by rw [e1, e2], s1 _ _ kr, s2 _ _ kr, Res.now G2.st q2 _ ?_⟩
    have lz : ((xs.zip ys).map fun p => D.tup [p.1, p.2]).length = min vs.length ws.length := by rw [List.length_map, List.length_zip, r1.length, r2.length]
    exact
      { len := by rw [lz]; exact Nat.le_trans (Nat.min_le_left _ _) hl1
        go := fun g' H' i k hi => by
          rw [lz] at hi
          exact ⟨vs, ws, _, _, s1 _ _ k, s2 _ _ k, List.getElem?_eq_getElem (by omega), List.getElem?_eq_getElem (by omega)⟩
        stop := fun g' H' i k hi => by
          rw [lz] at hi
          exact ⟨vs, ws, s1 _ _ k, s2 _ _ k, by omega⟩
        yld := fun g' H' i x H'' d k hd hy => by
          obtain ⟨T, u, v, rfl, hT, rfl, f1, f2⟩ := hy
          rw [List.getElem?_map, Option.map_eq_some_iff] at hd
          obtain ⟨⟨d1, d2⟩, hz, rfl⟩ := hd
          rw [List.getElem?_zip_eq_some] at hz
          obtain ⟨u', hu, ru⟩ := r1.get hz.1
          obtain ⟨v', hv, rv⟩ := r2.get hz.2
          have q1 := f1 _ (s1 _ _ k)
          have q2 := f2 _ (s2 _ _ k)
          rw [hu] at q1
          rw [hv] at q2
          cases q1
          cases q2
          have kk := (Ex.new (g := g') (o := .tup [u, v]) hT).kp
          exact ⟨g', Ex.new hT, .tup upd_same (by show 2 ≤ sizeLine; decide) (.cons ((ru.keepQ k).keep kk) (.cons ((rv.keepQ k).keep kk) .nil))⟩ }
def iEnum (fa : Δ → M D) : Δ → M (List D) := fun δ => M.bind (fa δ) fun x => M.bind (M.opt x.items) fun xs => M.ret (xs.zipIdx.map fun p => .tup [.int (p.2 : Nat), p.1])
theorem di_enum {elts : List Expr} {kk : Nat} {tpos : Pos} (hg : Gl X "enumerate") (hm : X.mg "enumerate" = none) (ha : DE N W X .fz a fa)
    (hs : starEach [a] X.env = [(false, eval a X.env)] := by rfl) (hs2 : starEach [a] X.env = (false, eval a X.env) :: starEach [] X.env := by rfl) : DI N W X (.Tuple elts kk tpos) (.Call (.Name "enumerate" p) [a] [] pos) (iEnum fa) :=
  (pi_enumC hg hm (pa_cons ha pa_nil hs2) hs).imp fun σ H R ⟨g0, H0, g, S, δ, G, q⟩ => tE.seq G q fun x S1 v H1 g1 k1 G1 rv q1 => by
    obtain ⟨xs, ex, q1⟩ : ∃ xs, x.items = some xs ∧ Res N W g1 H1 (fun g' H' ds => ∀ J, ItOk N g' H' J ds → R J H') (M.ret (xs.zipIdx.map fun p => D.tup [.int (p.2 : Nat), p.1]) S1) := by
      cases e : x.items with
      | none => rw [e] at q1; exact q1.elim
      | some xs => rw [e] at q1; exact ⟨xs, rfl, q1⟩
    obtain ⟨p1, vs, e1, hl1, r1, s1⟩ := rowC X.K rv ex
    have kr : Kq g1 H1 g1 H1 := (Kp.refl _ _).q
    refine ⟨x.isL, p1, vs, by rw [e1], s1 _ _ kr, Res.now G1.st q1 _ ?_⟩
    have lz : (xs.zipIdx.map fun p => D.tup [.int (p.2 : Nat), p.1]).length = vs.length := by rw [List.length_map, List.length_zipIdx, r1.length]
    exact
      { len := by rw [lz]; exact hl1
        go := fun g' H' i k hi => by
          rw [lz] at hi
          exact ⟨vs, _, s1 _ _ k, List.getElem?_eq_getElem hi⟩
        stop := fun g' H' i k hi => by
          rw [lz] at hi
          exact ⟨vs, s1 _ _ k, hi⟩
        yld := fun g' H' i x H'' d k hd hy => by
          obtain ⟨T, u, rfl, hT, rfl, f1⟩ := hy
          rw [List.getElem?_map, Option.map_eq_some_iff] at hd
          obtain ⟨⟨d1, n⟩, hz, rfl⟩ := hd
          rw [List.getElem?_zipIdx, Option.map_eq_some_iff] at hz
          obtain ⟨d2, hz, e⟩ := hz
          cases e
          obtain ⟨u', hu, ru⟩ := r1.get hz
          have q1 := f1 _ (s1 _ _ k)
          rw [hu] at q1
          cases q1
          have kk := (Ex.new (g := g') (o := .tup [.int (i : Nat), u]) hT).kp
          rw [Nat.zero_add]
          exact ⟨g', Ex.new hT, .tup upd_same (by show 2 ≤ sizeLine; decide) (.cons (.int _) (.cons ((ru.keepQ k).keep kk) .nil))⟩ }
end
end DL

set_option Elab.async false
set_option linter.all false
set_option maxRecDepth 100000
set_option maxHeartbeats 4000000
/-! DL10: sorted of lists and tuples of data, the empty tuple among them. -/
namespace DL
open PySem PySem.Spec PyProof.Rows L2 PySem.W PySem.SeqAt

section
variable {prog : Program} {w : World} {A : Around} {E : Value → Shared → Prop} {s : Shared}
/-- a tuple's own < of a tuple, as sorting calls it -/
theorem tupLt_call {Q : Value → Shared → Prop} {l b : Addr} {items items2 : Array Value} {e r : Nat → Bool} (hl : s.heap.IsTuple l items) (hb : s.heap.IsTuple b items2)
    (he : ∀ j (h1 : j < items.size) (h2 : j < items2.size), EqAt A.in1 s items[j] items2[j] (e j)) (hr : ∀ j (h1 : j < items.size) (h2 : j < items2.size), e j = false → RcLt A.in1 s items[j] items2[j] (r j))
    (h : Q (.bool (firstLt e r (decide (items.size < items2.size)) (List.range (min items.size items2.size)))) s) : wpAny (model prog w) A (call (.builtin "tuple.__lt__") [.ref l, .ref b]) Q E s := by
  obtain ⟨⟨c1, d1, x1, sl1⟩, o1, hc1, n1, hd1⟩ := id hl
  obtain ⟨⟨c2, d2, x2, sl2⟩, o2, hc2, n2, hd2⟩ := id hb
  simp only at hc1 hd1 hc2 hd2
  subst hc1 hd1 hc2 hd2
  exact call_meets F.slot_tuple_lt ⟨_, o1, rfl⟩ F.entry_tuple_lt (F.args_tuple_lt_2 _ _) (tuple_ltAt l b items items2 n1 n2 d1 d2 sl1 sl2 e r) ⟨o1, o2, he, hr, h⟩
theorem oneLt_tups {xs ys : List PyData} {a b : Value} {as bs : List Addr} {Q : Bool → Shared → Prop} (ra : Reads s.heap a (.tuple xs) as) (rb : Reads s.heap b (.tuple ys) bs) (hal : alikeAll xs ys = true)
    (hu : A.units + min (PyData.tuple xs).depth (PyData.tuple ys).depth < cLine) (hq : Q (dataLt (.tuple xs) (.tuple ys)) s) : wpAny (model prog w) A (oneLt' true a b) Q E s := by
  cases ra with
  | @tuple l o vs n _ as₁ h1 h2 h3 h4 =>
    cases rb with
    | @tuple l' o' vs' n' _ bs₁ k1 k2 k3 k4 =>
      have n1 : vs.size = xs.length := by simpa using ReadsAll.length _ _ _ h4
      have n2 : vs'.size = ys.length := by simpa using ReadsAll.length _ _ _ k4
      rw [dataLt_tuple, ← firstLt_toks xs ys hal, ← n1, ← n2] at hq
      rw [oneLt'_eq]
      simp only [if_true]
      refine wpAny_bind (wpAny_cRoomFor (room_here hu) ?_)
      refine wpAny_bind (wpAny_callSpecialIfBound?_slot (T := "tuple") ⟨_, h1, h2⟩ F.slot_tuple_lt (tupLt_call (e := pairEq xs ys) (r := fun j => dataLt (xs.getD j .none) (ys.getD j .none)) ⟨_, h1, h2, _, h3⟩ ⟨_, k1, k2, _, k3⟩ (fun j j1 j2 => ?_) (fun j j1 j2 hj => ?_) ?_))
      · have q := eqAt_alikeAll xs ys A.in1 s vs.toList vs'.toList _ _ h4 k4 hal (room_in hu) j (by simpa using j1) (by simpa using j2)
        simpa using q
      · have q := rcLt_alikeAll xs ys A.in1 s vs.toList vs'.toList _ _ h4 k4 hal (room_in hu) j (by simpa using j1) (by simpa using j2) hj
        simpa using q
      · exact wpAny_truthy_bool hq
/-- a map whose answers are known one by one -/
theorem mapM_known {α β : Type} {f : α → Sem β} : ∀ (l : List α), (∀ v ∈ l, ∃ r, ∀ (Q : β → Shared → Prop), Q r s → wpAny (model prog w) A (f v) Q E s) → ∃ rs : List β, rs.length = l.length ∧ ∀ (Q : List β → Shared → Prop), Q rs s → wpAny (model prog w) A (l.mapM f) Q E s
  | [], _ => ⟨[], rfl, fun Q q => by rw [List.mapM_nil]; exact wpAny_pure q⟩
  | x :: l, h => by
    obtain ⟨r, hr⟩ := h x List.mem_cons_self
    obtain ⟨rs, hl, hrs⟩ := mapM_known l fun v hv => h v (List.mem_cons_of_mem _ hv)
    exact ⟨r :: rs, by simp [hl], fun Q q => by
      rw [List.mapM_cons]
      exact wpAny_bind (hr _ (wpAny_bind (hrs _ (wpAny_pure q))))⟩
/-- all tuples, the first one empty: they are compared as values of one type -/
theorem kind_empty {v₀ : Value} {vs : List Value} {Q : SortKind → Shared → Prop} (h0 : ∃ as, Reads s.heap v₀ (.tuple []) as) (hs : ∀ v ∈ vs, ∃ xs as, Reads s.heap v (.tuple xs) as) (hq : Q oneType' s) : wpAny (model prog w) A (keyKind' (v₀ :: vs).toArray) Q E s := by
  have first : ∀ {v : Value} {xs : List PyData} {as : List Addr}, Reads s.heap v (.tuple xs) as → ∃ ws : Array Value, ws.size = xs.length ∧ ∀ (Q : Option Value → Shared → Prop), Q ws[0]? s → wpAny (model prog w) A (firstOfTuple' v) Q E s := fun {v xs as} r => by
    cases r with
    | @tuple l o ws n _ as₁ h1 h2 h3 h4 =>
      refine ⟨ws, by simpa using ReadsAll.length _ _ _ h4, fun Q q => ?_⟩
      rw [kas_first_eq]
      refine wpAny_bind (wpAny_typeOf (T := "tuple") ⟨o, h1, h2⟩ ?_)
      rw [if_neg (by decide)]
      exact wpAny_bind (listItems_at h1 h3 (wpAny_pure q))
  have ty : ∀ {v : Value} {xs : List PyData} {as : List Addr}, Reads s.heap v (.tuple xs) as → ∀ (Q : Value → Shared → Prop), Q (.type "tuple") s → wpAny (model prog w) A (typeOf v) Q E s := fun {v xs as} r Q q => by
    cases r with
    | @tuple l o ws n _ as₁ h1 h2 h3 h4 => exact wpAny_typeOf (T := "tuple") ⟨o, h1, h2⟩ q
  obtain ⟨as0, r0⟩ := h0
  obtain ⟨ws0, hz0, f0⟩ := first r0
  have e0 : ws0[0]? = none := by
    rw [Array.getElem?_eq_none]
    rw [hz0]
    exact Nat.le_refl _
  rw [e0] at f0
  obtain ⟨fs, hfl, hfs⟩ := mapM_known (prog := prog) (w := w) (A := A) (E := E) (s := s) (f := firstOfTuple') vs fun v hv => by
    obtain ⟨xs, as, r⟩ := hs v hv
    obtain ⟨ws, _, f⟩ := first r
    exact ⟨_, f⟩
  rw [keyKind'_eq, List.mapM_toArray, map_eq_pure_bind, List.mapM_cons]
  refine wpAny_bind (wpAny_bind (wpAny_bind (f0 _ (wpAny_bind (hfs _ (wpAny_pure (wpAny_pure ?_)))))))
  rw [if_neg (by simp), if_neg (by simp)]
  rw [oneTypeOnly'_eq, List.mapM_toArray, map_eq_pure_bind]
  refine wpAny_bind (wpAny_bind (wpAny_bind (kas_mapM (r := Value.type "tuple") _ (fun v hv Q' hq => ?_) (wpAny_pure ?_))))
  · rcases List.mem_cons.mp hv with rfl | hv
    · exact ty r0 _ hq
    · obtain ⟨xs, as, r⟩ := hs v hv
      exact ty r _ hq
  · have hall : ((List.map (fun _ => Value.type "tuple") (v₀ :: vs)).toArray.all fun x => x == Value.type "tuple") = true := by
      simp only [List.all_toArray, List.all_map, List.all_eq_true]
      intro _ _
      rfl
    have h1 : (List.map (fun _ => Value.type "tuple") (v₀ :: vs)).toArray[0]? = some (Value.type "tuple") := by simp
    rw [h1]
    simp only [hall, if_true]
    exact wpAny_pure (wpAny_pure hq)
/-- what sorting takes: alike data; of tuples either none is empty or the first one is -/
def SortOk (ds : List PyData) : Prop := PySem.W.Sortable ds ∨ ∃ r, ds = .tuple [] :: r ∧ ∀ d ∈ r, ∃ xs, d = .tuple xs
theorem sortsAt {vs : List Value} {ds : List PyData} (e : EachIs (fun v d => ∃ as, Reads s.heap v d as) vs ds) (hal : AllAlike ds) (hk : SortOk ds) (hu : ∀ d, d ∈ ds → A.units + d.depth < cLine) : SortsAt prog w A s (dataKind s.heap ds) vs := by
  rcases hk with hk | ⟨r, rfl, hr⟩
  · exact .data e hal hk hu
  refine ⟨fun v hv => ?_, oneType', fun E x y a b Q ha hb hq => ?_, fun h2 E Q hq => ?_⟩
  · obtain ⟨d, hd, as, r⟩ := e.left v hv
    exact ⟨_, dataKind_some hal hd r⟩
  · obtain ⟨d, as, hd, ra, rfl⟩ := dataKind_inv ha
    obtain ⟨d', as', hd', rb, rfl⟩ := dataKind_inv hb
    have tup : ∀ d ∈ PyData.tuple [] :: r, ∃ xs, d = .tuple xs := fun d hd => by
      rcases List.mem_cons.mp hd with rfl | hd
      · exact ⟨_, rfl⟩
      · exact hr d hd
    have hdd := hal d hd d' hd'
    have hud := hu d hd
    obtain ⟨xs, rfl⟩ := tup d hd
    obtain ⟨ys, rfl⟩ := tup d' hd'
    rw [keyLt'_oneType]
    exact oneLt_tups ra rb (by simpa [alike] using hdd) (Nat.lt_of_le_of_lt (Nat.add_le_add_left (Nat.min_le_left _ _) _) hud) hq
  · cases e with
    | cons h0 t =>
      refine kind_empty h0 (fun v hv => ?_) hq
      obtain ⟨d, hd, as, rv⟩ := t.left v hv
      obtain ⟨xs, rfl⟩ := hr d hd
      exact ⟨xs, as, rv⟩

/-- the items of a list, of a tuple, collected -/
theorem collectC {c : Bool} {l : Addr} {vs : List Value} {Q : List Value → Shared → Prop} (hl : HeapC c s.heap l vs.toArray)
    (h : Q vs { s with heap := (s.heap.push (seqObj "list" #[] 0)).update s.heap.objs.size (Obj.mapSeq (· ++ vs.toArray)) }) (hsz : vs.length ≤ sizeLine) :
    wpAny (model prog w) A (collect (.ref l)) Q E s := by
  cases c with
  | true => exact collect_list hl h hsz
  | false =>
    obtain ⟨o, ho, hc, n, hd⟩ := (show s.heap.IsTuple l vs.toArray from hl)
    unfold collect
    refine wpAny_bind (wpAny_runValue (codeAny_builtin entry_proto_collect' ?_))
    show wpAny _ _ (do again (.builtin "list.__iadd__" ⟨[← newList [], .ref l], []⟩)) _ _ s
    refine wpAny_bind (wpAny_newList (wpAny_pure ⟨Code.quiet_builtin _ (by decide +kernel), codeAny_builtin entry_list_iadd' ?_⟩))
    show wpAny _ _ (Builtin.List.listExtendWith (.ref s.heap.objs.size) (.ref l) (.ref s.heap.objs.size)) _ _ { s with heap := s.heap.push (seqObj "list" #[] 0) }
    unfold Builtin.List.listExtendWith
    have ho' : (s.heap.push (seqObj "list" #[] 0)).get? l = some o := Heap.get?_push_of_some _ ho
    refine wpAny_bind (wpAny_typeOf (T := "tuple") ⟨o, ho', hc⟩ ?_)
    rw [if_pos (by rw [show (Value.type "tuple" == Value.type "tuple") = true from by rfl]; simp)]
    refine wpAny_bind (listItems_at ho' hd ?_)
    refine wpAny_bind (listItems_at (xs := #[]) (n := 0) (Heap.get?_push_size _ rfl) rfl ?_)
    rw [if_neg (by simp)]
    refine wpAny_bind (listUpdate_at (xs := #[]) (n := 0) (Heap.get?_push_size _ rfl) rfl ?_ (Nat.zero_le _) (by show (#[] ++ vs.toArray).size ≤ sizeLine + 1; simp only [Array.size_append, List.size_toArray, List.length_nil]; omega))
    refine wpAny_pure ?_
    show wpAny (model prog w) A (do
        let o ← load s.heap.objs.size
        match o.data with
        | .seq xs _ => pure xs.toList
        | _ => unsupported "internal:collect") Q E { s with heap := (s.heap.push (seqObj "list" #[] 0)).update s.heap.objs.size (Obj.mapSeq (· ++ vs.toArray)) }
    refine wpAny_bind (wpAny_load (get?_update_seq (Heap.get?_push_size _ rfl) _) ?_)
    show wpAny _ _ (pure ((#[] : Array Value) ++ vs.toArray).toList) Q E _
    rw [show ((#[] : Array Value) ++ vs.toArray).toList = vs by simp]
    exact wpAny_pure h
theorem sortedC {c b : Bool} {kw : List (Str × Value)} {κ : KeyKind} {l : Addr} {vs : List Value} {Q : Value → Shared → Prop} (hl : HeapC c s.heap l vs.toArray) (hL : vs.length ≤ sizeLine) (ha1 : argsOk "sorted" ⟨[.ref l], kw⟩) (ha2 : ∀ x, argsOk "list.sort" ⟨[.ref x], kw⟩)
    (hb : ∀ x, Builtin.«list.sort» ⟨[.ref x], kw⟩ = Builtin.«list.sort» ⟨[.ref x], [(Str.ofString "reverse", .bool b)]⟩) (S : SortsAt prog w A.in1.in1 { s with heap := sortingHeap (copyHeap s.heap vs) (s.heap.objs.size + 1) vs } κ vs)
    (h : Q (.ref (s.heap.objs.size + 1)) { s with heap := sortedAll s.heap vs (sortVals κ b vs vs).toArray }) : wpAny (model prog w) A (call (.builtin "sorted") [.ref l] kw) Q E s := by
  refine call_function_entry_kw kind_sorted plain_sorted entry_sorted ha1 ?_
  unfold Builtin.«sorted»
  refine wpAny_bind (m := checkCount "sorted" 1 1 _) (wpAny_pure ?_)
  refine wpAny_bind (collectC hl ?_ hL)
  refine wpAny_bind (wpAny_newList ?_ hL)
  have hsz : ((s.heap.push (seqObj "list" #[] 0)).update s.heap.objs.size (Obj.mapSeq (· ++ vs.toArray))).objs.size = s.heap.objs.size + 1 := by
    rw [Heap.size_update, size_push']
  show wpAny _ _ _ _ _ { s with heap := copyHeap s.heap vs }
  rw [hsz]
  refine wpAny_bind (wpAny_holding (wpAny_call_entry_kw slot_list_sort ⟨_, copyHeap_at s.heap vs, rfl⟩ entry_list_sort ?_ (ha2 _)))
  rw [hb]
  exact list_sort_rev_vals (s := { s with heap := copyHeap s.heap vs }) (copyHeap_at s.heap vs) S hL ⟨_, rfl, wpAny_pure ⟨_, rfl, h⟩⟩
end

/-! ### by data -/
section
variable {X : Cx}
def rSortDt (K : PySem.W.Frag) (b : Bool) : List V → Hp → VK → Prop := fun vs H Q => ∃ (c : Bool) (a : Addr) (ps : List (V × PyData)), vs = [.ref a] ∧ SqC K c H a (ps.map Prod.fst) ∧ (∀ p ∈ ps, Dp K H p.1 p.2) ∧ AllAlike (ps.map Prod.snd) ∧ SortOk (ps.map Prod.snd) ∧ (∀ p ∈ ps, p.2.depth ≤ 60) ∧ ps.length ≤ sizeLine ∧
  ∀ p, H p = none → Q (.ref p) (upd H p (.lst ((ps.mergeSort (dataLe b Prod.snd)).map Prod.fst)))
theorem vals_zip {β : Type} : ∀ {ps : List (V × β)} {us : List Value}, Vals (ps.map Prod.fst) us → EachIs (fun u p => RelV p.1 u) us ps
  | [], _, r => by
    have r : Vals [] _ := r
    cases r
    exact .nil
  | p :: ps, _, r => by
    have r : Vals (p.1 :: ps.map Prod.fst) _ := r
    cases r with
    | cons h t => exact .cons h (vals_zip t)
theorem zip_vals {β : Type} : ∀ {ps : List (V × β)} {us : List Value}, EachIs (fun u p => RelV p.1 u) us ps → Vals (ps.map Prod.fst) us
  | _, _, .nil => .nil
  | _, _, .cons h t => .cons h (zip_vals t)
theorem sort_core {b : Bool} {kw : List (Str × Value)} (hu : X.A.units + 65 < cLine) (ha1 : ∀ l, argsOk "sorted" ⟨[.ref l], kw⟩) (ha2 : ∀ x, argsOk "list.sort" ⟨[.ref x], kw⟩)
    (hb : ∀ x, Builtin.«list.sort» ⟨[.ref x], kw⟩ = Builtin.«list.sort» ⟨[.ref x], [(Str.ofString "reverse", .bool b)]⟩) {pins : List (Addr × Obj)} {s : Shared} {σ : L2.St} {H : Hp} {xs : List V} {us : List Value} {Q : VK}
    (I : Inv X pins σ H s) (r : Vals xs us) (h : rSortDt X.K b xs H Q) : wpAny (model X.prog X.w) X.A (call (.builtin "sorted") us kw) (EP X pins σ Q) X.xe s := by
  obtain ⟨c, a, ps, rfl, hs, hd, hal, hk, hdep, hL, q⟩ := h
  obtain ⟨its, rv, hl⟩ := src I hs
  rw [Vals.ref1 r]
  have e := vals_zip rv
  have er : EachIs (fun u (p : V × PyData) => ∃ as, Reads s.heap u p.2 as) its ps := (each_mem e).mono fun u p ⟨ru, hp⟩ => Dp.reads I p.2 p.1 u (hd p hp) ru
  have hlen : its.length = ps.length := e.length
  have er' : EachIs (fun u (p : V × PyData) => ∃ as, Reads (sortingHeap (copyHeap s.heap its) (s.heap.objs.size + 1) its) u p.2 as) its ps := er.mono fun _ _ ⟨as, r⟩ => ⟨as, PyProof.Rows.Reads.keeps (fun _ _ => sorting_copy_old) r⟩
  refine sortedC hl (by rw [hlen]; exact hL) (ha1 _) ha2 hb (sortsAt (s := { s with heap := sortingHeap (copyHeap s.heap its) (s.heap.objs.size + 1) its }) (each_map (R := fun v d => ∃ as, Reads (sortingHeap (copyHeap s.heap its) (s.heap.objs.size + 1) its) v d as) Prod.snd er') hal hk (fun d hd => ?_)) ?_
  · obtain ⟨p, hp, rfl⟩ := List.mem_map.mp hd
    have := hdep p hp
    show X.A.units + 2 + p.2.depth < cLine
    omega
  · have eo := sortVals_data (h' := sortingHeap (copyHeap s.heap its) (s.heap.objs.size + 1) its) b e er' hal
    obtain ⟨ep, he'⟩ := PyProof.Rows.sortedAll_at s.heap its (List.toArray (sortVals (dataKind (sortingHeap (copyHeap s.heap its) (s.heap.objs.size + 1) its) (ps.map Prod.snd)) b its its))
    refine ⟨.ref _, upd H (s.heap.objs.size + 1) (.lst ((ps.mergeSort (dataLe b Prod.snd)).map Prod.fst)), I.laid (t' := s.toks) (fun _ _ => PyProof.Rows.sortedAll_old) (Nat.le_succ _) ⟨?_, _, ep, zip_vals eo, he'⟩, rfl, q _ (I.hok.fresh (Nat.le_succ _))⟩
    rw [List.length_map, List.length_mergeSort]
    exact hL
theorem cr_sortDt (hu : X.A.units + 65 < cLine) : CallR X (.builtin "sorted") (rSortDt X.K false) := fun pins s σ H xs us Q I r h =>
  sort_core (b := false) (kw := []) hu (fun _ => args_sorted1 _) (fun _ => args_list_sort _) (fun x => plain_is_rev x) I r h
theorem cr_sortDtR (hu : X.A.units + 65 < cLine) {b : Bool} : CallRK X (.builtin "sorted") [Str.ofString "reverse"] (fun vs zs H Q => zs = [.bl b] ∧ rSortDt X.K b vs H Q) := fun pins s σ H vs zs us ws Q I r rz h => by
  obtain ⟨rfl, h⟩ := h
  obtain ⟨w1, rfl, e1⟩ := vals1 rz
  obtain rfl : w1 = Value.bool b := e1
  exact sort_core (kw := [(Str.ofString "reverse", .bool b)]) hu (fun _ => PyProof.Rows.args_sorted_rev _ _) (fun _ => PyProof.Rows.args_list_sort_rev _ _) (fun x => rfl) I r h
end
section
variable {N : Nv} {W : XK} {X : Cx} {a : Expr} {fa : Δ → M D} {g0 : G0} {g : Gh} {H0 H : Hp} {S : Store} {δ : Δ} {σ : L2.St} {pos p : Pos}
def D.isTup : D → Bool
  | .tup _ => true
  | _ => false
def D.neTup : D → Bool
  | .tup (_ :: _) => true
  | _ => false
def srtOk (ds : List D) : Bool := ds.all (fun d => d.sh 60) && ds.all (fun d => ds.all fun e => alike d.py e.py) && (ds.all D.neTup || ds.all (fun d => !d.isTup && match d with | .non => false | _ => true) || match ds with
  | .tup [] :: r => r.all D.isTup
  | _ => false)
def dSortB (b : Bool) (x : D) : M D := match x.items with
  | some ds => if srtOk ds = true then M.ret (.lst (ds.mergeSort (dataLe b D.py))) else M.stuck
  | none => M.stuck
def dSort : D → M D := dSortB false
def dSortR : D → M D := dSortB true
theorem py_tup (xs : List D) : (D.tup xs).py = .tuple (D.pys xs) := by unfold D.py; rfl
theorem py_lst (xs : List D) : (D.lst xs).py = .list (D.pys xs) := by unfold D.py; rfl
theorem pys_nil : D.pys [] = [] := rfl
theorem pys_cons (x : D) (xs : List D) : D.pys (x :: xs) = x.py :: D.pys xs := rfl
theorem pys_map : ∀ ds : List D, D.pys ds = ds.map D.py
  | [] => rfl
  | x :: xs => by unfold D.pys; rw [pys_map xs]; rfl
theorem D.sh_mono : ∀ {d : D}, d.sh 60 = true → d.py.depth ≤ 60 := fun {d} h => (D.sh_lay 60 d h).2
theorem srtOk_spec {ds : List D} (h : srtOk ds = true) : (∀ d ∈ ds, d.sh 60 = true) ∧ AllAlike (ds.map D.py) ∧ SortOk (ds.map D.py) := by
  unfold srtOk at h
  rw [Bool.and_eq_true, Bool.and_eq_true, Bool.or_eq_true, Bool.or_eq_true] at h
  obtain ⟨⟨h1, h2⟩, h3⟩ := h
  refine ⟨List.all_eq_true.mp h1, fun d hd e he => ?_, ?_⟩
  · obtain ⟨x, hx, rfl⟩ := List.mem_map.mp hd
    obtain ⟨y, hy, rfl⟩ := List.mem_map.mp he
    exact List.all_eq_true.mp (List.all_eq_true.mp h2 x hx) y hy
  · rcases h3 with (h3 | h3) | h3
    · refine .inl (.inl fun d hd => ?_)
      obtain ⟨x, hx, rfl⟩ := List.mem_map.mp hd
      have := List.all_eq_true.mp h3 x hx
      cases x <;> first | (cases this; done) | skip
      rename_i xs
      cases xs with
      | nil => cases this
      | cons y ys => exact ⟨y.py, D.pys ys, by rw [py_tup, pys_cons]⟩
    · refine .inl (.inr fun d hd => ?_)
      obtain ⟨x, hx, rfl⟩ := List.mem_map.mp hd
      have := List.all_eq_true.mp h3 x hx
      have h1x := List.all_eq_true.mp h1 x hx
      cases x <;> first | (cases this; done) | (unfold D.sh at h1x; cases h1x; done) | (unfold D.py; exact ⟨fun z => (nomatch z), fun xs z => (nomatch z)⟩)
    · cases ds with
      | nil => cases h3
      | cons x r =>
        cases x <;> first | (cases h3; done) | skip
        rename_i xs
        cases xs with
        | cons y ys => cases h3
        | nil =>
          refine .inr ⟨r.map D.py, by rw [List.map_cons, py_tup, pys_nil], fun d hd => ?_⟩
          obtain ⟨x, hx, rfl⟩ := List.mem_map.mp hd
          have := List.all_eq_true.mp h3 x hx
          cases x <;> first | (cases this; done) | exact ⟨_, py_tup _⟩
/-- a row's values paired with their data -/
theorem pairUp {ds : List D} {vs : List V} (hr : RpAll N.K g H vs ds) : (vs.zip ds).map Prod.fst = vs ∧ (vs.zip ds).map Prod.snd = ds ∧ ∀ p ∈ vs.zip ds, Rp N.K g H p.1 p.2 := by
  have hl := hr.length
  refine ⟨List.map_fst_zip (by omega), List.map_snd_zip (by omega), fun p hp => ?_⟩
  obtain ⟨i, hi⟩ := List.getElem?_of_mem hp
  rw [List.getElem?_zip_eq_some] at hi
  obtain ⟨v, hv, rv⟩ := hr.get hi.2
  rw [hi.1] at hv
  cases hv
  exact rv
theorem rpAll_of {ps : List (V × D)} (h : ∀ p ∈ ps, Rp N.K g H p.1 p.2) : RpAll N.K g H (ps.map Prod.fst) (ps.map Prod.snd) := by
  induction ps with
  | nil => exact .nil
  | cons p ps ih => exact .cons (h p List.mem_cons_self) (ih fun q hq => h q (List.mem_cons_of_mem _ hq))
theorem sort_weak {b : Bool} {x : D} {v : V} {Q : VK} (hK : N.K = X.K) (st : StOk N.K g S H) (rv : RpB N.K g H v x) (q : Res N W g H (fun g' H' d => ∀ u, RpM N.K H .fr g' H' u d → Q u H') (dSortB b x S)) : rSortDt X.K b [v] H Q := by
  unfold dSortB at q
  obtain ⟨ds, ex, q⟩ : ∃ ds, x.items = some ds ∧ Res N W g H (fun g' H' d => ∀ u, RpM N.K H .fr g' H' u d → Q u H') ((if srtOk ds = true then M.ret (.lst (ds.mergeSort (dataLe b D.py))) else M.stuck) S) := by
    cases e : x.items with
    | none => rw [e] at q; exact q.elim
    | some ds => rw [e] at q; exact ⟨ds, rfl, q⟩
  obtain ⟨hok, q⟩ := Res.ite q
  obtain ⟨h1, h2, h3⟩ := srtOk_spec hok
  obtain ⟨c, a, vs, ev, hs, hl, ra⟩ : ∃ c a vs, v = .ref a ∧ SqC X.K c H a vs ∧ vs.length ≤ sizeLine ∧ RpAll N.K g H vs ds := by
    cases x with
    | lst es =>
      cases ex
      obtain ⟨p, vs, e1, hs, hl, ra⟩ := rv.seqL
      exact ⟨true, p, vs, e1, .of hs, hl, ra⟩
    | tup es =>
      cases ex
      obtain ⟨p, vs, e1, hs, hl, ra⟩ := rv.seqT
      exact ⟨false, p, vs, e1, .of hs, hl, ra⟩
    | _ => cases ex
  obtain ⟨p1, p2, p3⟩ := pairUp ra
  have m2 : ((vs.zip ds).map fun p => (p.1, p.2.py)).map Prod.snd = ds.map D.py := by
    rw [List.map_map, ← p2, List.map_map]
    rw [p2]
    rfl
  have m1 : ((vs.zip ds).map fun p => (p.1, p.2.py)).map Prod.fst = vs := by
    rw [List.map_map]
    exact p1
  have srt : (((vs.zip ds).map fun p => (p.1, p.2.py)).mergeSort (dataLe b Prod.snd)).map Prod.fst = ((vs.zip ds).mergeSort (dataLe b fun p => p.2.py)).map Prod.fst := by
    rw [← List.map_mergeSort (r := dataLe b fun p : V × D => p.2.py) (s := dataLe b Prod.snd) (f := fun p : V × D => (p.1, p.2.py)) (fun a _ b _ => rfl), List.map_map]
    rfl
  have srt2 : ((vs.zip ds).mergeSort (dataLe b fun p => p.2.py)).map Prod.snd = ds.mergeSort (dataLe b D.py) := by
    rw [List.map_mergeSort (r := dataLe b fun p : V × D => p.2.py) (s := dataLe b D.py) (f := Prod.snd) (fun a _ b _ => rfl), p2]
  refine ⟨c, a, (vs.zip ds).map fun p => (p.1, p.2.py), by rw [ev], by rw [m1]; exact hs, fun p hp => ?_, by rw [m2]; exact h2, by rw [m2]; exact h3, fun p hp => ?_, ?_, ?_⟩
  · obtain ⟨r, hr, rfl⟩ := List.mem_map.mp hp
    have hm : r.2 ∈ ds := by
      rw [← p2]
      exact List.mem_map_of_mem hr
    exact hK ▸ Rp.dp 60 r.2 r.1 (h1 _ hm) (p3 r hr)
  · obtain ⟨r, hr, rfl⟩ := List.mem_map.mp hp
    have hm : r.2 ∈ ds := by
      rw [← p2]
      exact List.mem_map_of_mem hr
    exact D.sh_mono (h1 _ hm)
  · rw [List.length_map, ← List.length_map (f := Prod.fst), p1]
    exact hl
  · rw [srt]
    have pm := List.mergeSort_perm (vs.zip ds) (dataLe b fun p => p.2.py)
    refine Res.lst st ?_ ?_ q
    · rw [← srt2]
      exact rpAll_of fun p hp => p3 p (pm.mem_iff.mp hp)
    · rw [List.length_map, pm.length_eq, ← List.length_map (f := Prod.fst), p1]
      exact hl
theorem de_sorted {x : Str} {ma : Md} (hu : X.A.units + 65 < cLine) (hg : Gl X x) (hm : X.mg x = none) (hv : bootBuiltins x = some (.builtin "sorted")) (ha : DE N W X ma a fa)
    (hn : x ≠ "__name__" := by decide) (hdb : (x == ("__debug__" : Str)) = false := by decide) (he : starEach [a] X.env = (false, eval a X.env) :: starEach [] X.env := by rfl) (hpl : (backTo pos (starEach [] X.env)).any (·.1) = false := by rfl) (hK : N.K = X.K := by rfl) : DE N W X .fr (.Call (.Name x p) [a] [] pos) (f1 dSort fa) :=
  de_cb (cr_sortDt hu) (fun x v g H S Q st rv q => sort_weak hK st rv q) hg hm hv ha hn hdb he hpl
end
end DL

set_option Elab.async false
set_option linter.all false
set_option maxRecDepth 100000
set_option maxHeartbeats 4000000
/-! DL11: rows turned round, dict comprehensions, dict of pairs. -/
namespace DL
open PySem PySem.Spec PyProof.Rows L2

section
variable {prog : Program} {w : World} {A : Around} {E : Value → Shared → Prop} {s : Shared}
theorem adj_back (n : Nat) : Builtin.Slice.sliceAdjust none none (-1) (n : Int) = ((n : Int) - 1, -1) := by
  unfold Builtin.Slice.sliceAdjust
  simp
theorem places_back (n : Nat) : Builtin.Slice.slicePlaces ((n : Int) - 1) (-1) (-1) = n := by
  unfold Builtin.Slice.slicePlaces
  have h1 : ¬ ((-1 : Int) > 0) := by decide
  simp only [h1, if_false]
  split
  · rename_i h
    rw [show (- -1 : Int) = 1 by decide, Int.ediv_one]
    omega
  · omega
theorem fm_congr {α β : Type} {f g : α → Option β} : ∀ {l : List α}, (∀ m ∈ l, f m = g m) → l.filterMap f = l.filterMap g
  | [], _ => rfl
  | x :: l, h => by
    rw [List.filterMap_cons, List.filterMap_cons, h x List.mem_cons_self, fm_congr fun m hm => h m (List.mem_cons_of_mem _ hm)]
theorem pick_back (xs : Array Value) : ((List.range xs.size).filterMap fun (m : Nat) => xs[(((xs.size : Int) - 1) + (m : Int) * (-1)).toNat]?).toArray = xs.toList.reverse.toArray := by
  have e : ((List.range xs.size).filterMap fun (m : Nat) => xs[(((xs.size : Int) - 1) + (m : Int) * (-1)).toNat]?) = ((List.range xs.size).map fun k => xs.size - 1 - k).filterMap (xs[·]?) := by
    rw [List.filterMap_map]
    refine fm_congr fun m hm => ?_
    have := List.mem_range.mp hm
    show xs[(((xs.size : Int) - 1) + (m : Int) * (-1)).toNat]? = xs[xs.size - 1 - m]?
    rw [show (((xs.size : Int) - 1) + (m : Int) * (-1)).toNat = xs.size - 1 - m by omega]
  rw [e, PySem.W.krv_range, List.filterMap_reverse, PySem.W.krv_all]
theorem applied_back {sl : Addr} {vk : Value} {n : Nat} {Q : Int × Int × Nat → Shared → Prop} (hs : s.heap.IsSliceOf sl .none .none vk) (pk : IsPart vk (some (-1))) (h : Q ((n : Int) - 1, -1, n) s) : wpAny (model prog w) A (Builtin.Slice.sliceApplied (.ref sl) (pure (n : Int))) Q E s := by
  obtain ⟨os, hos, hcs, hds⟩ := id hs
  unfold Builtin.Slice.sliceApplied Builtin.Slice.sliceFields
  refine wpAny_bind (wpAny_bind (wpAny_field hos hds (x := .none) rfl (wpAny_bind (wpAny_field hos hds (x := .none) rfl (wpAny_bind (wpAny_field hos hds (x := vk) rfl (wpAny_pure ?_)))))))
  refine wpAny_bind (HT.slicePart_ pk ?_)
  show wpAny _ _ (if ((-1 : Int) == 0) = true then _ else _) _ _ s
  rw [if_neg (by decide)]
  refine wpAny_bind (HT.slicePart_ .none (wpAny_bind (HT.slicePart_ .none (wpAny_bind (wpAny_pure ?_)))))
  show wpAny _ _ (match Builtin.Slice.sliceAdjust none none (-1) (n : Int) with | (lo, hi) => pure (lo, (-1 : Int), Builtin.Slice.slicePlaces lo hi (-1))) _ _ s
  rw [adj_back n]
  show wpAny _ _ (pure ((n : Int) - 1, (-1 : Int), Builtin.Slice.slicePlaces ((n : Int) - 1) (-1) (-1))) _ _ s
  rw [places_back]
  exact wpAny_pure h
theorem getItem_tup_back {t sl : Addr} {items : Array Value} {vk : Value} {Q : Value → Shared → Prop} (ht : IsTup s.heap t items) (hs : s.heap.IsSliceOf sl .none .none vk) (pk : IsPart vk (some (-1)))
    (h : Q (.ref s.heap.objs.size) { s with heap := s.heap.push { cls := .type "tuple", data := .seq items.toList.reverse.toArray } }) (hsz : items.size ≤ sizeLine) : wpAny (model prog w) A (getItem (.ref t) (.ref sl)) Q E s := by
  have htake : sizeOk (.seq items.toList.reverse.toArray) := by
    show items.toList.reverse.toArray.size ≤ sizeLine
    rw [List.size_toArray, List.length_reverse, Array.length_toList]
    exact hsz
  obtain ⟨os, hos, hcs, hds⟩ := id hs
  have hTs : s.TypeIs (.ref sl) "slice" := ⟨os, hos, hcs⟩
  unfold getItem
  try with_reducible refine wpAny_holding ?_
  first | refine wpAny_bind (wpAny_pure ?_) | skip
  refine wpAny_bind (wpAny_sequenceKey ht.typeIs (by decide) ?_)
  refine wpAny_bind (wpAny_callSpecial?_slot (name := Str.ofString "__getitem__") ht.typeIs PyProof.Rows.slot_tuple_getitem
    (wpAny_call_entry PyProof.Rows.slot_tuple_getitem ht.typeIs entry_tuple_getitem ?_ (args_tuple_getitem _ _)))
  show wpAny _ _ (Builtin.Tuple.tupleItemsOf (.ref t) >>= _) _ _ s
  refine wpAny_bind (tupleItemsOf_ ht ?_)
  refine wpAny_bind (wpAny_typeOf hTs ?_)
  rw [if_pos (by decide)]
  refine wpAny_bind (applied_back hs pk ?_)
  have hno : ¬ ((((items.size : Int) - 1) == 0 && (-1 : Int) == 1 && items.size == items.size) = true) := by
    intro q
    rw [Bool.and_eq_true, Bool.and_eq_true] at q
    exact absurd q.1.2 (by decide)
  show wpAny _ _ (if (((items.size : Int) - 1) == 0 && (-1 : Int) == 1 && items.size == items.size) = true then _ else _) _ _ s
  rw [if_neg hno, pick_back]
  first
    | exact wpAny_bind (m := Builtin.Tuple.tupleExact _) (wpAny_newObj_type (wpAny_pure ⟨_, rfl, wpAny_pure h⟩) htake)
    | exact wpAny_bind (m := Builtin.Tuple.tupleExact _) (wpAny_newObj_type (wpAny_bind (wpAny_pure (wpAny_pure ⟨_, rfl, wpAny_pure h⟩))) htake)
    | exact wpAny_bind (wpAny_bind (m := Builtin.Tuple.tupleExact _) (wpAny_newObj_type (wpAny_pure (wpAny_pure ⟨_, rfl, wpAny_pure h⟩)) htake))
    | exact wpAny_bind (wpAny_bind (m := Builtin.Tuple.tupleExact _) (wpAny_newObj_type (wpAny_pure ⟨_, rfl, wpAny_pure h⟩) htake))
end
section
variable {X : Cx}
def tRevC (K : PySem.W.Frag) (te : TE) : TE := fun σ H Q => te σ H fun x H1 => ∃ a xs, x = .ref a ∧ ((SqL K H1 a xs ∧ ∀ p, H1 p = none → Q (.ref p) (upd H1 p (.lst xs.reverse))) ∨ (SqT K H1 a xs ∧ ∀ p, H1 p = none → Q (.ref p) (upd H1 p (.tup xs.reverse))))
theorem pe_revC {e : Expr} {te : TE} {k : Nat} {p1 p2 p3 pos : Pos} (he : PE X e te) : PE X (.Subscript e (.Slice none none (some (.UnaryOp .USub (.Constant (.int 1) k p1) p2)) p3) pos) (tRevC X.K te) := by
  refine ⟨fun pins s σ H Q I h => ?_⟩
  refine Subscript_ (thn (he.run pins s σ H _ I h) fun v s1 ⟨x, H1, I1, r1, q1⟩ => ?_)
  obtain ⟨a, xs, ex, q⟩ := q1
  subst ex
  cases r1
  have hst : PO X (some (.UnaryOp .USub (.Constant (.int 1) k p1) p2)) (tPart (tUn (rU fun i => .int (-i)) (tC (.int 1)))) := po_some (pe_un un_neg pe_int)
  refine wpAny_Slice (thn (po_none.run pins s1 σ H1 (fun o H2 => o = none ∧ H2 = H1) I1 ⟨rfl, rfl⟩) fun vl s2 ⟨l, H2, I2, pl, el, e2⟩ => ?_)
  subst el e2
  refine thn (po_none.run pins s2 σ H2 (fun o H3 => o = none ∧ H3 = H2) I2 ⟨rfl, rfl⟩) fun vu s3 ⟨u, H3, I3, pu, eu, e3⟩ => ?_
  subst eu e3
  refine thn (hst.run pins s3 σ H3 (fun o H4 => o = some (-1) ∧ H4 = H3) I3 ⟨1, rfl, -1, rfl, rfl, rfl⟩) fun vs s4 ⟨o, H4, I4, ps, eo, e4⟩ => ?_
  subst eo e4
  have I5 : Inv X pins σ H4 { s4 with heap := s4.heap.push { cls := .type "slice", data := .fields #[vl, vu, vs] } } := I4.kept (t' := s4.toks) fun b ob q => Heap.get?_push_of_some _ q
  show wpAny (model X.prog X.w) X.A (subscriptTail e (.Slice none none (some (.UnaryOp .USub (.Constant (.int 1) k p1) p2)) p3) (.ref a) (.ref s4.heap.objs.size)) (EP X pins σ Q) X.xe { s4 with heap := s4.heap.push { cls := .type "slice", data := .fields #[vl, vu, vs] } }
  rcases q with ⟨hx, q⟩ | ⟨hx, q⟩
  · obtain ⟨its, r, ht, hz⟩ := I5.list hx
    have hlen := r.length
    refine tail_any (ops := [.ref a, .ref s4.heap.objs.size]) ht.isList.typeIs (PySem.slot_list_getitem.lookup) ?_ (by with_unfolding_all rfl)
    refine wpAny_getItem_list_slice ht.isList (Heap.IsSliceOf.new _ vl vu vs) pl pu ps (by decide) ?_ (by rw [List.size_toArray]; omega)
    rw [PySem.W.krv_pick]
    refine ⟨.ref _, _, I5.laid (t' := s4.toks) (o := .lst xs.reverse) (fun b ob q => Heap.get?_push_of_some _ q) (Nat.le_refl _) ?_, rfl, q _ (I5.hok.fresh (Nat.le_refl _))⟩
    exact ⟨by rw [List.length_reverse]; exact hz, _, 0, r.reverse, Heap.get?_push_size _ rfl⟩
  · obtain ⟨its, r, ht, hz⟩ := I5.tuple hx
    have hlen := r.length
    cases pl
    cases pu
    refine tail_any (ops := [.ref a, .ref s4.heap.objs.size]) ht.typeIs (PyProof.Rows.slot_tuple_getitem.lookup) ?_ (by with_unfolding_all rfl)
    refine getItem_tup_back ht (Heap.IsSliceOf.new _ .none .none vs) ps ?_ (by rw [List.size_toArray]; omega)
    refine ⟨.ref _, _, I5.laid (t' := s4.toks) (o := .tup xs.reverse) (fun b ob q => Heap.get?_push_of_some _ q) (Nat.le_refl _) ?_, rfl, q _ (I5.hok.fresh (Nat.le_refl _))⟩
    exact ⟨by rw [List.length_reverse]; exact hz, _, r.reverse, IsTup.new _ _⟩
end
section
variable {N : Nv} {W : XK} {X : Cx} {a : Expr} {fa : Δ → M D} {g0 : G0} {g : Gh} {H0 H : Hp} {S : Store} {δ : Δ} {σ : L2.St} {pos p : Pos}
def dRev : D → M D
  | .lst xs => M.ret (.lst xs.reverse)
  | .tup xs => M.ret (.tup xs.reverse)
  | _ => M.stuck
theorem de_rev {ma : Md} {k : Nat} {p1 p2 p3 : Pos} (ha : DE N W X ma a fa) (hK : N.K = X.K := by rfl) : DE N W X .fz (.Subscript a (.Slice none none (some (.UnaryOp .USub (.Constant (.int 1) k p1) p2)) p3) pos) (f1 dRev fa) :=
  (pe_revC ha).imp fun σ H Q ⟨g0, H0, g, S, δ, G, q⟩ => tE.seq G q fun x S1 v H1 g1 k1 G1 rv q1 => by
    cases x with
    | lst xs =>
      obtain ⟨p, vs, e1, hs, hl, ra⟩ := rv.bo.seqL
      exact ⟨p, vs, e1, .inl ⟨.of hs, Res.lstZ G1.st ra.reverse (by rw [List.length_reverse]; exact hl) (q1.mono (.refl _ _) fun _ _ _ _ h => h)⟩⟩
    | tup xs =>
      obtain ⟨p, vs, e1, hs, hl, ra⟩ := rv.bo.seqT
      exact ⟨p, vs, e1, .inr ⟨.of hs, Res.tup G1.st ra.reverse (by rw [List.length_reverse]; exact hl) q1⟩⟩
    | _ => exact q1.elim
end
end DL

set_option Elab.async false
set_option linter.all false
set_option maxRecDepth 100000
set_option maxHeartbeats 4000000
/-! DL12: dict comprehensions and dict(pairs), keys ints, texts or tuples of such. -/
namespace DL
open PySem PySem.Spec PyProof.Rows L2

/-- an empty dict of the kind wanted -/
def dE : Bool → HO
  | true => .dT []
  | false => .dK []
section
variable {X : Cx} {pins : List (Addr × Obj)} {σ : L2.St} {H : Hp} {s : Shared}
/-- d[k] = v by a comprehension's store -/
theorem d_store {E : Value → Shared → Prop} {a : Addr} {y v : V} {u r : Value} {H' : Hp} {Q : Unit → Shared → Prop} (hu : X.A.units + 1 < cLine) (I : Inv X pins σ H s) (g : DPut H a y v H') (ry : RelV y u) (rv : RelV v r) (h : ∀ s', Inv X pins σ H' s' → Q () s') :
    wpAny (model X.prog X.w) X.A (dictSet a u r) Q E s := by
  rcases g with ⟨kvs, k, e, ey, l, eH⟩ | ⟨kvs, k, b, e, ey, eb, l, eH⟩
  · subst ey eH
    exact d_dictSet I e l ry rv h
  · subst ey eH
    cases (show u = Value.ref b from ry)
    obtain ⟨z, hd, xs, rel, dd⟩ := dt_of I.hok e
    have hz : xs.length ≤ sizeLine := by rw [← Paired.length rel]; exact z
    have hl : (putK kvs k v).length ≤ sizeLine := by have := length_putK kvs k v; omega
    refine wpAny_dictSet_heap (hsz := hz) (show X.A.units < cLine by omega) (key_of I.hok eb) dd fun h' dd' hs => h _ ?_
    obtain ⟨q, es, ep, hq, h2, h3, h4, _, h5⟩ := dd'
    refine d_write I (by rw [e]; exact True.intro) hs ⟨q, hq⟩ ⟨hl, hd, _, (rel.put k eb rv).keeps fun c ys ec => ?_, q, es, ep, hq, h2, h3, h4, h5⟩
    rw [upd_ne (ne_of ec e (fun z => nomatch z))]
    exact ec
theorem dE_new (I : Inv X pins σ H s) : ∀ b : Bool, ObjOk X.prog X.w (upd H s.heap.objs.size (dE b)) (s.heap.push { cls := .type "dict", data := .dict #[] }) s.heap.objs.size (dE b)
  | true => dt_empty s.heap I.big
  | false => dk_empty s.heap I.big
end
/-- {k: v for target in iter if ..}: D the new dict, its kind told ahead -/
def tDcP (wi : TI) (g : TG) (tt : TT) (tk tv : TE) (vs : List Nat) : TE := fun σ H Q => wi σ H fun J H1 => ∀ D, H1 D = none → ∃ (b : Bool) (W : Nat → Nat → Hp → Prop), (∃ m, W 0 m (upd H1 D (dE b))) ∧ ∀ i m H, W i m H →
  (J.stop i H ∧ Q (.ref D) H) ∨ (J.go i H ∧ ∃ Nx : Hp → Prop, (∀ H', Nx H' → ∃ m', m' < m ∧ W (i + 1) m' H') ∧ ∀ x H', J.yld i H x H' → g x (wipe σ vs) H' fun σ2 H2 => wipe σ2 vs = wipe σ vs ∧ tt σ2 H2 fun c H3 =>
    if c = true then tk σ2 H3 fun y H4 => tv σ2 H4 fun z H5 => ∃ H6, DPut H5 D y z H6 ∧ Nx H6 else Nx H3)
section
variable {X : Cx}
theorem pe_dcP {kx vx tg iter : Expr} {ifs : List Expr} {scope : Scope} {own : List (Str × Nat)} {pos : Pos} {wi : TI} {g : TG} {tt : TT} {tk tv : TE} (hu : X.A.units + 1 < cLine) (hc : X.calm = true) (hN : X.N.Nodup) (hi : PI X tg iter wi) (ok : BlkOk X.N X.env.scope scope own)
    (hg : ∀ (s : Shared) (H : Hp) (C : Addr) (cl : List (Str × Addr)) (fp : List Addr), PG (X.blk s H scope (compEnvC scope cl C X.env) fp) tg g) (ht : ∀ (s : Shared) (H : Hp) (C : Addr) (cl : List (Str × Addr)) (fp : List Addr), PTs (X.blk s H scope (compEnvC scope cl C X.env) fp) ifs tt)
    (hk : ∀ (s : Shared) (H : Hp) (C : Addr) (cl : List (Str × Addr)) (fp : List Addr), PE (X.blk s H scope (compEnvC scope cl C X.env) fp) kx tk)
    (he : ∀ (s : Shared) (H : Hp) (C : Addr) (cl : List (Str × Addr)) (fp : List Addr), PE (X.blk s H scope (compEnvC scope cl C X.env) fp) vx tv) (hs : ∀ x, foldedSetIterable iter X.env x = pure x := by intro _; rfl) :
    PE X (.DictComp kx vx [⟨tg, iter, ifs, 0⟩] scope pos) (tDcP wi g tt tk tv (own.map (·.2))) := by
  refine ⟨fun pins s σ H Q I h => ?_⟩
  rw [arm_eval_DictComp]
  generalize hvs : own.map (·.2) = vs at h
  have hfree : ∀ y ∈ scope.names, y.2 = .free → ∃ c, X.env.cells.lookup y.1 = some c := fun y hy e => (ok.free y hy e).elim (fun k => I.ok.has _ (.inl k)) fun k => I.ok.has _ (.inr k)
  refine wpAny_comprehension_free rfl hs (closure_ok hfree) ok.kind (fun y hy e => by rw [ok.uniq y hy, e]) (thn (hi.run pins s σ H _ I h) fun xv s1 hx => thn hx fun itv s2 h2 => ?_)
  obtain ⟨it, fp, tn, J, H2, rfl, I2, T, st2, f2, q⟩ := h2
  refine wpAny_newObj_type (newEnv_comp ?_)
  have hDn : H2 s2.heap.objs.size = none := I2.hok.fresh (Nat.le_refl _)
  obtain ⟨b, W, ⟨m0, w0⟩, turn⟩ := q s2.heap.objs.size hDn
  have newD := dE_new I2 b
  generalize hD : s2.heap.objs.size = D at *
  -- the dict stands
  generalize hs3 : ({ s2 with heap := s2.heap.push { cls := .type "dict", data := .dict #[] } } : Shared) = s3
  have h3 : s3.heap = s2.heap.push { cls := .type "dict", data := .dict #[] } := by rw [← hs3]
  have I3 : Inv X pins σ (upd H2 D (dE b)) s3 := by
    rw [← hs3]
    exact I2.laid (t' := s2.toks) (fun b o e => Heap.get?_push_of_some _ e) (Nat.le_of_eq hD) newD
  have below : ∀ c ∈ fp, c < s2.heap.objs.size := fun c hc => let ⟨o, e, _⟩ := T.obj _ _ st2 c hc; Heap.lt_size e
  have f3 : ∀ c ∈ fp, FpOk X pins (upd H2 D (dE b)) c ∧ c < s3.heap.objs.size := fun c hc => by
    have hlt := below c hc
    refine ⟨⟨?_, (f2 c hc).2⟩, by rw [h3, Heap.size_push]; exact Nat.lt_succ_of_lt hlt⟩
    rw [upd_ne (by rw [← hD]; exact Nat.ne_of_lt hlt)]
    exact (f2 c hc).1
  have st3 : tn 0 s3.heap := T.keep _ _ _ st2 fun c _ o e => by rw [h3]; exact Heap.get?_push_of_some _ e
  have I4 := block_start I3 ok hN f3
  -- the block's own context
  let cl := cellsFrom (s3.heap.objs.size + 1) scope.names (cloFrom X.env.cells scope.names [])
  have pg := hg s3 (upd H2 D (dE b)) s3.heap.objs.size cl fp
  have pt := ht s3 (upd H2 D (dE b)) s3.heap.objs.size cl fp
  have pk := hk s3 (upd H2 D (dE b)) s3.heap.objs.size cl fp
  have pe := he s3 (upd H2 D (dE b)) s3.heap.objs.size cl fp
  rw [hvs] at I4
  show codeAny _ _ (.compStart (.DictComp kx vx [⟨tg, iter, ifs, 0⟩] scope pos) 0 (.ref it) (.ref D) (compEnvC scope cl s3.heap.objs.size X.env)) _ { s3 with heap := pushCells (s3.heap.push { cls := .type "dict", data := .dict #[] }) scope.names }
  have noF : ∀ c ∈ fp, (upd H2 D (dE b)) c = none := fun c hc => (f3 c hc).1.1
  have hfr3 : ∀ {c : Addr}, s3.heap.objs.size ≤ c → True := fun _ => trivial
  generalize hce : compEnvC scope cl s3.heap.objs.size X.env = ce at I4 pg pt pk pe ⊢
  have cL : ce.locals = s3.heap.objs.size := by subst hce; rfl
  generalize hH3 : upd H2 D (dE b) = H3 at I3 I4 pg pt pk pe w0 noF f3
  generalize hs4 : ({ s3 with heap := pushCells (s3.heap.push { cls := .type "dict", data := .dict #[] }) scope.names } : Shared) = s4 at I4 ⊢
  have st4 : tn 0 s4.heap := T.keep _ _ _ st3 fun c _ o e => by rw [← hs4]; exact pushCells_keeps _ _ _ _ (Heap.get?_push_of_some _ e)
  have stat : ∀ {σ' : L2.St} {H' : Hp} {s' : Shared}, Inv (X.blk s3 H3 scope ce fp) [] σ' H' s' → (∀ c ∈ fp, H' c = none) → ∀ c ∈ fp, FpOk (X.blk s3 H3 scope ce fp) [] H' c := fun {σ' H' s'} I' hn c hc =>
    ⟨hn c hc, (I'.ok.exf c hc).1, I'.ok.exfs c hc, .inl hc, fun x k e => (I'.ok.exf c hc).2 x k e, fun p hp => absurd (show p ∈ ([] : List (Addr × Obj)) ++ [] from hp) (by simp)⟩
  refine codeAny_compStart_dict ?_ (T.self X.A 0 _ _ _ st4 ?_)
  all_goals
    refine compLoop_anyD (fun n s' => ∃ i H', Inv (X.blk s3 H3 scope ce fp) [] (wipe σ vs) H' s' ∧ tn i s'.heap ∧ (∀ c ∈ fp, H' c = none) ∧ W i n H') ?_ m0 ⟨0, H3, I4, st4, noF, w0⟩
    rintro n s5 ⟨i, H5, I5, st5, n5, w5⟩
    rcases turn i n H5 w5 with ⟨stop, qq⟩ | ⟨go, Nx, hNx, step⟩
    · refine thnF (T.done (X.blk s3 H3 scope ce fp) rfl rfl rfl hc i [] s5 _ H5 (fun _ _ => False) I5 (stat I5 n5) st5 stop) fun r s6 ⟨hr, I6⟩ => ?_
      subst hr
      have I7 : Inv X pins σ H5 s6 := I3.call' (ch := fp) I6.os I6.base I6.hok I6.bare fun c hc => ⟨(f3 c hc).1.2.2.2.1, (f3 c hc).1.2.1, (f3 c hc).1.2.2.2.2.1, (f3 c hc).1.2.2.2.2.2⟩
      have nC : H5 s3.heap.objs.size = none := by
        have z : H5 ce.locals = none := I6.free
        rw [cL] at z
        exact z
      obtain ⟨m, hn, _⟩ := I6.loc
      have hn : s6.heap.Ns ce.locals m := hn
      rw [cL] at hn
      obtain ⟨k0, k1, k2, k3, k4, k5⟩ := I3.fpOk (H' := H5) (Nat.le_refl _) nC
      exact ⟨m, hn, fun h'' sb => ⟨.ref D, H5, I7.turned (t' := s6.toks) (fun c o hb e => (sb.2 c hb).trans e) k0 k1 k3 k4 k5, rfl, qq⟩⟩
    · refine thnF (T.item (X.blk s3 H3 scope ce fp) rfl rfl rfl hc i [] s5 _ H5 (fun _ _ => False) I5 (stat I5 n5) st5 go) fun r s6 ⟨u, hr, h6⟩ => ?_
      subst hr
      refine thnF h6 fun _ s7 ⟨x, H7, I7, r7, y7, st7, n7⟩ => ?_
      have I7' := I7.pinned (stat I7 n7) (T.obj _ _ st7)
      refine thnF (pg.run _ s7 _ H7 x u _ I7' r7 (step x H7 y7)) fun _ s8 ⟨σ8, H8, I8, hw8, q8⟩ => ?_
      refine thnF (pt.run _ s8 σ8 H8 _ I8 q8) fun c s9 ⟨H9, I9, q9⟩ => ?_
      have fin : ∀ {s' : Shared} {H' : Hp}, Inv (X.blk s3 H3 scope ce fp) ([] ++ pinsAt fp s7.heap) σ8 H' s' → Nx H' → ∃ m, m < n ∧ ∃ i H', Inv (X.blk s3 H3 scope ce fp) [] (wipe σ vs) H' s' ∧ tn i s'.heap ∧ (∀ c ∈ fp, H' c = none) ∧ W i m H' := fun {s' H'} I' nx => by
        obtain ⟨m', hm, w'⟩ := hNx H' nx
        have stay : ∀ c ∈ fp, ∀ o, s7.heap.get? c = some o → s'.heap.get? c = some o ∧ H' c = none := fun c hc o e =>
          let z := I'.pin (c, o) (List.mem_append_right _ (List.mem_append_right _ (mem_pinsAt hc e)))
          ⟨z.1, z.2.1⟩
        have hl : (wipe σ vs).length = σ8.length := by rw [← hw8, wipe_length]
        refine ⟨m', hm, i + 1, H', (I'.unpinned (pins := [])).weak hl (fun j v e => ?_), T.keep _ _ _ st7 fun c hc o e => (stay c hc o e).1, fun c hc => let ⟨o, e, _⟩ := T.obj _ _ st7 c hc; (stay c hc o e).2, w'⟩
        rw [← hw8] at e
        exact (wipe_some e).1
      cases c with
      | false =>
        simp only [Bool.false_eq_true, if_false] at q9 ⊢
        exact fin I9 q9
      | true =>
        simp only [if_true] at q9 ⊢
        refine thnF (pk.run _ s9 σ8 H9 _ I9 q9) fun z s10 ⟨yk, H10, I10, r10, q10⟩ => ?_
        refine thnF (pe.run _ s10 σ8 H10 _ I10 q10) fun z2 s11 ⟨yv, H11, I11, r11, H12, put, nx⟩ => ?_
        exact d_store (X := X.blk s3 H3 scope ce fp) hu I11 put r10 r11 fun s12 I12 => fin I12 nx
end

/-! ### by data -/
def dPut (kds : List (D × D)) (k v : D) : List (D × D) := if (kds.any fun p => p.1.keq k) = true then kds.map (fun p => if p.1.keq k = true then (p.1, v) else p) else kds ++ [(k, v)]
theorem dPut_length (kds : List (D × D)) (k v : D) : (dPut kds k v).length ≤ kds.length + 1 := by
  unfold dPut
  split <;> simp
section
variable {K : PySem.W.Frag} {g g' : Gh} {H H' : Hp}
theorem put_any {κ : Type} [DecidableEq κ] (enc : κ → D) (hE : ∀ a b, (enc a).keq (enc b) = decide (a = b)) (q : κ) : ∀ {kds : List (D × D)} {kvs : List (κ × V)}, kds.map Prod.fst = kvs.map (fun p => enc p.1) → (kds.any fun p => p.1.keq (enc q)) = kvs.any fun p => decide (p.1 = q)
  | [], [], _ => rfl
  | [], _ :: _, h => by simp at h
  | _ :: _, [], h => by simp at h
  | (a, d) :: kds, (b, v) :: kvs, h => by
    rw [List.map_cons, List.map_cons] at h
    injection h with h1 h2
    have h1 : a = enc b := h1
    rw [List.any_cons, List.any_cons, put_any enc hE q h2, h1, hE]
theorem put_map {κ : Type} [DecidableEq κ] (enc : κ → D) (hE : ∀ a b, (enc a).keq (enc b) = decide (a = b)) (q : κ) {z : V} {e : D} (rz : Rp K g H z e) : ∀ {kds : List (D × D)} {kvs : List (κ × V)}, kds.map Prod.fst = kvs.map (fun p => enc p.1) → RpAll K g H (kvs.map (·.2)) (kds.map Prod.snd) →
    (kds.map (fun p => if p.1.keq (enc q) = true then (p.1, e) else p)).map Prod.fst = (kvs.map fun p => if p.1 = q then (p.1, z) else p).map (fun p => enc p.1) ∧
    RpAll K g H ((kvs.map fun p => if p.1 = q then (p.1, z) else p).map (·.2)) ((kds.map (fun p => if p.1.keq (enc q) = true then (p.1, e) else p)).map Prod.snd)
  | [], [], _, _ => ⟨rfl, .nil⟩
  | [], _ :: _, h, _ => by simp at h
  | _ :: _, [], h, _ => by simp at h
  | (a, d) :: kds, (b, v) :: kvs, h, r => by
    rw [List.map_cons, List.map_cons] at h
    injection h with h1 h2
    have h1 : a = enc b := h1
    subst h1
    cases r with
    | cons r1 r2 =>
      obtain ⟨i1, i2⟩ := put_map enc hE q rz h2 r2
      simp only [List.map_cons]
      by_cases c : b = q
      · have c' : (enc b).keq (enc q) = true := by rw [hE]; exact decide_eq_true c
        rw [if_pos c, if_pos c', i1]
        exact ⟨rfl, .cons rz i2⟩
      · have c' : ¬ (enc b).keq (enc q) = true := by rw [hE, decide_eq_false c]; exact Bool.false_ne_true
        rw [if_neg c, if_neg c', i1]
        exact ⟨rfl, .cons r1 i2⟩
theorem put_rel {κ : Type} [DecidableEq κ] (enc : κ → D) (hE : ∀ a b, (enc a).keq (enc b) = decide (a = b)) (q : κ) {z : V} {e : D} (rz : Rp K g H z e) {kds : List (D × D)} {kvs : List (κ × V)} (h : kds.map Prod.fst = kvs.map (fun p => enc p.1)) (r : RpAll K g H (kvs.map (·.2)) (kds.map Prod.snd)) :
    (dPut kds (enc q) e).map Prod.fst = (putK kvs q z).map (fun p => enc p.1) ∧ RpAll K g H ((putK kvs q z).map (·.2)) ((dPut kds (enc q) e).map Prod.snd) := by
  unfold dPut putK
  rw [put_any enc hE q h]
  split
  · exact put_map enc hE q rz h r
  · rw [List.map_append, List.map_append, List.map_append, List.map_append, h]
    exact ⟨rfl, r.append (.cons rz .nil)⟩
def kTup (ks : List Key) : D := .tup (ks.map kD)
theorem keq_kTup (a b : List Key) : (kTup a).keq (kTup b) = decide (a = b) := by
  show (D.tup _).keq (.tup _) = _
  unfold D.keq
  exact keqs_kD a b
/-- a dict in the making -/
def OpenD (K : PySem.W.Frag) (g : Gh) (H : Hp) (a : Addr) : Bool → List (D × D) → Prop
  | true => fun kds => ∃ kvs : List (List Key × V), H a = some (.dT kvs) ∧ kds.map Prod.fst = kvs.map (fun p => kTup p.1) ∧ RpAll K g H (kvs.map (·.2)) (kds.map Prod.snd)
  | false => fun kds => ∃ kvs : List (Key × V), H a = some (.dK kvs) ∧ kds.map Prod.fst = kvs.map (fun p => kD p.1) ∧ RpAll K g H (kvs.map (·.2)) (kds.map Prod.snd)
theorem OpenD.keep {a : Addr} (k : Kq g H g' H') (e : H' a = H a) : ∀ {b : Bool} {kds : List (D × D)}, OpenD K g H a b kds → OpenD K g' H' a b kds
  | true, _, ⟨kvs, h, q, r⟩ => ⟨kvs, e.trans h, q, r.keepQ k⟩
  | false, _, ⟨kvs, h, q, r⟩ => ⟨kvs, e.trans h, q, r.keepQ k⟩
theorem OpenD.new {a : Addr} : ∀ b : Bool, OpenD K g (upd H a (dE b)) a b []
  | true => ⟨[], upd_same, rfl, .nil⟩
  | false => ⟨[], upd_same, rfl, .nil⟩
theorem Kq.mutD {a : Addr} {o o' : HO} (h : H a = some o) (nt : ∀ xs, o ≠ .tup xs) (nf : ∀ p u, o ≠ .frz p u) (nz : ¬ g.Z a) : Kq g H g (upd H a o') where
  z := fun _ h => h
  r := ⟨[], by simp⟩
  kz := fun b o z e => by rw [upd_ne (show b ≠ a from fun q => nz (by rw [← q]; exact z))]; exact e
  kt := fun b zs e => by rw [upd_ne (fun q => by rw [q, h] at e; exact nt zs (Option.some.inj e))]; exact e
  kf := fun b o u e => by rw [upd_ne (fun q => by rw [q, h] at e; exact nf o u (Option.some.inj e))]; exact e
theorem Kp.mutO {gb : Gh} {H0 : Hp} {a : Addr} {o : HO} (k : Kp gb H0 g H) (h0 : H0 a = none) : Kp gb H0 g (upd H a o) where
  z := k.z
  r := k.r
  zf := k.zf
  rf := k.rf
  kd := fun b e => k.kd b (by
    by_cases q : b = a
    · rw [q, upd_same] at e; cases e
    · rw [upd_ne q] at e; exact e)
  kz := fun b o z e => by rw [upd_ne (ne_of_none e h0)]; exact k.kz b o z e
  kt := fun b o e => by rw [upd_ne (ne_of_none e h0)]; exact k.kt b o e
  kf := fun b o u e => by rw [upd_ne (ne_of_none e h0)]; exact k.kf b o u e
  kr := fun b o e n => by rw [upd_ne (ne_of_none e h0)]; exact k.kr b o e n
def OpenD.ob {a : Addr} {b : Bool} {kds : List (D × D)} (h : OpenD K g H a b kds) : ∃ o, H a = some o ∧ (∀ xs, o ≠ .tup xs) ∧ ∀ p u, o ≠ .frz p u := by
  cases b with
  | true => obtain ⟨kvs, h, _⟩ := h; exact ⟨_, h, fun xs z => (nomatch z), fun p u z => (nomatch z)⟩
  | false => obtain ⟨kvs, h, _⟩ := h; exact ⟨_, h, fun xs z => (nomatch z), fun p u z => (nomatch z)⟩
/-- one more entry -/
theorem OpenD.put {a : Addr} {b : Bool} {kds : List (D × D)} {y z : V} {k e : D} (h : OpenD K g H a b kds) (ry : Rp K g H y k) (rz : Rp K g H z e) (hk : k.kk = if b = true then 2 else 1) (hl : kds.length < sizeLine) (nz : ¬ g.Z a) :
    ∃ o, DPut H a y z (upd H a o) ∧ OpenD K g (upd H a o) a b (dPut kds k e) := by
  obtain ⟨o, h1, h2, h3⟩ := h.ob
  have q : ∀ o', Kq g H g (upd H a o') := fun o' => Kq.mutD h1 h2 h3 nz
  cases b with
  | true =>
    obtain ⟨kvs, h, e1, r⟩ := h
    obtain ⟨ks, rfl⟩ := kk2 hk
    obtain ⟨p, vs, ey, hp, _, rp⟩ := (show RpB K g H y (.tup (ks.map kD)) from .inl ry).seqT
    have ev := rp.keys
    subst ev ey
    have hl' : kvs.length < sizeLine := by
      have := congrArg List.length e1
      rw [List.length_map, List.length_map] at this
      omega
    obtain ⟨p1, p2⟩ := put_rel kTup keq_kTup ks rz e1 r
    exact ⟨_, DPut.t h hp hl', _, upd_same, p1, p2.keepQ (q _)⟩
  | false =>
    obtain ⟨kvs, h, e1, r⟩ := h
    obtain ⟨ks, rfl⟩ := kk1 hk
    have ey : y = kV ks := by
      cases ks with
      | inl i => exact (show RpB K g H y (.int i) from .inl ry).int
      | inr s => exact (show RpB K g H y (.str s) from .inl ry).str
    subst ey
    have hl' : kvs.length < sizeLine := by
      have := congrArg List.length e1
      rw [List.length_map, List.length_map] at this
      omega
    obtain ⟨p1, p2⟩ := put_rel kD keq_kD ks rz e1 r
    exact ⟨_, DPut.k h hl', _, upd_same, p1, p2.keepQ (q _)⟩
/-- the finished dict -/
theorem OpenD.dct {a : Addr} {b : Bool} {kds : List (D × D)} (h : OpenD K g H a b kds) (z : g.Z a) (hl : kds.length ≤ sizeLine) : Rp K g H (.ref a) (.dct kds) := by
  cases b with
  | true =>
    obtain ⟨kvs, h, e1, r⟩ := h
    exact .dct (ks := kds.map Prod.fst) (vs := kvs.map (·.2)) z (.inr ⟨kvs, h, e1, rfl⟩) (by rw [r.length, List.length_map]; exact hl) rfl r
  | false =>
    obtain ⟨kvs, h, e1, r⟩ := h
    exact .dct (ks := kds.map Prod.fst) (vs := kvs.map (·.2)) z (.inl ⟨kvs, h, e1, rfl⟩) (by rw [r.length, List.length_map]; exact hl) rfl r
/-- a new object is frozen -/
theorem fzKp {p : Addr} {o : HO} {S : Store} (k : Kp g H g' H') (st : StOk K g' S H') (hn : H p = none) (hp : H' p = some o) (nr : p ∉ g'.ρ) : Kp g H (g'.fz p) H' ∧ StOk K (g'.fz p) S H' ∧ Kq g' H' (g'.fz p) H' := by
  have q2 : Kq g' H' (g'.fz p) H' := ⟨fun _ h => .inr h, ⟨[], by simp [Gh.fz]⟩, fun _ _ _ h => h, fun _ _ h => h, fun _ _ _ h => h⟩
  exact ⟨⟨fun x h => .inr (k.z x h), k.r, fun x h => h.elim (fun e => .inr (e ▸ hn)) (k.zf x), k.rf, k.kd, k.kz, k.kt, k.kf, k.kr⟩,
    ⟨st.len, st.nd, fun x hx h => h.elim (fun e => nr (e ▸ hx)) (st.nz x hx), fun x h => h.elim (fun e => ⟨_, e ▸ hp⟩) (st.zt x), fun i x o h1 h2 => (st.at_ i x o h1 h2).keep q2 rfl⟩, q2⟩
theorem StOk.mutO {a : Addr} {o o' : HO} {S : Store} (st : StOk K g S H) (h : H a = some o) (nt : ∀ xs, o ≠ .tup xs) (nf : ∀ p u, o ≠ .frz p u) (nz : ¬ g.Z a) (nr : a ∉ g.ρ) : StOk K g S (upd H a o') where
  len := st.len
  nd := st.nd
  nz := st.nz
  zt := fun b z => by rw [upd_ne (show b ≠ a from fun q => nz (by rw [← q]; exact z))]; exact st.zt b z
  at_ := fun i b o h1 h2 => (st.at_ i b o h1 h2).keep (Kq.mutD h nt nf nz) (upd_ne (show b ≠ a from fun q => nr (by rw [← q]; exact List.mem_of_getElem? h1)))
end
def pairsD : List D → Option (List (D × D))
  | [] => some []
  | .tup [k, v] :: r => (pairsD r).map ((k, v) :: ·)
  | _ => none
def dFold (ps : List (D × D)) (acc : List (D × D)) : List (D × D) := ps.foldl (fun a p => dPut a p.1 p.2) acc
theorem dFold_cons (p : D × D) (ps acc : List (D × D)) : dFold (p :: ps) acc = dFold ps (dPut acc p.1 p.2) := rfl
theorem dFold_length : ∀ (ps acc : List (D × D)), (dFold ps acc).length ≤ acc.length + ps.length
  | [], acc => Nat.le_refl _
  | p :: ps, acc => by
    rw [dFold_cons, List.length_cons]
    have := dFold_length ps (dPut acc p.1 p.2)
    have := dPut_length acc p.1 p.2
    omega
def dctOk (b : Bool) (ps : List (D × D)) : Bool := ps.all fun p => p.1.kk == if b = true then 2 else 1
def mkDct (ps : List (D × D)) : M D := if ps.length ≤ sizeLine ∧ (dctOk true ps = true ∨ dctOk false ps = true) then M.ret (.dct (dFold ps [])) else M.stuck
def fKV (fk fv : Δ → M D) : Δ → M D := fun δ => M.bind (fk δ) fun k => M.bind (fv δ) fun v => M.ret (.tup [k, v])
def fDc (fi : Δ → M (List D)) (gg : D → Δ → Option Δ) (ft : Δ → M Bool) (fk fv : Δ → M D) (vs : List Nat) : Δ → M D := fun δ => M.bind (fi δ) fun ds => M.bind (lcM gg ft (fKV fk fv) (wipeD δ vs) ds) fun ys => M.bind (M.opt (pairsD ys)) mkDct
theorem pairsD_cons {y : D} {ys : List D} {ps : List (D × D)} (h : pairsD (y :: ys) = some ps) : ∃ k v r, y = .tup [k, v] ∧ pairsD ys = some r ∧ ps = (k, v) :: r := by
  unfold pairsD at h
  split at h
  · rename_i heq
    cases heq
  · rename_i k v r heq
    cases heq
    rw [Option.map_eq_some_iff] at h
    obtain ⟨r, h1, h2⟩ := h
    exact ⟨_, _, _, rfl, h1, h2.symm⟩
  · cases h
theorem pairsD_length : ∀ {ys : List D} {ps : List (D × D)}, pairsD ys = some ps → ps.length = ys.length
  | [], _, h => by cases h; rfl
  | y :: ys, _, h => by
    obtain ⟨k, v, r, _, h1, rfl⟩ := pairsD_cons h
    rw [List.length_cons, List.length_cons, pairsD_length h1]
section
variable {N : Nv} {W : XK} {X : Cx} {md : Md} {e a b tg iter kx vx : Expr} {g0 : G0} {g : Gh} {H0 H : Hp} {S : Store} {δ : Δ} {σ : L2.St} {Q : VK} {pos : Pos}
theorem Good.mutNewO {c : Addr} {o o' : HO} (G : Good N g0 H0 g S δ σ H) (hD : H c = some o) (nt : ∀ xs, o ≠ .tup xs) (nf : ∀ p u, o ≠ .frz p u) (h0 : H0 c = none) (nz : ¬ g.Z c) (nr : c ∉ g.ρ) (hf : ∀ (j : Nat) (v : V) (es : List D), δ[j]? = some (some (.own es)) → σ[j]? = some (some v) → v ≠ .ref c) :
    Good N g0 H0 g S δ σ (upd H c o') := by
  have q : Kq g H g (upd H c o') := Kq.mutD hD nt nf nz
  refine ⟨fun j s hj => ?_, G.len, G.dis, G.st.mutO hD nt nf nz nr, G.kp.mutO h0, fun p hp => (G.ck p hp).trans q⟩
  obtain ⟨v, e, r⟩ := G.sl j s hj
  refine ⟨v, e, ?_⟩
  cases s with
  | d d => exact Rp.keepQ q r
  | own es =>
    obtain ⟨x, ws, ev, k0, k1, k2, k3, k4, k5⟩ := r
    subst ev
    have hcb : x ≠ c := fun z => hf j _ es hj e (by rw [z])
    exact ⟨x, ws, rfl, k0, by rw [upd_ne hcb]; exact k1, k2, k3, k4, k5.keepQ q⟩
theorem kv_run {fk fv : Δ → M D} {y : D} {S2 : Store} (h : fKV fk fv δ S = .ok y S2) : ∃ k v S1, fk δ S = .ok k S1 ∧ fv δ S1 = .ok v S2 ∧ y = .tup [k, v] := by
  unfold fKV at h
  cases e1 : fk δ S with
  | stk => rw [M.bind_stk e1] at h; cases h
  | err c x S3 => rw [M.bind_err e1] at h; cases h
  | ok k S1 =>
    rw [M.bind_ok e1] at h
    cases e2 : fv δ S1 with
    | stk => rw [M.bind_stk e2] at h; cases h
    | err c x S3 => rw [M.bind_err e2] at h; cases h
    | ok v S3 =>
      rw [M.bind_ok e2] at h
      cases h
      exact ⟨k, v, S1, rfl, e2, rfl⟩
theorem away {g1 : Gh} {H1 : Hp} {L : Addr} {o : HO} (kk : Kp g H g1 H1) (hA : H L = some o) (nz : ¬ g.Z L) (nr : L ∉ g.ρ) : H1 L = some o ∧ ¬ g1.Z L ∧ L ∉ g1.ρ :=
  ⟨kk.kr _ _ hA nr, fun z => (kk.zf L z).elim nz fun q => (by rw [hA] at q; cases q), fun z => (kk.rf L z).elim nr fun q => (by rw [hA] at q; cases q)⟩
theorem dc_weak {K : PySem.W.Frag} {fi : Δ → M (List D)} {is vs : List Nat} {gg : D → Δ → Option Δ} {ft : Δ → M Bool} {fk fv : Δ → M D} (his : ∀ i ∈ is, i ∈ vs) {σ : L2.St} {H : Hp} {Q : VK} (h : tE N W .fz (fDc fi gg ft fk fv vs) σ H Q) : tDcP (tI N W fi) (tG N is gg) (tT N W0 ft) (tE N W0 .fz fk) (tE N W0 .fz fv) vs σ H Q := by
  obtain ⟨g0, H0, g, S, δ, G, q⟩ := h
  exact tI_seq G q fun ds S1 H1 g1 k1 G1 q1 J hJ D hD => by
    have h0 : H0 D = none := G1.kp.kd _ hD
    obtain ⟨nz1, nr1⟩ := G1.st.nz' hD
    have noslot : ∀ (j : Nat) (v : V) (es : List DL.D), δ[j]? = some (some (.own es)) → σ[j]? = some (some v) → v ≠ .ref D := fun j v es hj hv z => by
      obtain ⟨w, e, b, ws, ev, _, hb, _⟩ := G1.sl j _ hj
      rw [hv] at e
      cases e
      subst z
      cases ev
      rw [hD] at hb
      cases hb
    cases ef : lcM gg ft (fKV fk fv) (wipeD δ vs) ds S1 with
    | stk => rw [M.bind_stk ef] at q1; exact q1.elim
    | err c x S2 => exact (lc_noErr ef).elim
    | ok ys Sf =>
      rw [M.bind_ok ef] at q1
      obtain ⟨ps, eps, q1⟩ : ∃ ps, pairsD ys = some ps ∧ Res N W g1 H1 (fun g' H' d => ∀ v, RpM N.K H .fz g' H' v d → Q v H') (mkDct ps Sf) := by
        cases e : pairsD ys with
        | none => rw [e] at q1; exact q1.elim
        | some ps => rw [e] at q1; exact ⟨ps, rfl, q1⟩
      obtain ⟨⟨hlen, hkind⟩, q1⟩ := Res.ite q1
      obtain ⟨bk, hbk⟩ : ∃ bk, dctOk bk ps = true := hkind.elim (fun h => ⟨_, h⟩) fun h => ⟨_, h⟩
      have k0 : Kp g1 H1 g1 (upd H1 D (dE bk)) := (Ex.new hD).kp
      refine ⟨bk, fun i m H => m = ds.length - i ∧ i ≤ ds.length ∧ ∃ g2 S2 acc rs rp, Good N g0 H0 g2 S2 δ σ H ∧ Kp g1 H1 g2 H ∧ OpenD N.K g2 H D bk acc ∧ ¬ g2.Z D ∧ D ∉ g2.ρ ∧
        lcM gg ft (fKV fk fv) (wipeD δ vs) (ds.drop i) S2 = .ok rs Sf ∧ pairsD rs = some rp ∧ dctOk bk rp = true ∧ acc.length + rp.length ≤ sizeLine ∧ dFold rp acc = dFold ps [],
        ⟨_, rfl, Nat.zero_le _, g1, S1, [], ys, ps, G1.later k0 (G1.st.ex (Ex.new hD)), k0, OpenD.new bk, nz1, nr1, ef, eps, hbk, by simpa using hlen, rfl⟩, ?_⟩
      rintro i m H2 ⟨rfl, hi', g2, S2, acc, rs, rp, G2, k2, hA, nz, nr, e2, er, eok, hl, ed⟩
      by_cases hlt : i < ds.length
      · refine .inr ⟨hJ.go g2 H2 i k2.q hlt, fun H' => ∃ g2 S2 acc rs rp, Good N g0 H0 g2 S2 δ σ H' ∧ Kp g1 H1 g2 H' ∧ OpenD N.K g2 H' D bk acc ∧ ¬ g2.Z D ∧ D ∉ g2.ρ ∧
          lcM gg ft (fKV fk fv) (wipeD δ vs) (ds.drop (i + 1)) S2 = .ok rs Sf ∧ pairsD rs = some rp ∧ dctOk bk rp = true ∧ acc.length + rp.length ≤ sizeLine ∧ dFold rp acc = dFold ps [],
          fun H' h => ⟨ds.length - (i + 1), by omega, rfl, hlt, h⟩, fun x H3 hy => ?_⟩
        obtain ⟨g3, ex, rx⟩ := hJ.yld g2 H2 i x H3 ds[i] k2.q (List.getElem?_eq_getElem hlt) hy
        have G3 := G2.later ex.kp (G2.st.ex ex)
        rw [drop_get hlt] at e2
        obtain ⟨δ1, c, S4, eg, et, hb⟩ := lc_turn e2
        refine ⟨g0, H0, g3, S2, wipeD δ vs, ds[i], δ1, G3.wipe vs, rx, eg, fun σ4 G4 off => ⟨wipe_off his off, tT_run G4 et fun g5 H5 k5 st5 => ?_⟩⟩
        have kk : Kp g2 H2 g5 H5 := ex.kp.trans k5
        have G5 := G2.later kk st5
        obtain ⟨o, ho, nt, nf⟩ := hA.ob
        obtain ⟨a5, nz5, nr5⟩ := away kk ho nz nr
        rcases hb with ⟨rfl, er'⟩ | ⟨rfl, y, S6, zs, ey, er', ez⟩
        · rw [if_neg (by decide)]
          exact ⟨g5, S4, acc, rs, rp, G5, k2.trans kk, hA.keep kk.q (a5.trans ho.symm), nz5, nr5, er', er, eok, hl, ed⟩
        · rw [if_pos rfl]
          obtain ⟨k, v, S5, ek, ev, ey⟩ := kv_run ey
          subst ez ey
          obtain ⟨k', v', rr, ekv, er2, erp⟩ := pairsD_cons er
          cases ekv
          subst erp
          unfold dctOk at eok
          rw [List.all_cons, Bool.and_eq_true, beq_iff_eq] at eok
          refine tE_run (G4.later k5 st5) ek fun g6 H6 vk k6 st6 rk => tE_run ((G4.later k5 st5).later k6 st6) ev fun g7 H7 vv k7 st7 rv => ?_
          have kk7 : Kp g2 H2 g7 H7 := (kk.trans k6).trans k7
          have G7 := G2.later kk7 st7
          obtain ⟨a7, nz7, nr7⟩ := away kk7 ho nz nr
          have O7 := hA.keep kk7.q (a7.trans ho.symm)
          rw [List.length_cons] at hl
          obtain ⟨o', put, O8⟩ := O7.put (Rp.keep k7 rk) rv eok.1 (by omega) nz7
          refine ⟨_, put, g7, S6, dPut acc k v, zs, rr, G7.mutNewO a7 nt nf h0 nz7 nr7 noslot, (k2.trans kk7).mutO hD, O8, nz7, nr7, er', er2, eok.2, ?_, ed⟩
          have := dPut_length acc k v
          omega
      · have e : i = ds.length := by omega
        subst e
        rw [List.drop_length] at e2
        cases e2
        cases er
        have ed : acc = dFold ps [] := ed
        subst ed
        obtain ⟨o, ho, _, _⟩ := hA.ob
        obtain ⟨kf, stf, qf⟩ := fzKp k2 G2.st hD ho nr
        exact .inl ⟨hJ.stop g2 H2 _ k2.q rfl, q1 _ H2 kf stf _ ((hA.keep qf rfl).dct (.inl rfl) (by simpa using hl))⟩
theorem de_dc {ifs : List Expr} {scope : Scope} {own : List (Str × Nat)} {fi : Δ → M (List D)} {is : List Nat} {gg : D → Δ → Option Δ} {ft : Δ → M Bool} {fk fv : Δ → M D} (hu : X.A.units + 65 < cLine) (hc : X.calm = true) (hN : X.N.Nodup) (hi : DI N W X tg iter fi) (ok : BlkOk X.N X.env.scope scope own)
    (hg : ∀ (s : Shared) (H : Hp) (C : Addr) (cl : List (Str × Addr)) (fp : List Addr), DG N (X.blk s H scope (compEnvC scope cl C X.env) fp) tg is gg)
    (ht : ∀ (s : Shared) (H : Hp) (C : Addr) (cl : List (Str × Addr)) (fp : List Addr), DTs N W0 (X.blk s H scope (compEnvC scope cl C X.env) fp) ifs ft)
    (hk : ∀ (s : Shared) (H : Hp) (C : Addr) (cl : List (Str × Addr)) (fp : List Addr), DE N W0 (X.blk s H scope (compEnvC scope cl C X.env) fp) .fz kx fk)
    (he : ∀ (s : Shared) (H : Hp) (C : Addr) (cl : List (Str × Addr)) (fp : List Addr), DE N W0 (X.blk s H scope (compEnvC scope cl C X.env) fp) .fz vx fv)
    (his : ∀ i ∈ is, i ∈ own.map (·.2) := by decide) (hs : ∀ x, foldedSetIterable iter X.env x = pure x := by intro _; rfl) :
    DE N W X .fz (.DictComp kx vx [⟨tg, iter, ifs, 0⟩] scope pos) (fDc fi gg ft fk fv (own.map (·.2))) :=
  (pe_dcP (by omega) hc hN hi ok hg ht hk he hs).imp fun σ H Q h => dc_weak (K := N.K) his h
end
end DL

set_option Elab.async false
set_option linter.all false
set_option maxRecDepth 100000
set_option maxHeartbeats 4000000
/-! DL13: dict(list(zip(xs, ys))), keys tuples. -/
namespace DL
open PySem PySem.Spec PyProof.Rows L2

theorem zip_no_len : typeLookup (.type "zip") "__len__" = pure none := by rw [typeLookup_type, builtinLookup_eq_fast]; kernel_rfl
theorem zip_no_hint : typeLookup (.type "zip") "__length_hint__" = pure none := by rw [typeLookup_type, builtinLookup_eq_fast]; kernel_rfl
abbrev PL (acc : Array Value) (c : Nat) : Obj := { cls := .type "list", dict := none, data := .seq acc c, slots := #[] }
section
variable {prog : Program} {w : World} {A : Around} {s : Shared} {R : Result → Shared → Prop}
/-- the loop that fills a list from an iterator, told by what stands between two turns -/
theorem fill_loop {S I : Addr} {res : Value} {n : Nat} {J : Nat → Shared → Array Value → Prop} (hn : n ≤ sizeLine) (hJ : ∀ i s acc, J i s acc → acc.size = i)
    (item : ∀ (i : Nat) (s : Shared) (acc : Array Value) (c : Nat) (E : Value → Shared → Prop), i < n → J i s acc → s.heap.get? S = some (PL acc c) →
      wpAny (model prog w) A.in1 (pyNext (.ref I)) (fun r s' => ∃ v, r = some v ∧ s'.heap.get? S = some (PL acc c) ∧ ∀ h', (∀ b o, b ≠ S → s'.heap.get? b = some o → h'.get? b = some o) → J (i + 1) { s' with heap := h' } (acc.push v)) E s)
    (done : ∀ (s : Shared) (acc : Array Value) (c : Nat) (E : Value → Shared → Prop), J n s acc → s.heap.get? S = some (PL acc c) → wpAny (model prog w) A.in1 (pyNext (.ref I)) (fun r s' => r = none ∧ R (.ok (.ret res)) s') E s) :
    ∀ (k i : Nat) (s : Shared) (acc : Array Value) (c : Nat), n - i = k → i ≤ n → J i s acc → s.heap.get? S = some (PL acc c) → codeAny (model prog w) A (.builtin "list.extend.loop" ⟨[.ref S, .ref I, res], []⟩) R s := by
  intro k
  induction k with
  | zero =>
    intro i s acc c hk hi hj hS
    obtain rfl : i = n := by omega
    refine codeAny_builtin F.entry_extend_loop ?_
    rw [Around.under_plainId F.plain_extend_loop _]
    show wpAny _ A.in1 (pyNext (.ref I) >>= _) _ _ s
    refine wpAny_bind (wpAny_mono (done s acc c _ hj hS) (fun r s' h => ?_) fun _ _ h => h)
    obtain ⟨rfl, h⟩ := h
    exact wpAny_pure h
  | succ k ih =>
    intro i s acc c hk hi hj hS
    refine codeAny_builtin F.entry_extend_loop ?_
    rw [Around.under_plainId F.plain_extend_loop _]
    show wpAny _ A.in1 (pyNext (.ref I) >>= _) _ _ s
    refine wpAny_bind (wpAny_mono (item i s acc c _ (by omega) hj hS) (fun r s' h => ?_) fun _ _ h => h)
    obtain ⟨v, rfl, hS', hj'⟩ := h
    have hz := hJ i s acc hj
    show wpAny _ A.in1 (updateSeq S (·.push v) >>= _) _ _ _
    refine wpAny_bind ?_
    refine wpAny_updateSeq hS' rfl (wpAny_pure ⟨plainId_quiet F.plain_extend_loop _, ih (i + 1) _ (acc.push v) _ (by omega) (by omega) (hj' _ fun b o hb e => (Heap.get?_update_other _ _ (Ne.symm hb)).trans e) (Heap.get?_update_self _ hS' rfl)⟩) (by omega) (by show (acc.push v).size ≤ sizeLine + 1; rw [Array.size_push]; omega)
end
section
variable {prog : Program} {w : World} {A : Around} {E : Value → Shared → Prop} {s : Shared} {z TI TO i1 i2 T : Addr} {fp1 fp2 : List Addr} {n1 n2 i : Nat} {P1 P2 : Nat → Value → Prop} {St1 St2 : Nat → Heap → Prop} {f : Bool} {oT : Obj}
/-- a zip whose last tuple is still out: the next one is new -/
theorem zipH_next {Q : Value → Shared → Prop} (S : ZipSep2 z TI TO i1 i2 fp1 fp2) (D1 : Draws prog w A i1 fp1 n1 P1 St1) (D2 : Draws prog w A i2 fp2 n2 P2 St2)
    (hz : IsZipHeld s.heap z TI TO T f) (hT : s.heap.get? T = some oT) (hTI : IsTupOf2 s.heap TI (.ref i1) (.ref i2)) (st1 : St1 i s.heap) (st2 : St2 i s.heap) (hlt1 : i < n1) (hlt2 : i < n2)
    (hQ : ∀ x1 x2 h' tk, P1 i x1 → P2 i x2 → IsZipHeld h' z TI TO T true → St1 (i + 1) h' → St2 (i + 1) h' → IsTupOf2 h' s.heap.objs.size x1 x2 →
      (∀ c o, c ≠ z → c ≠ i1 → c ≠ i2 → s.heap.get? c = some o → h'.get? c = some o) → Q (.ref s.heap.objs.size) { s with heap := h', toks := tk }) :
    wpAny (model prog w) A (Builtin.«zip.__next__» ⟨[.ref z], []⟩) (fun fin s' => ∃ v, fin = .done (.ret v) ∧ Q v s') E s := by
  obtain ⟨hp, g, d, tk0, os⟩ := s
  show wpAny _ _ (field (.ref z) 2 >>= _) _ _ _
  refine wpAny_bind (wpAny_field hz rfl (x := .bool false) rfl ?_)
  show wpAny _ _ (field (.ref z) 3 >>= _) _ _ _
  refine wpAny_bind (wpAny_field hz rfl (x := .ref TI) rfl ?_)
  refine wpAny_bind (wpAny_seqItems hTI rfl ?_)
  show wpAny _ _ (Builtin.SmallTypes.ownedTupleIsFree (.ref z) >>= _) _ _ _
  refine wpAny_bind (wpAny_tupleHeld_zip hz hT fun g0 hz0 hs0 => ?_)
  replace hs0 : Heap.SameBut z hp g0 := hs0
  simp only [Bool.false_eq_true, if_false]
  refine wpAny_bind ?_
  rw [← Array.forIn_toList]
  simp only [List.forIn_cons, List.forIn_nil]
  refine wpAny_bind (wpAny_bind (wpAny_holding ?_))
  show wpAny _ _ (Builtin.SmallTypes.nextOf (.ref i1) >>= _) _ _ ⟨g0, g, d, tk0, os⟩
  refine wpAny_bind (D1.item i _ _ _ hlt1 (D1.over st1 hs0 S.zf1) fun x1 p1 tk1 hx1 sn1 hp1 => wpAny_pure ?_)
  replace hp1 : Heap.SameBut i1 g0 p1 := hp1
  refine wpAny_pure ?_
  refine wpAny_bind (wpAny_bind (wpAny_holding ?_))
  show wpAny _ _ (Builtin.SmallTypes.nextOf (.ref i2) >>= _) _ _ ⟨p1, g, d, tk1, os⟩
  refine wpAny_bind (D2.item i _ _ _ hlt2 (D2.over (D2.over st2 hs0 S.zf2) hp1 S.sep1_2) fun x2 p2 tk2 hx2 sn2 hp2 => wpAny_pure ?_)
  replace hp2 : Heap.SameBut i2 p1 p2 := hp2
  refine wpAny_pure (wpAny_pure ?_)
  show wpAny _ _ (newTuple [x1, x2] >>= _) _ _ ⟨p2, g, d, tk2, os⟩
  refine wpAny_bind (wpAny_newTuple ?_)
  have hsz : p2.objs.size = hp.objs.size := by rw [hp2.1, hp1.1, hs0.1]
  have hz2 : IsZipHeld p2 z TI TO T true := hp2.extBut _ _ S.zi2 (hp1.extBut _ _ S.zi1 hz0)
  have hk : ∀ c o, c ≠ z → c ≠ i1 → c ≠ i2 → hp.get? c = some o → p2.get? c = some o := fun c o c1 c2 c3 e => hp2.extBut _ _ c3 (hp1.extBut _ _ c2 (hs0.extBut _ _ c1 e))
  have j1 := D1.over sn1 hp2 S.sep2_1
  refine wpAny_pure ⟨_, rfl, ?_⟩
  show Q (.ref p2.objs.size) _
  have hpair : IsTupOf2 (p2.push { cls := .type "tuple", data := .seq #[x1, x2] }) p2.objs.size x1 x2 := Heap.get?_push_size _ rfl
  rw [hsz] at hpair ⊢
  exact hQ x1 x2 _ tk2 hx1 hx2 (Heap.get?_push_of_some _ hz2) (D1.frame _ _ _ j1 fun b hb o e => Heap.get?_push_of_some _ e) (D2.frame _ _ _ sn2 fun b hb o e => Heap.get?_push_of_some _ e) hpair fun c o c1 c2 c3 e => Heap.get?_push_of_some _ (hk c o c1 c2 c3 e)
theorem zipH_end {Q : Fin → Shared → Prop} (S : ZipSep2 z TI TO i1 i2 fp1 fp2) (D1 : Draws prog w A i1 fp1 n1 P1 St1) (D2 : Draws prog w A i2 fp2 n2 P2 St2)
    (hz : IsZipHeld s.heap z TI TO T f) (hT : s.heap.get? T = some oT) (hTI : IsTupOf2 s.heap TI (.ref i1) (.ref i2)) (st1 : St1 i s.heap) (st2 : St2 i s.heap) (hle1 : i ≤ n1) (hle2 : i ≤ n2) (hend : i = n1 ∨ i = n2)
    (hE : ∀ h' tk e, (∀ c o, c ≠ z → c ≠ i1 → c ≠ i2 → s.heap.get? c = some o → h'.get? c = some o) → (∃ o, h'.get? e = some o ∧ o.cls = .type "StopIteration") → E (.ref e) { s with heap := h', toks := tk }) :
    wpAny (model prog w) A (Builtin.«zip.__next__» ⟨[.ref z], []⟩) Q E s := by
  obtain ⟨hp, g, d, tk0, os⟩ := s
  show wpAny _ _ (field (.ref z) 2 >>= _) _ _ _
  refine wpAny_bind (wpAny_field hz rfl (x := .bool false) rfl ?_)
  show wpAny _ _ (field (.ref z) 3 >>= _) _ _ _
  refine wpAny_bind (wpAny_field hz rfl (x := .ref TI) rfl ?_)
  refine wpAny_bind (wpAny_seqItems hTI rfl ?_)
  show wpAny _ _ (Builtin.SmallTypes.ownedTupleIsFree (.ref z) >>= _) _ _ _
  refine wpAny_bind (wpAny_tupleHeld_zip hz hT fun g0 hz0 hs0 => ?_)
  replace hs0 : Heap.SameBut z hp g0 := hs0
  simp only [Bool.false_eq_true, if_false]
  refine wpAny_bind ?_
  rw [← Array.forIn_toList]
  simp only [List.forIn_cons, List.forIn_nil]
  refine wpAny_bind (wpAny_bind (wpAny_holding ?_))
  show wpAny _ _ (Builtin.SmallTypes.nextOf (.ref i1) >>= _) _ _ ⟨g0, g, d, tk0, os⟩
  by_cases hlt1 : i < n1
  · refine wpAny_bind (D1.item i _ _ _ hlt1 (D1.over st1 hs0 S.zf1) fun x1 p1 tk1 hx1 sn1 hp1 => wpAny_pure ?_)
    replace hp1 : Heap.SameBut i1 g0 p1 := hp1
    refine wpAny_pure ?_
    have e2 : i = n2 := by omega
    subst e2
    refine wpAny_bind (wpAny_bind (wpAny_holding ?_))
    show wpAny _ _ (Builtin.SmallTypes.nextOf (.ref i2) >>= _) _ _ ⟨p1, g, d, tk1, os⟩
    refine wpAny_bind (D2.done ⟨p1, g, d, tk1, os⟩ _ _ (D2.over (D2.over st2 hs0 S.zf2) hp1 S.sep1_2) fun q e hq he => ?_)
    replace hq : Heap.ExtBut i2 p1 q := hq
    exact hE q tk1 e (fun c o c1 c2 c3 x => hq _ _ c3 (hp1.extBut _ _ c2 (hs0.extBut _ _ c1 x))) he
  · have e1 : i = n1 := by omega
    subst e1
    refine wpAny_bind (D1.done ⟨g0, g, d, tk0, os⟩ _ _ (D1.over st1 hs0 S.zf1) fun q e hq he => ?_)
    replace hq : Heap.ExtBut i1 g0 q := hq
    exact hE q tk0 e (fun c o c1 c2 c3 x => hq _ _ c2 (hs0.extBut _ _ c1 x)) he
theorem pyNext_zipH {Q : Option Value → Shared → Prop} (S : ZipSep2 z TI TO i1 i2 fp1 fp2) (D1 : Draws prog w A.in1 i1 fp1 n1 P1 St1) (D2 : Draws prog w A.in1 i2 fp2 n2 P2 St2)
    (hz : IsZipHeld s.heap z TI TO T f) (hT : s.heap.get? T = some oT) (hTI : IsTupOf2 s.heap TI (.ref i1) (.ref i2)) (st1 : St1 i s.heap) (st2 : St2 i s.heap) (hlt1 : i < n1) (hlt2 : i < n2)
    (hQ : ∀ x1 x2 h' tk, P1 i x1 → P2 i x2 → IsZipHeld h' z TI TO T true → St1 (i + 1) h' → St2 (i + 1) h' → IsTupOf2 h' s.heap.objs.size x1 x2 →
      (∀ c o, c ≠ z → c ≠ i1 → c ≠ i2 → s.heap.get? c = some o → h'.get? c = some o) → Q (some (.ref s.heap.objs.size)) { s with heap := h', toks := tk }) :
    wpAny (model prog w) A (pyNext (.ref z)) Q E s := by
  have hTy : s.TypeIs (.ref z) "zip" := ⟨_, hz, rfl⟩
  unfold pyNext
  exact wpAny_bind (wpAny_attempt (wpAny_callSpecial?_slot (name := Str.ofString "__next__") hTy F.slot_zip_next
    (wpAny_call_entry F.slot_zip_next hTy F.entry_zip_next (zipH_next S D1 D2 hz hT hTI st1 st2 hlt1 hlt2 fun x1 x2 h' tk y1 y2 b1 d1 d2 b5 b7 => wpAny_pure (hQ x1 x2 h' tk y1 y2 b1 d1 d2 b5 b7)) (F.args_zip_next_1 _))))
theorem pyNext_zipH_end {Q : Option Value → Shared → Prop} (S : ZipSep2 z TI TO i1 i2 fp1 fp2) (D1 : Draws prog w A.in1 i1 fp1 n1 P1 St1) (D2 : Draws prog w A.in1 i2 fp2 n2 P2 St2)
    (hz : IsZipHeld s.heap z TI TO T f) (hT : s.heap.get? T = some oT) (hTI : IsTupOf2 s.heap TI (.ref i1) (.ref i2)) (st1 : St1 i s.heap) (st2 : St2 i s.heap) (hle1 : i ≤ n1) (hle2 : i ≤ n2) (hend : i = n1 ∨ i = n2)
    (hQ : ∀ h' tk, (∀ c o, c ≠ z → c ≠ i1 → c ≠ i2 → s.heap.get? c = some o → h'.get? c = some o) → Q none { s with heap := h', toks := tk }) : wpAny (model prog w) A (pyNext (.ref z)) Q E s := by
  have hTy : s.TypeIs (.ref z) "zip" := ⟨_, hz, rfl⟩
  unfold pyNext
  refine wpAny_bind (wpAny_attempt (wpAny_callSpecial?_slot (name := Str.ofString "__next__") hTy F.slot_zip_next
    (wpAny_call_entry F.slot_zip_next hTy F.entry_zip_next (zipH_end S D1 D2 hz hT hTI st1 st2 hle1 hle2 hend fun h' tk e hk he => ?_) (F.args_zip_next_1 _))))
  obtain ⟨o, ho, hc⟩ := he
  refine wpAny_bind (wpAny_isInstance (T := "StopIteration") (b := true) ⟨o, ho, hc⟩ isSubtype_stop ?_)
  exact wpAny_pure (hQ _ _ hk)
end

/-! ### list(zip(a, b)), the zip at z -/
/-- between two turns: acc the pairs that stand in the list -/
structure ZJ (c d : Bool) (z TI TO i1 i2 a b S : Addr) (xs ys : Array Value) (s0 : Shared) (i : Nat) (s : Shared) (acc : Array Value) : Prop where
  size : acc.size = i
  same : s = { s0 with heap := s.heap, toks := s.toks }
  old : ∀ b o, b < s0.heap.objs.size → s0.heap.get? b = some o → b ≠ S → b ∉ [z, TO, i1, i2] → s.heap.get? b = some o
  ti : IsTupOf2 s.heap TI (.ref i1) (.ref i2)
  st1 : IterC c s.heap i1 a i ∧ HeapC c s.heap a xs
  st2 : IterC d s.heap i2 b i ∧ HeapC d s.heap b ys
  zs : (IsZip s.heap z TI TO .none ∧ ∃ x y, IsTupOf2 s.heap TO x y) ∨ ∃ T f oT, IsZipHeld s.heap z TI TO T f ∧ s.heap.get? T = some oT ∧ T ∉ [z, TO, i1, i2, S]
  prs : ∀ (j : Nat) (v : Value), acc[j]? = some v → ∃ (T : Addr) (x y : Value), v = .ref T ∧ T ∉ [z, TO, i1, i2, S] ∧ xs[j]? = some x ∧ ys[j]? = some y ∧ IsTupOf2 s.heap T x y
theorem iterC_draw {c : Bool} {h h' : Heap} {it l : Addr} {i : Nat} {xs : Array Value} (st : IterC c h it l i ∧ HeapC c h l xs) (k1 : ∀ o, h.get? it = some o → h'.get? it = some o) (k2 : ∀ o, h.get? l = some o → h'.get? l = some o) : IterC c h' it l i ∧ HeapC c h' l xs := by
  refine ⟨iterC_at k1 st.1, ?_⟩
  cases c with
  | true => exact (show h.IsList l xs from st.2).at k2
  | false => exact (show h.IsTuple l xs from st.2).at k2
section
variable {prog : Program} {w : World} {A : Around} {E : Value → Shared → Prop} {s : Shared} {c d : Bool} {z TI TO i1 i2 a b : Addr} {xs ys : Array Value}
theorem list_of_zip {Q : Value → Shared → Prop} (hh : A.handled = none) (D : ZipSep2 z TI TO i1 i2 [i1, a] [i2, b]) (na : a ≠ i1) (nb : b ≠ i2) (hl : ∀ x ∈ [z, TI, TO, i1, i2, a, b], x < s.heap.objs.size)
    (hz : IsZip s.heap z TI TO .none) (hTI : IsTupOf2 s.heap TI (.ref i1) (.ref i2)) (hTO : ∃ x y, IsTupOf2 s.heap TO x y) (st1 : IterC c s.heap i1 a 0 ∧ HeapC c s.heap a xs) (st2 : IterC d s.heap i2 b 0 ∧ HeapC d s.heap b ys) (hn : min xs.size ys.size ≤ sizeLine)
    (h : ∀ h' tk acc cc, (∀ b o, s.heap.get? b = some o → b ∉ [z, TO, i1, i2] → h'.get? b = some o) → h'.get? s.heap.objs.size = some (PL acc cc) → acc.size = min xs.size ys.size →
      (∀ (j : Nat) (v : Value), acc[j]? = some v → ∃ (T : Addr) (x y : Value), v = .ref T ∧ xs[j]? = some x ∧ ys[j]? = some y ∧ IsTupOf2 h' T x y) → Q (.ref s.heap.objs.size) { s with heap := h', toks := tk }) :
    wpAny (model prog w) A (call (.type "list") [.ref z]) Q E s := by
  generalize hS : s.heap.objs.size = S at *
  have ne : ∀ x ∈ [z, TI, TO, i1, i2, a, b], x ≠ S := fun x hx => Nat.ne_of_lt (hl x hx)
  have zS : z ≠ S := ne z (by simp)
  have TIS : TI ≠ S := ne TI (by simp)
  have TOS : TO ≠ S := ne TO (by simp)
  have i1S : i1 ≠ S := ne i1 (by simp)
  have i2S : i2 ≠ S := ne i2 (by simp)
  have aS : a ≠ S := ne a (by simp)
  have bS : b ≠ S := ne b (by simp)
  have az : a ≠ z := fun e => D.zf1 (by simp [e])
  have aTO : a ≠ TO := fun e => D.Tf1 (by simp [e])
  have ai2 : a ≠ i2 := fun e => D.sep2_1 (by simp [e])
  have bz : b ≠ z := fun e => D.zf2 (by simp [e])
  have bTO : b ≠ TO := fun e => D.Tf2 (by simp [e])
  have bi1 : b ≠ i1 := fun e => D.sep1_2 (by simp [e])
  have i12 : i1 ≠ i2 := fun e => D.sep1_2 (by simp [e])
  refine callType_codes (Q₁ := fun obj s₁ => obj = .ref S ∧ s₁ = { s with heap := s.heap.push { cls := .type "list", data := .seq #[] } }) F.called_list (F.typeCall_list_1 _) F.entry_list_init
    (code_list_new _ ⟨by rw [← hS], rfl⟩) fun obj s₁ h₁ => ?_
  obtain ⟨rfl, rfl⟩ := h₁
  have up : ∀ b o, s.heap.get? b = some o → (s.heap.push { cls := .type "list", data := .seq #[] }).get? b = some o := fun b o e => Heap.get?_push_of_some _ e
  have hS0 : (s.heap.push { cls := .type "list", data := .seq #[] }).get? S = some (PL #[] 0) := by
    rw [← hS]
    exact Heap.get?_push_size _ rfl
  refine ⟨⟨_, hS0, rfl⟩, F.args_list_init_2 _ _, ?_⟩
  show wpAny _ _ (do let old ← Builtin.List.listItems (.ref S); Builtin.List.listUpdate (.ref S) (fun _ => #[]); letGo old.toList.reverse; Builtin.List.listExtendWith (.ref S) (.ref z) .none) _ _ _
  refine wpAny_bind ?_
  unfold Builtin.List.listItems
  refine wpAny_bind (wpAny_seqItems hS0 rfl (wpAny_pure ?_))
  show wpAny _ _ (updateSeq S (fun _ => #[]) >>= fun _ => letGo (#[] : Array Value).toList.reverse >>= fun _ => Builtin.List.listExtendWith (.ref S) (.ref z) .none) _ _ _
  refine wpAny_bind (wpAny_updateSeq hS0 rfl ?_)
  have hS1 := Heap.get?_update_self (Obj.mapSeq (fun _ => (#[] : Array Value))) hS0 rfl
  have o1 : ∀ b o, b ≠ S → s.heap.get? b = some o → ((s.heap.push { cls := .type "list", data := .seq #[] }).update S (Obj.mapSeq (fun _ => (#[] : Array Value)))).get? b = some o := fun b o hb e => (Heap.get?_update_other _ _ (Ne.symm hb)).trans (up b o e)
  refine wpAny_bind (wpAny_letGo ?_)
  generalize hg1 : (s.heap.push { cls := .type "list", data := .seq #[] }).update S (Obj.mapSeq (fun _ => (#[] : Array Value))) = g1 at hS1 o1 ⊢
  obtain ⟨n1, hS1⟩ : ∃ n, g1.get? S = some (PL #[] n) := ⟨_, hS1⟩
  have hTy : ∀ {h : Heap} {tk : Nat}, h.get? z = some { cls := .type "zip", dict := none, data := .fields #[.none, .bool false, .bool false, .ref TI, .ref TO], slots := #[] } → Shared.TypeIs { s with heap := h, toks := tk } (.ref z) "zip" := fun e => ⟨_, e, rfl⟩
  unfold Builtin.List.listExtendWith
  refine wpAny_bind (wpAny_typeOf (hTy (tk := s.toks) (o1 z _ zS hz)) ?_)
  have q1 : Builtin.List.listSameRef (.ref S) (.ref z) = false := by simp [Builtin.List.listSameRef, zS.symm]
  have q2 : (Value.type "zip" == Value.type "list") = false := by decide
  have q3 : (Value.type "zip" == Value.type "tuple") = false := by decide
  simp only [q1, q2, q3, Bool.or_false, Bool.false_eq_true, if_false]
  refine wpAny_bind (wpAny_pyIter_zip (o1 z _ zS hz) ?_)
  refine wpAny_bind (wpAny_holding ?_)
  unfold Builtin.List.listLengthHint
  refine wpAny_bind (wpAny_specialOf (hTy (tk := s.toks) (o1 z _ zS hz)) zip_no_len ?_)
  show wpAny _ _ (specialOf (Value.ref z) (Str.ofString "__length_hint__") >>= _) _ _ _
  refine wpAny_bind (wpAny_specialOf (hTy (tk := s.toks) (o1 z _ zS hz)) zip_no_hint ?_)
  refine wpAny_pure ?_
  show wpAny _ _ (rule "list.extend.makes-room" >>= fun _ => Builtin.List.listTouch (.ref S) >>= fun _ =>
    again (.builtin "list.extend.loop" ⟨[.ref S, .ref z, .none], []⟩)) _ _ _
  refine wpAny_bind (wpAny_rule ?_)
  refine wpAny_bind ?_
  show wpAny _ _ (updateSeq S (·.push .none) >>= fun _ => updateSeq S (·.pop)) _ _ _
  refine wpAny_bind (wpAny_updateSeq hS1 rfl ?_)
  have hS2 := Heap.get?_update_self (Obj.mapSeq (·.push Value.none)) hS1 rfl
  refine wpAny_updateSeq hS2 rfl ?_
  have hS3 := Heap.get?_update_self (Obj.mapSeq (·.pop)) hS2 rfl
  have o3 : ∀ b o, b ≠ S → s.heap.get? b = some o → ((g1.update S (Obj.mapSeq (·.push Value.none))).update S (Obj.mapSeq (·.pop))).get? b = some o :=
    fun b o hb e => (Heap.get?_update_other _ _ (Ne.symm hb)).trans ((Heap.get?_update_other _ _ (Ne.symm hb)).trans (o1 b o hb e))
  generalize hg3 : (g1.update S (Obj.mapSeq (·.push Value.none))).update S (Obj.mapSeq (·.pop)) = g3 at hS3 o3 ⊢
  obtain ⟨n3, hS3⟩ : ∃ n, g3.get? S = some (PL #[] n) := ⟨_, hS3⟩
  obtain ⟨x0, y0, hTO⟩ := hTO
  refine wpAny_pure ⟨plainId_quiet F.plain_extend_loop _, fill_loop (n := min xs.size ys.size) (J := ZJ c d z TI TO i1 i2 a b S xs ys s) hn (fun i s acc j => j.size) ?_ ?_ _ 0 _ #[] _ rfl (Nat.zero_le _)
    { size := rfl
      same := rfl
      old := fun b o _ e hb _ => o3 b o hb e
      ti := o3 _ _ TIS hTI
      st1 := iterC_draw st1 (fun o e => o3 _ o i1S e) fun o e => o3 _ o aS e
      st2 := iterC_draw st2 (fun o e => o3 _ o i2S e) fun o e => o3 _ o bS e
      zs := .inl ⟨o3 _ _ zS hz, x0, y0, o3 _ _ TOS hTO⟩
      prs := fun j v e => by simp at e } hS3⟩
  · intro i s1 acc cc E1 hi j hS
    have hh2 : A.in1.in1.in1.handled = none := hh
    have d1 := drawsC (prog := prog) (w := w) hh2 i1 a na xs c
    have d2 := drawsC (prog := prog) (w := w) hh2 i2 b nb ys d
    have lt1 : i < xs.size := by omega
    have lt2 : i < ys.size := by omega
    -- what a turn leaves
    have turn : ∀ x1 x2 h' tk (T : Addr) (oT : Obj) (f : Bool), xs[i]? = some x1 → ys[i]? = some x2 → IsZipHeld h' z TI TO T f → h'.get? T = some oT → T ∉ [z, TO, i1, i2, S] →
        (IterC c h' i1 a (i + 1) ∧ HeapC c h' a xs) → (IterC d h' i2 b (i + 1) ∧ HeapC d h' b ys) → IsTupOf2 h' s1.heap.objs.size x1 x2 →
        (∀ c o, c ≠ z → c ≠ TO → c ≠ i1 → c ≠ i2 → s1.heap.get? c = some o → h'.get? c = some o) →
        ∃ v, some (Value.ref s1.heap.objs.size) = some v ∧ h'.get? S = some (PL acc cc) ∧ ∀ h2, (∀ b o, b ≠ S → h'.get? b = some o → h2.get? b = some o) → ZJ c d z TI TO i1 i2 a b S xs ys s (i + 1) { s1 with heap := h2, toks := tk } (acc.push v) := by
      intro x1 x2 h' tk T oT f e1 e2 hz' hT hTn t1 t2 hp hk
      refine ⟨_, rfl, hk _ _ (Ne.symm zS) (Ne.symm TOS) (Ne.symm i1S) (Ne.symm i2S) hS, fun h2 k2 => ?_⟩
      have live : ∀ {x o}, s1.heap.get? x = some o → s1.heap.objs.size ≠ x := fun e => Nat.ne_of_gt (Heap.lt_size e)
      have nz : s1.heap.objs.size ∉ [z, TO, i1, i2, S] := by
        have z0 : ∃ o, s1.heap.get? z = some o := by
          rcases j.zs with ⟨q, _⟩ | ⟨_, _, _, q, _⟩
          · exact ⟨_, q⟩
          · exact ⟨_, q⟩
        obtain ⟨oz, z0⟩ := z0
        obtain ⟨q1, e1, _⟩ := iterC_obj j.st1.1
        obtain ⟨q2, e2, _⟩ := iterC_obj j.st2.1
        have tos : s1.heap.objs.size ≠ TO := by
          have h1 : TO < S := hl TO (by simp)
          have h2 : S < s1.heap.objs.size := Heap.lt_size hS
          exact Nat.ne_of_gt (Nat.lt_trans h1 h2)
        simp only [List.mem_cons, List.not_mem_nil, or_false, not_or]
        exact ⟨live z0, tos, live e1, live e2, live hS⟩
      exact
        { size := by rw [Array.size_push, j.size]
          same := by
            have e := j.same
            show ({ s1 with heap := h2, toks := tk } : Shared) = { s with heap := h2, toks := tk }
            rw [e]
          old := fun b o hb e hbS hbn => by
            simp only [List.mem_cons, List.not_mem_nil, or_false, not_or] at hbn
            refine k2 b o hbS (hk b o hbn.1 hbn.2.1 hbn.2.2.1 hbn.2.2.2 (j.old b o hb e hbS (by simp [hbn])))
          ti := k2 _ _ TIS (hk _ _ D.TIz D.TITO D.TIi1 D.TIi2 j.ti)
          st1 := iterC_draw t1 (fun o e => k2 _ o i1S e) fun o e => k2 _ o aS e
          st2 := iterC_draw t2 (fun o e => k2 _ o i2S e) fun o e => k2 _ o bS e
          zs := .inr ⟨T, f, oT, k2 _ _ zS hz', k2 _ _ (fun e => hTn (by simp [e])) hT, hTn⟩
          prs := fun m v e => by
            rw [Array.getElem?_push] at e
            split at e
            · rename_i hm
              cases e
              rw [j.size] at hm
              subst hm
              exact ⟨_, x1, x2, rfl, nz, e1, e2, k2 _ _ (fun e => nz (by simp [e])) hp⟩
            · obtain ⟨T', x, y, rfl, hT', ex, ey, hp'⟩ := j.prs m v e
              refine ⟨T', x, y, rfl, hT', ex, ey, ?_⟩
              simp only [List.mem_cons, List.not_mem_nil, or_false, not_or] at hT'
              exact k2 _ _ hT'.2.2.2.2 (hk _ _ hT'.1 hT'.2.1 hT'.2.2.1 hT'.2.2.2.1 hp') }
    rcases j.zs with ⟨hz, x, y, hTO⟩ | ⟨T, f, oT, hz, hT, hTn⟩
    · refine wpAny_pyNext_zipD2_item D d1 d2 hz j.ti hTO j.st1 j.st2 lt1 lt2 fun x1 x2 h' tk e1 e2 z' TO' s1' s2' hp hsz hk => ?_
      refine turn x1 x2 h' tk s1.heap.objs.size _ false e1 e2 z' hp ?_ s1' s2' hp hk
      have live : ∀ {x o}, s1.heap.get? x = some o → s1.heap.objs.size ≠ x := fun e => Nat.ne_of_gt (Heap.lt_size e)
      obtain ⟨q1, r1, _⟩ := iterC_obj j.st1.1
      obtain ⟨q2, r2, _⟩ := iterC_obj j.st2.1
      simp only [List.mem_cons, List.not_mem_nil, or_false, not_or]
      exact ⟨live hz, live hTO, live r1, live r2, live hS⟩
    · refine pyNext_zipH D d1 d2 hz hT j.ti j.st1 j.st2 lt1 lt2 fun x1 x2 h' tk e1 e2 z' s1' s2' hp hk => ?_
      refine turn x1 x2 h' tk T oT true e1 e2 z' ?_ hTn s1' s2' hp fun c o c1 _ c2 c3 e => hk c o c1 c2 c3 e
      simp only [List.mem_cons, List.not_mem_nil, or_false, not_or] at hTn
      exact hk _ _ hTn.1 hTn.2.2.1 hTn.2.2.2.1 hT
  · intro s1 acc cc E1 j hS
    have hh2 : A.in1.in1.in1.handled = none := hh
    have d1 := drawsC (prog := prog) (w := w) hh2 i1 a na xs c
    have d2 := drawsC (prog := prog) (w := w) hh2 i2 b nb ys d
    have fin : ∀ h' tk, (∀ c o, c ≠ z → c ≠ TO → c ≠ i1 → c ≠ i2 → s1.heap.get? c = some o → h'.get? c = some o) → (Value.none = Value.none ∧ Q (.ref S) { s1 with heap := h', toks := tk }) := fun h' tk hk => by
      have e := j.same
      have e2 : ({ s1 with heap := h', toks := tk } : Shared) = { s with heap := h', toks := tk } := by rw [e]
      rw [e2]
      refine ⟨rfl, h h' tk acc cc (fun b o eb hb => ?_) (hk _ _ (Ne.symm zS) (Ne.symm TOS) (Ne.symm i1S) (Ne.symm i2S) hS) j.size fun m v em => ?_⟩
      · have hb' := hb
        simp only [List.mem_cons, List.not_mem_nil, or_false, not_or] at hb'
        have hlt := Heap.lt_size eb
        exact hk b o hb'.1 hb'.2.1 hb'.2.2.1 hb'.2.2.2 (j.old b o hlt eb (fun q => Nat.lt_irrefl S (by rw [q, ‹s.heap.objs.size = S›] at hlt; exact hlt)) hb)
      · obtain ⟨T', x, y, rfl, hT', ex, ey, hp'⟩ := j.prs m v em
        simp only [List.mem_cons, List.not_mem_nil, or_false, not_or] at hT'
        exact ⟨T', x, y, rfl, ex, ey, hk _ _ hT'.1 hT'.2.1 hT'.2.2.1 hT'.2.2.2.1 hp'⟩
    have hend : min xs.size ys.size = xs.size ∨ min xs.size ys.size = ys.size := by omega
    rcases j.zs with ⟨hz, x, y, hTO⟩ | ⟨T, f, oT, hz, hT, hTn⟩
    · exact wpAny_pyNext_zipD2_end D d1 d2 hz j.ti hTO j.st1 j.st2 (Nat.min_le_left _ _) (Nat.min_le_right _ _) hend fun h' tk hk => ⟨rfl, fin h' tk hk⟩
    · exact pyNext_zipH_end D d1 d2 hz hT j.ti j.st1 j.st2 (Nat.min_le_left _ _) (Nat.min_le_right _ _) hend fun h' tk hk => ⟨rfl, fin h' tk fun c o c1 _ c2 c3 e => hk c o c1 c2 c3 e⟩
end
end DL

set_option Elab.async false
set_option linter.all false
set_option maxRecDepth 100000
set_option maxHeartbeats 4000000
/-! DL14: dict(list(zip(xs, ys))), keys tuples of ints or texts; the pairs are known to the dict alone. -/
namespace DL
open PySem PySem.Spec PyProof.Rows L2

theorem vals_back : ∀ {vs : List V} {us : List Value} {i : Nat} {u : Value}, Vals vs us → us[i]? = some u → ∃ v, vs[i]? = some v ∧ RelV v u
  | _, _, _, _, .nil, e => by simp at e
  | _, _, 0, _, .cons r _, e => by simp at e; subst e; exact ⟨_, rfl, r⟩
  | _, _, i + 1, _, .cons _ t, e => by
    obtain ⟨v, h1, h2⟩ := vals_back (i := i) t (by simpa using e)
    exact ⟨v, by simpa using h1, h2⟩
def putsT (ps : List (List Key × V)) (acc : List (List Key × V)) : List (List Key × V) := ps.foldl (fun a p => putK a p.1 p.2) acc
theorem puts_rel {H : Hp} : ∀ {ps : List (List Key × V)} {xs : List (List Key × Addr × Value)} {acc : List (List Key × V)} {bs : List (List Key × Addr × Value)}, KT H ps xs → KT H acc bs → KT H (putsT ps acc) (storedAllH bs xs) := by
  intro ps xs acc bs r
  induction r generalizing acc bs with
  | nil => exact fun q => q
  | @cons p q ps qs h t ih =>
    intro r0
    obtain ⟨e1, e2, e3⟩ := h
    have := r0.put p.1 e2 e3
    rw [e1] at this
    show KT H (putsT ps (putK acc p.1 p.2)) (storedAllH (storedH bs q.1 q.2.1 q.2.2) qs)
    rw [e1]
    exact ih this
theorem puts_length : ∀ (ps acc : List (List Key × V)), (putsT ps acc).length ≤ acc.length + ps.length
  | [], acc => Nat.le_refl _
  | p :: ps, acc => by
    have h1 := puts_length ps (putK acc p.1 p.2)
    have h2 := length_putK acc p.1 p.2
    show (putsT ps (putK acc p.1 p.2)).length ≤ _
    rw [List.length_cons]
    omega
def tDz (K : PySem.W.Frag) (ta : TA) : TE := fun σ H Q => ta σ H fun vs H1 => ∃ (c d : Bool) (a b : Addr) (ks : List (List Key × Addr)) (ys : List V), vs = [.ref a, .ref b] ∧ SqC K c H1 a (ks.map fun k => V.ref k.2) ∧ SqC K d H1 b ys ∧ (∀ k ∈ ks, H1 k.2 = some (.tup (k.1.map kV))) ∧ min ks.length ys.length ≤ sizeLine ∧
  ∀ p, H1 p = none → Q (.ref p) (upd H1 p (.dT (putsT ((ks.zip ys).map fun q => (q.1.1, q.2)) [])))
theorem pe_dictZip {X : Cx} {e e2 : Expr} {ta : TA} {p1 p2 p3 pos pos2 pos3 : Pos} (hu : X.A.units + 65 < cLine) (hc : X.calm = true) (hg : Gl X "dict") (hm : X.mg "dict" = none) (hg2 : Gl X "list") (hm2 : X.mg "list" = none) (hg3 : Gl X "zip") (hm3 : X.mg "zip" = none) (ha : PA X [e, e2] ta)
    (hs : starEach [e, e2] X.env = (false, eval e X.env) :: starEach [e2] X.env := by rfl) (hpl : (backTo pos3 (starEach [e2] X.env)).any (·.1) = false := by rfl)
    (hs2 : starEach [.Call (.Name "zip" p3) [e, e2] [] pos3] X.env = (false, eval (.Call (.Name "zip" p3) [e, e2] [] pos3) X.env) :: starEach [] X.env := by rfl)
    (hs3 : starEach [.Call (.Name "list" p2) [.Call (.Name "zip" p3) [e, e2] [] pos3] [] pos2] X.env = (false, eval (.Call (.Name "list" p2) [.Call (.Name "zip" p3) [e, e2] [] pos3] [] pos2) X.env) :: starEach [] X.env := by rfl) :
    PE X (.Call (.Name "dict" p1) [.Call (.Name "list" p2) [.Call (.Name "zip" p3) [e, e2] [] pos3] [] pos2] [] pos) (tDz X.K ta) := by
  refine ⟨fun pins s σ H Q I h => ?_⟩
  refine Call_ (ld_blt I hg hm PyProof.Rows.boot_dict (PyProof.Rows.callWith_type1 (PyProof.Rows.args_cons (Call_ (ld_blt I hg2 hm2 PyProof.Rows.boot_list (PyProof.Rows.callWith_type1 (PyProof.Rows.args_cons (Call_ (ld_blt I hg3 hm3 PyProof.Rows.boot_zip
    (PyProof.Rows.callWith_type1 (thn (ha.run pos3 pins s σ H _ I h) fun us s1 ⟨vs, H1, I1, r1, q1⟩ => ?_) hs hpl))) hs2) hs2 rfl))) hs3) hs3 rfl))
  obtain ⟨c, d, a, b, ks, ys, ex, hqx, hqy, hk, hn, q⟩ := q1
  subst ex
  cases r1 with
  | cons r rr =>
    cases rr with
    | cons r' rr =>
      cases rr
      cases r
      cases r'
      obtain ⟨its, rv, pa⟩ := src I1 hqx
      obtain ⟨its2, rv2, pb⟩ := src I1 hqy
      have la := heapC_lt pa
      have lb := heapC_lt pb
      have l1 : its.length = ks.length := by rw [← rv.length, List.length_map]
      have l2 : its2.length = ys.length := rv2.length.symm
      have hh : X.A.handled = none := I1.ok.hd hc
      refine zip_begins2 (beginsC c a its.toArray) (beginsC d b its2.toArray) pa pb fun h' hz hTI hTO h1 h2 hsz hkp => ?_
      refine PyProof.Rows.args_nil ?_
      have pa' : HeapC c h' a its.toArray := by
        cases c with
        | true => exact (show s1.heap.IsList a its.toArray from pa).at fun o e => hkp a o e
        | false => exact (show s1.heap.IsTuple a its.toArray from pa).at fun o e => hkp a o e
      have pb' : HeapC d h' b its2.toArray := by
        cases d with
        | true => exact (show s1.heap.IsList b its2.toArray from pb).at fun o e => hkp b o e
        | false => exact (show s1.heap.IsTuple b its2.toArray from pb).at fun o e => hkp b o e
      have hn' : min its.toArray.size its2.toArray.size ≤ sizeLine := by
        rw [List.size_toArray, List.size_toArray, l1, l2]
        exact hn
      refine list_of_zip (s := { s1 with heap := h' }) hh (zip_sep2 (fp1 := [a]) (fp2 := [b]) (fun x hx => by simp at hx; rw [hx]; exact la) fun x hx => by simp at hx; rw [hx]; exact lb) (Nat.ne_of_lt la) (Nat.ne_of_lt (Nat.lt_succ_of_lt lb)) (fun x hx => ?_) hz hTI ⟨_, _, hTO⟩ ⟨iterC_new h1, pa'⟩ ⟨iterC_new h2, pb'⟩ hn' fun g' tk acc cc hk2 hL hacc hpr => ?_
      · show x < h'.objs.size
        rw [hsz]
        simp only [List.mem_cons, List.not_mem_nil, or_false] at hx
        rcases hx with q | q | q | q | q | q | q <;> (rw [q]; first | exact Nat.lt_of_lt_of_le la (Nat.le_add_right _ _) | exact Nat.lt_of_lt_of_le lb (Nat.le_add_right _ _) | (exact Nat.add_lt_add_left (by decide) _) | exact Nat.lt_add_of_pos_right (by decide))
      refine PyProof.Rows.args_nil ?_
      -- what stands stays
      have keep : ∀ x o, s1.heap.get? x = some o → g'.get? x = some o := fun x o e => hk2 x o (hkp x o e) (by
        have hlt := Heap.lt_size e
        have ne : ∀ k, x ≠ s1.heap.objs.size + k := fun k z => by
          rw [z] at hlt
          exact absurd hlt (Nat.not_lt.mpr (Nat.le_add_right _ _))
        simp only [List.mem_cons, List.not_mem_nil, or_false, not_or]
        exact ⟨ne 4, ne 3, ne 0, ne 1⟩)
      have I2 : Inv X pins σ H1 { s1 with heap := g', toks := tk } := I1.kept (t' := tk) keep
      generalize hN : ({ s1 with heap := h' } : Shared).heap.objs.size = S at hL ⊢
      let ps := its.zip its2
      let psH : List (List Key × Addr × Value) := (ks.zip its2).map fun q => (q.1.1, q.1.2, q.2)
      have lps : ps.length = acc.size := by rw [hacc]; simp [ps]
      have rk : ∀ (i : Nat) (u : Value), its[i]? = some u → ∃ k, ks[i]? = some k ∧ u = .ref k.2 := fun i u e => by
        obtain ⟨v, hv, ru⟩ := vals_back rv e
        rw [List.getElem?_map, Option.map_eq_some_iff] at hv
        obtain ⟨k, hk', rfl⟩ := hv
        cases ru
        exact ⟨k, hk', rfl⟩
      have Ts : ∃ Ts : Nat → Addr, PairItems g' acc Ts ps := by
        refine ⟨fun j => match acc[j]? with | some (.ref t) => t | _ => 0, lps.symm, fun j k v e => ?_⟩
        have hj : j < acc.size := by rw [← lps]; exact (List.getElem?_eq_some_iff.mp e).1
        obtain ⟨T, x, y, ev, ex, ey, hp⟩ := hpr j acc[j] (Array.getElem?_eq_getElem hj)
        have ea : acc[j]? = some (.ref T) := by rw [Array.getElem?_eq_getElem hj, ev]
        rw [List.getElem?_zip_eq_some] at e
        rw [List.getElem?_toArray] at ex ey
        have e1 : its[j]? = some k := e.1
        have e2 : its2[j]? = some v := e.2
        rw [ex] at e1
        rw [ey] at e2
        cases e1
        cases e2
        simp only [ea]
        exact ⟨trivial, .inl ⟨_, hp, rfl, _, rfl⟩⟩
      obtain ⟨Ts, hTs⟩ := Ts
      have lpsH : psH.length = ps.length := by simp [psH, ps, l1]
      refine call_dict_pairsH (knd := tupleKind (mixKind X.prog X.w)) (s := { s1 with heap := g', toks := tk }) (ps := psH) (PairArg.list S acc Ts ps) hh (show X.A.units + 2 < cLine by omega) ⟨⟨_, _, hL, rfl, rfl, rfl⟩, hTs⟩ ⟨lpsH, fun i key v e => ?_⟩ (fun h2 hst x hx => ?_) (by rw [lps, hacc]; exact hn') fun h2 tk2 hd hst => ?_
      · have e' : ps[i]? = some (key, v) := e
        rw [List.getElem?_zip_eq_some] at e'
        obtain ⟨k, hk', ek⟩ := rk i key e'.1
        refine ⟨k.1, k.2, ?_, ek⟩
        show ((ks.zip its2).map fun q => (q.1.1, q.1.2, q.2))[i]? = _
        rw [List.getElem?_map, Option.map_eq_some_iff]
        exact ⟨(k, v), List.getElem?_zip_eq_some.mpr ⟨hk', e'.2⟩, rfl⟩
      · obtain ⟨⟨k, v⟩, hkv, rfl⟩ := List.mem_map.mp hx
        have hmk : k ∈ ks := (List.of_mem_zip hkv).1
        have key := key_of I2.hok (hk k hmk)
        exact tupleKind_stays.stays (fun b o vs n e _ => hst b o (Nat.ne_of_lt (Heap.lt_size e)) (fun z => nomatch z) e) key
      · obtain ⟨oo, es, ep, q1, q2, q3, q4, _, q5⟩ := hd
        have kt : KT H1 ((ks.zip ys).map fun q => (q.1.1, q.2)) psH := by
          have : ∀ {ks : List (List Key × Addr)} {ys : List V} {us : List Value}, (∀ k ∈ ks, H1 k.2 = some (.tup (k.1.map kV))) → Vals ys us → KT H1 ((ks.zip ys).map fun q => (q.1.1, q.2)) ((ks.zip us).map fun q => (q.1.1, q.1.2, q.2)) := by
            intro ks ys us hk r
            induction r generalizing ks with
            | nil => rw [List.zip_nil_right, List.zip_nil_right]; exact .nil
            | @cons y u ys us h t ih =>
              cases ks with
              | nil => exact .nil
              | cons k ks =>
                rw [List.zip_cons_cons, List.zip_cons_cons, List.map_cons, List.map_cons]
                exact .cons ⟨rfl, hk k List.mem_cons_self, h⟩ (ih fun k' hk' => hk k' (List.mem_cons_of_mem _ hk'))
          exact this hk rv2
        have kt2 := puts_rel kt (acc := []) (bs := []) .nil
        have hlen : (putsT ((ks.zip ys).map fun q => (q.1.1, q.2)) []).length ≤ sizeLine := by
          refine Nat.le_trans (puts_length _ _) ?_
          rw [List.length_nil, Nat.zero_add, List.length_map, List.length_zip]
          exact hn
        have hm : (g'.objs.size == sysModules) = false := beq_eq_false_iff_ne.mpr (Nat.ne_of_gt I2.big)
        refine ⟨.ref g'.objs.size, upd H1 g'.objs.size (.dT (putsT ((ks.zip ys).map fun q => (q.1.1, q.2)) [])), I2.laid (t' := tk2) (fun b o e => hst b o (fun z => nomatch z) e) (Nat.le_refl _) ?_, rfl, q _ (I2.hok.fresh (Nat.le_refl _))⟩
        exact ⟨hlen, hm, _, kt2.keeps fun b ys eb => by rw [upd_ne (ne_of_none eb (I2.hok.fresh (Nat.le_refl _)))]; exact eb, oo, es, ep, q1, q2, q3, q4, q5⟩

/-! ### by data -/
section
variable {N : Nv} {W : XK} {X : Cx} {a b : Expr} {fa fb : Δ → M D} {g0 : G0} {g : Gh} {H0 H : Hp} {S : Store} {δ : Δ} {σ : L2.St} {pos p : Pos}
/-- the keys that tuples are -/
def kOf : D → Option (List Key)
  | .tup xs => D.keys xs
  | _ => none
def kAll : List D → Option (List (List Key))
  | [] => some []
  | d :: r => match kOf d, kAll r with
    | some k, some ks => some (k :: ks)
    | _, _ => none
def dDictZip (x y : D) : M D := match x.items, y.items with
  | some xs, some ys => match kAll xs with
    | some _ => M.ret (.dct (dFold (xs.zip ys) []))
    | none => M.stuck
  | _, _ => M.stuck
theorem kAll_spec {K : PySem.W.Frag} : ∀ {xs : List D} {kk : List (List Key)} {vs : List V}, kAll xs = some kk → RpAll K g H vs xs → xs = kk.map kTup ∧ ∃ ks : List (List Key × Addr), ks.map Prod.fst = kk ∧ vs = ks.map (fun k => V.ref k.2) ∧ ∀ k ∈ ks, H k.2 = some (.tup (k.1.map kV))
  | [], kk, vs, h, r => by
    cases h
    cases r
    exact ⟨rfl, [], rfl, rfl, fun k hk => nomatch hk⟩
  | d :: xs, kk, vs, h, r => by
    unfold kAll at h
    cases e1 : kOf d with
    | none => rw [e1] at h; cases h
    | some k =>
      cases e2 : kAll xs with
      | none => rw [e1, e2] at h; cases h
      | some kr =>
        rw [e1, e2] at h
        cases h
        cases r with
        | @cons v vs' _ _ r1 r2 =>
          obtain ⟨i1, ks, i2, i3, i4⟩ := kAll_spec e2 r2
          cases d with
          | tup es =>
            have e1 : D.keys es = some k := e1
            cases r1 with
            | @tup ad ws _ hs hl ra =>
              rw [keys_kD e1] at ra
              have ew := ra.keys
              subst ew
              refine ⟨by rw [List.map_cons, ← i1]; unfold kTup; rw [← keys_kD e1], (k, ad) :: ks, by rw [List.map_cons, i2], by rw [List.map_cons, i3], fun q hq => ?_⟩
              rcases List.mem_cons.mp hq with rfl | hq
              · exact hs
              · exact i4 q hq
          | _ => cases e1
/-- the two ways of filling a dict agree -/
theorem fold_rel {K : PySem.W.Frag} : ∀ {kk : List (List Key)} {ys : List D} {vs : List V} {kds : List (D × D)} {kvs : List (List Key × V)}, RpAll K g H vs ys → kds.map Prod.fst = kvs.map (fun p => kTup p.1) → RpAll K g H (kvs.map (·.2)) (kds.map Prod.snd) →
    (dFold ((kk.map kTup).zip ys) kds).map Prod.fst = (putsT (kk.zip vs) kvs).map (fun p => kTup p.1) ∧ RpAll K g H ((putsT (kk.zip vs) kvs).map (·.2)) ((dFold ((kk.map kTup).zip ys) kds).map Prod.snd)
  | [], ys, vs, kds, kvs, r, h1, h2 => by
    rw [List.map_nil, List.zip_nil_left, List.zip_nil_left]
    exact ⟨h1, h2⟩
  | k :: kk, _, _, kds, kvs, .nil, h1, h2 => by
    rw [List.zip_nil_right, List.zip_nil_right]
    exact ⟨h1, h2⟩
  | k :: kk, d :: ys, v :: vs, kds, kvs, .cons r1 r2, h1, h2 => by
    rw [List.map_cons, List.zip_cons_cons, List.zip_cons_cons]
    obtain ⟨p1, p2⟩ := put_rel kTup keq_kTup k r1 h1 h2
    exact fold_rel r2 p1 p2
theorem de_dictZip {ma mb : Md} {p1 p2 p3 pos2 pos3 : Pos} (hu : X.A.units + 65 < cLine) (hc : X.calm = true) (hg : Gl X "dict") (hm : X.mg "dict" = none) (hg2 : Gl X "list") (hm2 : X.mg "list" = none) (hg3 : Gl X "zip") (hm3 : X.mg "zip" = none) (ha : DE N W X .fz a fa) (hb : DE N W X .fz b fb)
    (hs : starEach [a, b] X.env = (false, eval a X.env) :: starEach [b] X.env := by rfl) (hsb : starEach [b] X.env = (false, eval b X.env) :: starEach [] X.env := by rfl) (hpl : (backTo pos3 (starEach [b] X.env)).any (·.1) = false := by rfl)
    (hs2 : starEach [.Call (.Name "zip" p3) [a, b] [] pos3] X.env = (false, eval (.Call (.Name "zip" p3) [a, b] [] pos3) X.env) :: starEach [] X.env := by rfl)
    (hs3 : starEach [.Call (.Name "list" p2) [.Call (.Name "zip" p3) [a, b] [] pos3] [] pos2] X.env = (false, eval (.Call (.Name "list" p2) [.Call (.Name "zip" p3) [a, b] [] pos3] [] pos2) X.env) :: starEach [] X.env := by rfl) :
    DE N W X .fz (.Call (.Name "dict" p1) [.Call (.Name "list" p2) [.Call (.Name "zip" p3) [a, b] [] pos3] [] pos2] [] pos) (f2 dDictZip fa fb) :=
  (pe_dictZip hu hc hg hm hg2 hm2 hg3 hm3 (pa_cons ha (pa_cons hb pa_nil hsb) hs) hs hpl hs2 hs3).imp fun σ H Q ⟨g0, H0, g, S, δ, G, q⟩ => tE.seq G q fun x S1 v H1 g1 k1 G1 rv q1 => tE.seq G1 q1 fun y S2 w H2 g2 k2 G2 rw' q2 => by
    unfold dDictZip at q2
    cases ex : x.items with
    | none => rw [ex] at q2; cases hy : y.items <;> (rw [hy] at q2; exact q2.elim)
    | some xs =>
      cases ey : y.items with
      | none => rw [ex, ey] at q2; exact q2.elim
      | some ys =>
        rw [ex, ey] at q2
        simp only at q2
        cases ek : kAll xs with
        | none => rw [ek] at q2; exact q2.elim
        | some kk =>
          rw [ek] at q2
          simp only at q2
          obtain ⟨a1, vs, e1, hl1, r1, s1⟩ := rowC X.K (Rp.keep k2 rv) ex
          obtain ⟨a2, ws, e2, hl2, r2, s2⟩ := rowC X.K rw' ey
          obtain ⟨exs, ks, i1, i2, i3⟩ := kAll_spec ek r1
          have kr : Kq g2 H2 g2 H2 := (Kp.refl _ _).q
          refine ⟨x.isL, y.isL, a1, a2, ks, ws, by rw [e1, e2], by rw [← i2]; exact s1 _ _ kr, s2 _ _ kr, i3, Nat.le_trans (Nat.min_le_right _ _) hl2, fun p hp => ?_⟩
          have ez : ((ks.zip ws).map fun q => (q.1.1, q.2)) = kk.zip ws := by
            rw [← i1, List.zip_map_left]
            rfl
          rw [ez]
          obtain ⟨f1, f2⟩ := fold_rel (kk := kk) r2 (kds := []) (kvs := []) rfl .nil
          rw [← exs] at f1 f2
          have e := Ex.newZ (g := g2) (o := .dT (putsT (kk.zip ws) [])) hp
          refine q2.ret G2.st e _ ?_
          have od : OpenD N.K (g2.fz p) (upd H2 p (.dT (putsT (kk.zip ws) []))) p true (dFold (xs.zip ys) []) := ⟨_, upd_same, f1, f2.keep e.kp⟩
          refine od.dct (.inl rfl) ?_
          refine Nat.le_trans (dFold_length _ _) ?_
          rw [List.length_nil, Nat.zero_add, List.length_zip, ← r2.length]
          exact Nat.le_trans (Nat.min_le_right _ _) hl2
end
end DL

set_option Elab.async false
set_option linter.all false
set_option maxRecDepth 100000
set_option maxHeartbeats 4000000
/-! DL15: list and tuple of ranges, min and max of rows of data. -/
namespace DL
open PySem PySem.Spec PyProof.Rows L2 PySem.W PySem.SeqAt

section
variable {N : Nv} {W : XK} {X : Cx} {a b : Expr} {fa fb : Δ → M D} {g0 : G0} {g : Gh} {H0 H : Hp} {S : Store} {δ : Δ} {σ : L2.St} {pos p : Pos}
/-! ### list(range(n)), tuple(range(n)) -/
theorem rg_data (i j : Int) : RpAll N.K g H (rgV i j) (rangeD i (j - i).toNat) := by
  unfold rgV rangeD
  induction (List.range (j - i).toNat) with
  | nil => exact .nil
  | cons k ks ih => exact .cons (.int _) ih
def dListRange : D → M D
  | .int j => if -16777216 ≤ j ∧ j ≤ 16777216 then M.ret (.lst (rangeD 0 j.toNat)) else M.stuck
  | _ => M.stuck
def dTupRange : D → M D
  | .int j => if -16777216 ≤ j ∧ j ≤ 16777216 then M.ret (.tup (rangeD 0 j.toNat)) else M.stuck
  | _ => M.stuck
theorem rgOk0 {j : Int} (h : -16777216 ≤ j ∧ j ≤ 16777216) : RgOk 0 j := ⟨by omega, by omega, by omega, by omega, by omega⟩
theorem de_listRange {ma : Md} {p2 pos2 : Pos} (hc : X.calm = true) (hg : Gl X "list") (hm : X.mg "list" = none) (hg2 : Gl X "range") (hm2 : X.mg "range" = none) (ha : DE N W X ma a fa)
    (na : starEach [a] X.env = (false, eval a X.env) :: starEach [] X.env := by rfl) (na2 : starEach [.Call (.Name "range" p2) [a] [] pos2] X.env = (false, eval (.Call (.Name "range" p2) [a] [] pos2) X.env) :: starEach [] X.env := by rfl) :
    DE N W X .fr (.Call (.Name "list" p) [.Call (.Name "range" p2) [a] [] pos2] [] pos) (f1 dListRange fa) :=
  (pe_listRg hc hg hm (prg_1 hg2 hm2 ha na) na2).imp fun σ H Q ⟨g0, H0, g, S, δ, G, q⟩ => tE.seq G q fun x S1 v H1 g1 k1 G1 rv q1 => by
    cases x <;> first | exact q1.elim | skip
    rename_i j
    obtain ⟨hj, q1⟩ := Res.ite q1
    refine ⟨j, rv.bo.int, rgOk0 hj, Res.lst (H := H1) G1.st ?_ ?_ (Q := Q) (q1.mono (.refl _ _) fun g' H' d k' q v ⟨a, ws, ds, e1, e2, hn, r⟩ => q v ⟨a, ws, ds, e1, e2, k1.kd _ hn, r⟩)⟩
    · have := rg_data (N := N) (g := g1) (H := H1) 0 j
      rw [Int.sub_zero] at this
      exact this
    · rw [rgV_length, Int.sub_zero]
      exact line_le hj.2
theorem de_tupRange {ma : Md} {p2 pos2 : Pos} (hc : X.calm = true) (hg : Gl X "tuple") (hm : X.mg "tuple" = none) (hg2 : Gl X "range") (hm2 : X.mg "range" = none) (ha : DE N W X ma a fa)
    (na : starEach [a] X.env = (false, eval a X.env) :: starEach [] X.env := by rfl) (na2 : starEach [.Call (.Name "range" p2) [a] [] pos2] X.env = (false, eval (.Call (.Name "range" p2) [a] [] pos2) X.env) :: starEach [] X.env := by rfl) :
    DE N W X .fz (.Call (.Name "tuple" p) [.Call (.Name "range" p2) [a] [] pos2] [] pos) (f1 dTupRange fa) :=
  (pe_tupRg hc hg hm (prg_1 hg2 hm2 ha na) na2).imp fun σ H Q ⟨g0, H0, g, S, δ, G, q⟩ => tE.seq G q fun x S1 v H1 g1 k1 G1 rv q1 => by
    cases x <;> first | exact q1.elim | skip
    rename_i j
    obtain ⟨hj, q1⟩ := Res.ite q1
    refine ⟨j, rv.bo.int, rgOk0 hj, Res.tup G1.st ?_ ?_ q1⟩
    · have := rg_data (N := N) (g := g1) (H := H1) 0 j
      rw [Int.sub_zero] at this
      exact this
    · rw [rgV_length, Int.sub_zero]
      exact line_le hj.2

/-! ### min, max of a row of data -/
mutual
theorem py_inj : ∀ (n m : Nat) (d e : D), d.sh n = true → e.sh m = true → d.py = e.py → d = e
  | n, m, .non, e, h, h', q => by cases e <;> (unfold D.py at q; first | rfl | (unfold D.sh at h'; cases h'; done) | (cases q; done))
  | n, m, .bl x, e, h, h', q => by cases e <;> (unfold D.py at q; first | (cases q; rfl) | cases q)
  | n, m, .int x, e, h, h', q => by cases e <;> (unfold D.py at q; first | (cases q; rfl) | cases q)
  | n, m, .str x, e, h, h', q => by cases e <;> (unfold D.py at q; first | (cases q; rfl) | cases q)
  | n + 1, m, .lst xs, e, h, h', q => by
    cases e <;> first | (unfold D.py at q; cases q; done) | skip
    rename_i ys
    rw [py_lst, py_lst] at q
    cases m with
    | zero => unfold D.sh at h'; cases h'
    | succ m =>
      unfold D.sh at h h'
      rw [pys_inj n m xs ys h h' (by injection q)]
  | n + 1, m, .tup xs, e, h, h', q => by
    cases e <;> first | (unfold D.py at q; cases q; done) | skip
    rename_i ys
    rw [py_tup, py_tup] at q
    cases m with
    | zero => unfold D.sh at h'; cases h'
    | succ m =>
      unfold D.sh at h h'
      rw [pys_inj n m xs ys h h' (by injection q)]
  | 0, _, .lst _, _, h, _, _ => by unfold D.sh at h; cases h
  | 0, _, .tup _, _, h, _, _ => by unfold D.sh at h; cases h
  | _, _, .dct _, _, h, _, _ => by unfold D.sh at h; cases h
  | _, _, .ob _, _, h, _, _ => by unfold D.sh at h; cases h
  | _, _, .fn _, _, h, _, _ => by unfold D.sh at h; cases h
  | _, _, .scr _, _, h, _, _ => by unfold D.sh at h; cases h
theorem pys_inj : ∀ (n m : Nat) (ds es : List D), D.shs n ds = true → D.shs m es = true → D.pys ds = D.pys es → ds = es
  | _, _, [], [], _, _, _ => rfl
  | _, _, [], _ :: _, _, _, q => by cases q
  | _, _, _ :: _, [], _, _, q => by cases q
  | n, m, d :: ds, e :: es, h, h', q => by
    rw [pys_cons, pys_cons] at q
    unfold D.shs at h h'
    rw [Bool.and_eq_true] at h h'
    injection q with q1 q2
    rw [py_inj n m d e h.1 h'.1 q1, pys_inj n m ds es h.2 h'.2 q2]
end

/-- the best by bt: later ones only where better -/
def bestD (bt : D → D → Bool) (x : D) (xs : List D) : D := xs.foldl (fun a y => if bt y a = true then y else a) x
def btMin (y a : D) : Bool := dataLt y.py a.py
def btMax (y a : D) : Bool := dataLt a.py y.py
theorem best_mem (bt : D → D → Bool) : ∀ (xs : List D) (x : D), bestD bt x xs ∈ x :: xs
  | [], x => List.mem_cons_self
  | y :: ys, x => by
    have := best_mem bt ys (if bt y x = true then y else x)
    show bestD bt (if bt y x = true then y else x) ys ∈ _
    rcases List.mem_cons.mp this with h | h
    · rw [h]
      split
      · exact List.mem_cons_of_mem _ List.mem_cons_self
      · exact List.mem_cons_self
    · exact List.mem_cons_of_mem _ (List.mem_cons_of_mem _ h)
theorem best_py {bt : D → D → Bool} {f : PyData → PyData → Bool} (h : ∀ y a, bt y a = f y.py a.py) : ∀ (xs : List D) (x : D), (bestD bt x xs).py = (D.pys xs).foldl (fun a y => if f y a = true then y else a) x.py
  | [], x => rfl
  | y :: ys, x => by
    rw [pys_cons, List.foldl_cons]
    show (bestD bt (if bt y x = true then y else x) ys).py = _
    rw [best_py h ys, h]
    split <;> rfl
def alikeOk (ds : List D) : Bool := ds.all (fun d => d.sh 60) && ds.all (fun d => ds.all fun e => alike d.py e.py) && ds.all fun d => match d with | .non => false | _ => true
theorem alikeOk_spec {ds : List D} (h : alikeOk ds = true) : (∀ d ∈ ds, d.sh 60 = true) ∧ AlikeAll (D.pys ds) := by
  unfold alikeOk at h
  rw [Bool.and_eq_true, Bool.and_eq_true] at h
  obtain ⟨⟨h1, h2⟩, h3⟩ := h
  rw [pys_map]
  refine ⟨List.all_eq_true.mp h1, fun d hd e he => ?_, fun d hd => ?_⟩
  · obtain ⟨x, hx, rfl⟩ := List.mem_map.mp hd
    obtain ⟨y, hy, rfl⟩ := List.mem_map.mp he
    exact List.all_eq_true.mp (List.all_eq_true.mp h2 x hx) y hy
  · obtain ⟨x, hx, rfl⟩ := List.mem_map.mp hd
    have := List.all_eq_true.mp h3 x hx
    have h1x := List.all_eq_true.mp h1 x hx
    cases x <;> first | (cases this; done) | (unfold D.sh at h1x; cases h1x; done) | (unfold D.py; exact fun z => (nomatch z))
theorem shs_of {n : Nat} : ∀ {ds : List D}, (∀ d ∈ ds, d.sh n = true) → D.shs n ds = true
  | [], _ => by unfold D.shs; rfl
  | d :: ds, h => by
    unfold D.shs
    rw [h d List.mem_cons_self, shs_of fun e he => h e (List.mem_cons_of_mem _ he)]
    rfl
def dBest (bt : D → D → Bool) (x : D) : M D := match x.items with
  | some (d :: ds) => if alikeOk (d :: ds) = true then M.ret (bestD bt d ds) else M.stuck
  | _ => M.stuck
def dMin1 : D → M D := dBest btMin
def dMax1 : D → M D := dBest btMax
/-- min, max of a row that reads as alike data: one of its values, that reads as the best -/
def rBest (K : PySem.W.Frag) (f : PyData → PyData → Bool) : List V → Hp → VK → Prop := fun vs H Q => ∃ (c : Bool) (a : Addr) (xs : List V) (x : PyData) (r : List PyData), vs = [.ref a] ∧ SqC K c H a xs ∧ DpAll K H xs (x :: r) ∧ AlikeAll (x :: r) ∧ PyData.depthAll (x :: r) ≤ 60 ∧
  ∀ (i : Nat) (y : V) (e : PyData), xs[i]? = some y → (x :: r)[i]? = some e → e = r.foldl (fun a y => if f y a = true then y else a) x → Q y H
theorem best_end {pins : List (Addr × Obj)} {σ : L2.St} {H : Hp} {s : Shared} {Q : VK} {f : PyData → PyData → Bool} (I : Inv X pins σ H s) {xs : List V} {x : PyData} {r : List PyData} {its : List Value} {as : List Addr} (rv : Vals xs its) (hr : ReadsAll s.heap its (x :: r) as) (hal : AlikeAll (x :: r)) (hm : r.foldl (fun a y => if f y a = true then y else a) x ∈ x :: r)
    (q : ∀ (i : Nat) (y : V) (e : PyData), xs[i]? = some y → (x :: r)[i]? = some e → e = r.foldl (fun a y => if f y a = true then y else a) x → Q y H)
    {i : Nat} {v : Value} {h' : Heap} {tk : Nat} {bs : List Addr} (hv : its.toArray[i]? = some v) (rd : Reads h' v (r.foldl (fun a y => if f y a = true then y else a) x) bs) (hk : ∀ b o, s.heap.get? b = some o → h'.get? b = some o) : EP X pins σ Q v { s with heap := h', toks := tk } := by
  rw [List.getElem?_toArray] at hv
  obtain ⟨y, hy, ry⟩ := vals_back rv hv
  obtain ⟨cs, r1, hlt, hmem, _⟩ := readsAll_at hr i v hv
  have hd := alike_unique _ _ _ _ _ (hal.1 _ hmem _ hm) (reads_keeps hk r1) rd
  have eg : (x :: r)[i]? = some ((x :: r).getD i PyData.none) := by
    rw [List.getD_eq_getElem?_getD, List.getElem?_eq_getElem hlt]
    rfl
  exact ⟨y, H, I.kept (t' := tk) hk, ry, q i y _ hy eg hd⟩
theorem fold_mem (f : PyData → PyData → Bool) : ∀ (xs : List PyData) (x : PyData), xs.foldl (fun a y => if f y a = true then y else a) x ∈ x :: xs
  | [], x => List.mem_cons_self
  | y :: ys, x => by
    rw [List.foldl_cons]
    rcases List.mem_cons.mp (fold_mem f ys (if f y x = true then y else x)) with h | h
    · rw [h]
      split
      · exact List.mem_cons_of_mem _ List.mem_cons_self
      · exact List.mem_cons_self
    · exact List.mem_cons_of_mem _ (List.mem_cons_of_mem _ h)
theorem cr_minDt (hc : X.calm = true) (hu : X.A.units + 65 < cLine) : CallR X (.builtin "min") (rBest X.K fun y a => dataLt y a) := by
  intro pins s σ H xs us Q I rl h
  obtain ⟨c, a, xs, x, r, rfl, hs, hd, hal, hdep, q⟩ := h
  obtain ⟨its, rv, hl⟩ := src I hs
  rw [Vals.ref1 rl]
  obtain ⟨as, hr⟩ := Dp.readsAll I (x :: r) xs its hd rv
  have hm := fold_mem (fun y a => dataLt y a) r x
  cases c with
  | true => exact min_list_data (I.ok.hd hc) hl (by simpa using hr) hal (by omega) fun i v h' tk bs hv rd hk => best_end I rv hr hal hm q hv rd hk
  | false => exact min_tuple_data (I.ok.hd hc) hl (by simpa using hr) hal (by omega) fun i v h' tk bs hv rd hk => best_end I rv hr hal hm q hv rd hk
theorem cr_maxDt (hc : X.calm = true) (hu : X.A.units + 65 < cLine) : CallR X (.builtin "max") (rBest X.K fun y a => dataLt a y) := by
  intro pins s σ H xs us Q I rl h
  obtain ⟨c, a, xs, x, r, rfl, hs, hd, hal, hdep, q⟩ := h
  obtain ⟨its, rv, hl⟩ := src I hs
  rw [Vals.ref1 rl]
  obtain ⟨as, hr⟩ := Dp.readsAll I (x :: r) xs its hd rv
  have hm := fold_mem (fun y a => dataLt a y) r x
  cases c with
  | true => exact max_list_data (I.ok.hd hc) hl (by simpa using hr) hal (by omega) fun i v h' tk bs hv rd hk => best_end (f := fun y a => dataLt a y) I rv hr hal hm q hv rd hk
  | false => exact max_tuple_data (I.ok.hd hc) hl (by simpa using hr) hal (by omega) fun i v h' tk bs hv rd hk => best_end (f := fun y a => dataLt a y) I rv hr hal hm q hv rd hk
theorem best_weak {bt : D → D → Bool} {f : PyData → PyData → Bool} (hf : ∀ y a, bt y a = f y.py a.py) {x : D} {v : V} {Q : VK} (hK : N.K = X.K) (st : StOk N.K g S H) (rv : RpB N.K g H v x) (q : Res N W g H (fun g' H' d => ∀ u, RpM N.K H .fz g' H' u d → Q u H') (dBest bt x S)) : rBest X.K f [v] H Q := by
  unfold dBest at q
  obtain ⟨d, ds, ex, q⟩ : ∃ d ds, x.items = some (d :: ds) ∧ Res N W g H (fun g' H' d => ∀ u, RpM N.K H .fz g' H' u d → Q u H') ((if alikeOk (d :: ds) = true then M.ret (bestD bt d ds) else M.stuck) S) := by
    cases e : x.items with
    | none => rw [e] at q; exact q.elim
    | some es =>
      rw [e] at q
      cases es with
      | nil => exact q.elim
      | cons d ds => exact ⟨d, ds, rfl, q⟩
  obtain ⟨hok, q⟩ := Res.ite q
  obtain ⟨h1, h2⟩ := alikeOk_spec hok
  obtain ⟨c, a, vs, ev, hs, hl, ra⟩ : ∃ c a vs, v = .ref a ∧ SqC X.K c H a vs ∧ vs.length ≤ sizeLine ∧ RpAll N.K g H vs (d :: ds) := by
    cases x with
    | lst es =>
      cases ex
      obtain ⟨p, vs, e1, hs, hl, ra⟩ := rv.seqL
      exact ⟨true, p, vs, e1, .of hs, hl, ra⟩
    | tup es =>
      cases ex
      obtain ⟨p, vs, e1, hs, hl, ra⟩ := rv.seqT
      exact ⟨false, p, vs, e1, .of hs, hl, ra⟩
    | _ => cases ex
  have hsh := shs_of h1
  refine ⟨c, a, vs, d.py, D.pys ds, by rw [ev], hs, hK ▸ RpAll.dp 60 _ _ hsh ra, h2, (D.shs_lay 60 _ hsh).2, fun i y e hy he heq => ?_⟩
  obtain ⟨z, hz, rz⟩ := ra.get' hy
  have ez : z.py = e := by
    rw [← pys_cons, pys_map, List.getElem?_map, hz] at he
    exact Option.some.inj he
  have hm := best_mem bt ds d
  have : z = bestD bt d ds := py_inj 60 60 _ _ (h1 z (List.mem_of_getElem? hz)) (h1 _ hm) (by rw [ez, heq, best_py hf])
  subst this
  exact q.now st y rz
theorem de_min1 {x : Str} {ma : Md} (hu : X.A.units + 65 < cLine) (hc : X.calm = true) (hg : Gl X x) (hm : X.mg x = none) (hv : bootBuiltins x = some (.builtin "min")) (ha : DE N W X ma a fa)
    (hn : x ≠ "__name__" := by decide) (hdb : (x == ("__debug__" : Str)) = false := by decide) (he : starEach [a] X.env = (false, eval a X.env) :: starEach [] X.env := by rfl) (hpl : (backTo pos (starEach [] X.env)).any (·.1) = false := by rfl) (hK : N.K = X.K := by rfl) : DE N W X .fz (.Call (.Name x p) [a] [] pos) (f1 dMin1 fa) :=
  de_cb (cr_minDt hc hu) (fun x v g H S Q st rv q => best_weak (bt := btMin) (fun _ _ => rfl) hK st rv q) hg hm hv ha hn hdb he hpl
theorem de_max1 {x : Str} {ma : Md} (hu : X.A.units + 65 < cLine) (hc : X.calm = true) (hg : Gl X x) (hm : X.mg x = none) (hv : bootBuiltins x = some (.builtin "max")) (ha : DE N W X ma a fa)
    (hn : x ≠ "__name__" := by decide) (hdb : (x == ("__debug__" : Str)) = false := by decide) (he : starEach [a] X.env = (false, eval a X.env) :: starEach [] X.env := by rfl) (hpl : (backTo pos (starEach [] X.env)).any (·.1) = false := by rfl) (hK : N.K = X.K := by rfl) : DE N W X .fz (.Call (.Name x p) [a] [] pos) (f1 dMax1 fa) :=
  de_cb (cr_maxDt hc hu) (fun x v g H S Q st rv q => best_weak (bt := btMax) (fun _ _ => rfl) hK st rv q) hg hm hv ha hn hdb he hpl
end
end DL

set_option Elab.async false
set_option linter.all false
set_option maxRecDepth 100000
set_option maxHeartbeats 4000000
/-! DL16: defs and calls where nothing is being shown (so that repr shows all): room with guards; keywords; defs as values; the end. -/
namespace L2
open PySem PySem.Spec PyProof.Rows
/-- room, and no repr under way -/
structure RoomG (k : Nat) (A : Around) : Prop where
  r : Room k A
  g : A.guards = some []
theorem RoomG.mono {j k : Nat} {A : Around} (r : RoomG k A) (h : j ≤ k) : RoomG j A := ⟨r.r.mono h, r.g⟩
theorem RoomG.deeper {k : Nat} {A : Around} (r : RoomG (k + 1) A) (env : Env) : RoomG k (A.deeper env) := ⟨r.r.deeper env, r.g⟩
/-- a def's promise, kept where there is such room -/
structure FnG (P : Program) (w : World) (K : PySem.W.Frag) (mg : Str → Option Value) (base : Heap) (CX : CXT) (k : Nat) (f : Addr) (fd : FuncData) (ps : List Str) (sp : Sp) : Prop where
  len : ∀ vs H Q E, sp vs H Q E → vs.length = ps.length
  run : ∀ (A : Around) (outer : List Env) (s : Shared) (H : Hp) (args : Args) (us : List Value) (vs : List V) (Q : VK) (E : XK), RoomG k A → Env0 P w K mg base A outer s H → BindsTo s fd args (ps.zip us) → Vals vs us → sp vs H Q E →
    codeAny (model P w) A (.call (.ref f) args) (CR CX outer P w H s Q E) s
section
variable {P : Program} {w : World} {K : PySem.W.Frag} {mg : Str → Option Value} {base : Heap} {CX : CXT} {k : Nat}
theorem FnG.mono {j : Nat} {f : Addr} {fd : FuncData} {ps : List Str} {sp : Sp} (F : FnG P w K mg base CX j f fd ps sp) (h : j ≤ k) : FnG P w K mg base CX k f fd ps sp :=
  ⟨F.len, fun A outer s H args us vs Q E hr => F.run A outer s H args us vs Q E (hr.mono h)⟩
/-- a def by its body -/
theorem Fun.okG {x qual : Str} {st : Stmt} {f : Addr} {fd : FuncData} {Nm ps : List Str} {sp : Sp} (F : Fun K x qual st f fd) (S : FnScope Nm ps (defScope st)) (len : ∀ vs H Q E, sp vs H Q E → vs.length = ps.length)
    (hbody : ∀ (cdv : Value) (A : Around) (outer : List Env) (s : Shared) (H : Hp) (vs : List V) (Q : VK) (E : XK), RoomG k (A.deeper (envOfC qual (defScope st) s.heap.objs.size f cdv)) → sp vs H Q E →
      ∃ t, PSs (cxOf CX P w K mg base Nm qual (defScope st) f cdv A outer s H E) (defBody st) t ∧ t { nx := fun _ H' => Q .non H', rt := Q } (start Nm vs) H) : FnG P w K mg base CX (k + 1) f fd ps sp := by
  obtain ⟨oc, od, kV, doc, pm, an, cdv, ct, osl, rfl, lk, hcd⟩ := F.ex
  refine ⟨len, fun A outer s H args us vs Q E hr e0 hb r hsp => ?_⟩
  have KX : K.In s.heap := e0.mod.kin.keeps fun b o e => (e0.bs b o e).1
  have lim : s.heap.NoLimit := e0.mod.nolimit.keeps fun b o e => (e0.bs b o e).1
  have hkind : ∀ y ∈ ps.zip us, (defScope st).names.lookup y.1 = some .local ∨ ((defScope st).names.lookup y.1 = some .cell ∧ ((cellsFrom (s.heap.objs.size + 1) (defScope st).names []).lookup y.1).isSome = true) := fun ⟨n, v⟩ hy =>
    (S.par n (List.of_mem_zip hy).1).imp id fun q => ⟨q, PySem.W.cellsFrom_some _ _ _ (.inl q)⟩
  refine codeAny_call_function hr.r.depth (KX _ _ lk) rfl S.co S.gen rfl (PySem.W.codeRec_of KX hcd) (hb _ _ _ _ (wpAny_newFunctionEnv_cells S.kind hkind fun env he s1 x => ?_))
  subst he
  refine ⟨lim.keeps x.toInCall.keep, codeAny_func ?_⟩
  obtain ⟨t, ht, hq⟩ := hbody cdv A outer s H vs Q E (hr.deeper _) hsp
  have I := inv_start (CX := CX) (E := E) S hr.r.hd e0 (len _ _ _ _ hsp) r x
  refine wpAny_mono (ht.run [] s1 (start Nm vs) H _ I hq) (fun fl s' hs => ?_) fun e s' hs => hs
  cases fl with
  | ret u =>
    obtain ⟨v, σ', H', J, rv, q⟩ := hs
    exact ⟨v, H', J.os, J.bare, J.base, J.hok, rv, q⟩
  | next =>
    obtain ⟨σ', H', J, q⟩ := hs
    exact ⟨V.non, H', J.os, J.bare, J.base, J.hok, rfl, q⟩
  | brk =>
    obtain ⟨_, _, _, q⟩ := hs
    exact False.elim q
  | cont =>
    obtain ⟨_, _, _, q⟩ := hs
    exact False.elim q
end
section
variable {X : Cx} {CX : CXT} {k n : Nat} {f : Addr} {fd : FuncData} {ps ks : List Str} {sp : Sp} {dvs : List V} {ds : List Value} {E : XK} {x : Str} {p pos : Pos} {e : Expr} {es : List Expr} {t tk : TA} {kws : List Keyword}
theorem run_G {pins : List (Addr × Obj)} {σ : St} {H : Hp} {s : Shared} {Q : VK} {as us : List Value} {kw : List (Str × Value)} {vs : List V} (F : FnG X.prog X.w X.K X.mg X.base CX k f fd ps sp) (hr : RoomG k X.A) (hb : us.length = ps.length → BindsTo s fd ⟨as, kw⟩ (ps.zip us)) (hx : Passes CX X E)
    (I : Inv X pins σ H s) (r : Vals vs us) (h : sp vs H Q E) : wpAny (model X.prog X.w) X.A (call (.ref f) as kw) (EP X pins σ Q) X.xe s := by
  have hl : us.length = ps.length := r.length.symm.trans (F.len _ _ _ _ h)
  refine wpAny_call (codeAny_mono (F.run X.A X.stack s H ⟨as, kw⟩ us vs Q E hr I.env0 (hb hl) r h) fun r s' hq => ?_)
  cases r with
  | error e => exact hx pins σ H s e s' I hq
  | ok fl =>
    cases fl with
    | ret u => exact I.after hq
    | next => exact False.elim hq
    | brk => exact False.elim hq
    | cont => exact False.elim hq
/-- f(e, ..) -/
theorem pe_callG' (F : FnG X.prog X.w X.K X.mg X.base CX k f fd ps sp) (hr : RoomG k X.A) (hg : Gl X x) (hm : X.mg x = some (.ref f)) (hk : PySem.W.keepIn X.K (.ref f) = true) (hb : Binds X.K fd ps []) (hx : Passes CX X E)
    (ha : PA X (e :: es) t) (hdb : (x == ("__debug__" : Str)) = false := by decide) (he : starEach (e :: es) X.env = (false, eval e X.env) :: starEach es X.env := by rfl) (hpl : (backTo pos (starEach es X.env)).any (·.1) = false := by rfl) :
    PE X (.Call (.Name x p) (e :: es) [] pos) (fun σ H Q => t σ H fun vs H1 => sp vs H1 Q E) := by
  refine ⟨fun pins s σ H Q I h => ?_⟩
  refine wpAny_Call_Name_kw (ld_glob I hg hm ?_ hdb)
  refine PySem.W.callWith_K (h₀ := X.base) I.ok.mod.kin hk (thn (ha.run pos pins s σ H _ I h) fun us s1 ⟨vs, H1, I1, r, q⟩ => ⟨I1.kIn, ?_⟩) he hpl
  exact run_G F hr (fun hl => by
    have := hb s1 us I1.kIn (by rw [List.append_nil]; exact hl)
    rw [List.append_nil] at this
    exact this) hx I1 r q
/-- f(k = v, ..): ks the keywords, is the places of the parameters among them -/
def pick (is : List Nat) {α : Type} (xs : List α) : List α := is.filterMap fun i => xs[i]?
theorem vals_pick {vs : List V} {us : List Value} (r : Vals vs us) : ∀ is : List Nat, Vals (pick is vs) (pick is us)
  | [] => .nil
  | i :: is => by
    unfold pick
    rw [List.filterMap_cons, List.filterMap_cons]
    cases e : us[i]? with
    | none =>
      have e2 : vs[i]? = none := by
        rw [List.getElem?_eq_none_iff] at e ⊢
        rw [r.length]
        exact e
      rw [e2]
      exact vals_pick r is
    | some u =>
      have hl : i < vs.length := by rw [r.length]; exact (List.getElem?_eq_some_iff.mp e).1
      obtain ⟨u', hu, ru⟩ := r.get (List.getElem?_eq_getElem hl)
      rw [e] at hu
      cases hu
      rw [List.getElem?_eq_getElem hl]
      exact .cons ru (vals_pick r is)
theorem pe_callGK' {is : List Nat} (F : FnG X.prog X.w X.K X.mg X.base CX k f fd ps sp) (hr : RoomG k X.A) (hg : Gl X x) (hm : X.mg x = some (.ref f)) (hk : PySem.W.keepIn X.K (.ref f) = true) (hb : ∀ (s : Shared) (ws : List Value), ws.length = ks.length → BindsTo s fd ⟨[], ks.zip ws⟩ (ps.zip (pick is ws))) (hx : Passes CX X E)
    (hkw : PK X kws tk) (hall : (backToKw pos (keywordEach kws X.env)).all (·.1.isSome) = true := by rfl) (hks : (backToKw pos (keywordEach kws X.env)).filterMap (·.1) = ks := by rfl) (hdb : (x == ("__debug__" : Str)) = false := by decide)
    (hpl : ((backTo pos (starEach [] X.env)).any (·.1) || (backToKw pos (keywordEach kws X.env)).any (·.1.isNone)) = false := by rfl) :
    PE X (.Call (.Name x p) [] kws pos) (fun σ H Q => tk σ H fun zs H1 => zs.length = ks.length ∧ sp (pick is zs) H1 Q E) := by
  refine ⟨fun pins s σ H Q I h => ?_⟩
  refine wpAny_Call_Name_kw (ld_glob I hg hm ?_ hdb)
  refine PySem.W.callWith_KW0 (h₀ := X.base) I.ok.mod.kin hk hall ?_ hpl
  refine thn (hkw.run pos pins s σ H _ I h) fun ws s2 ⟨zs, H2, I2, rz, l2, q2⟩ => ⟨I2.kIn, ?_⟩
  rw [hks]
  exact run_G (us := pick is ws) F hr (fun _ => hb s2 ws (by rw [← rz.length]; exact l2)) hx I2 (vals_pick rz is) q2
/-- a def that a name may hold: its promise goes with the address -/
structure HeldG (P : Program) (w : World) (K : PySem.W.Frag) (mg : Str → Option Value) (base : Heap) (k : Nat) (f : Addr) (sp : Sp) : Prop where
  ex : ∃ (fd : FuncData) (ps : List Str), FnG P w K mg base CX0 k f fd ps sp ∧ PySem.W.keepIn K (.ref f) = true ∧ Binds K fd ps []
theorem pe_callGA {i : Nat} {S : Addr → Option Sp} (A : ∀ f sp, S f = some sp → HeldG X.prog X.w X.K X.mg X.base k f sp) (hr : RoomG k X.A) (hN : X.N[i]? = some x) (hv : Vis X.env.scope x) (ha : PA X (e :: es) t)
    (hdb : (x == ("__debug__" : Str)) = false := by decide) (hcd : (x == ("__classdict__" : Str)) = false := by decide)
    (he : starEach (e :: es) X.env = (false, eval e X.env) :: starEach es X.env := by rfl) (hpl : (backTo pos (starEach es X.env)).any (·.1) = false := by rfl) : PE X (.Call (.Name x p) (e :: es) [] pos) (tCallA i S t) := by
  refine ⟨fun pins s σ H Q I h => ?_⟩
  obtain ⟨f, sp, hs, hS, ht⟩ := h
  obtain ⟨fd, ps, F, hk, hb⟩ := (A f sp hS).ex
  refine wpAny_Call_Name_kw (thn ((pe_var (pos := p) hN hv hdb hcd).run pins s σ H (fun v H1 => v = .ref f ∧ H1 = H) I ⟨.ref f, hs, rfl, rfl⟩) fun u s1 ⟨v, H1, I1, r1, q1⟩ => ?_)
  obtain ⟨rfl, rfl⟩ := q1
  cases r1
  refine PySem.W.callWith_K (h₀ := X.base) I.ok.mod.kin hk (thn (ha.run pos pins s1 σ _ _ I1 ht) fun us s2 ⟨vs, H2, I2, r, q⟩ => ⟨I2.kIn, ?_⟩) he hpl
  exact run_G (E := fun _ _ _ => False) F hr (fun hl => by
    have := hb s2 us I2.kIn (by rw [List.append_nil]; exact hl)
    rw [List.append_nil] at this
    exact this) (fun _ _ _ _ _ _ _ z => z.elim) I2 r q
end
end L2

namespace L2
open PySem PySem.Spec PyProof.Rows
/-- the head: the law's promise at the heap behind the top -/
theorem law_callG {P : Program} {w : World} {K : PySem.W.Frag} {mg mb : Str → Option Value} {CX : CXT} {k : Nat} {fa a : Addr} {fd : FuncData} {x : Str} {sp : Sp} {s₁ : Shared} {vs : List Value} {ns : List Int}
    (KX : K.In s₁.heap) (hns : s₁.heap.Ns mainGlobals mg) (hb : s₁.heap.Ns builtinsNs mb) (hbb : ∀ x : Str, x ≠ "__name__" → mb x = bootBuiltins x) (hlim : s₁.heap.NoLimit) (hg : s₁.gens = #[])
    (ha : s₁.heap.get? a = some { cls := .type "list", data := .seq vs.toArray }) (hi : IntsAre vs ns) (hl : ns.length ≤ sizeLine) (hr : Room k callerA)
    (F : ∀ base : Heap, K.In base → base.Ns mainGlobals mg → FnG P w K mg base CX k fa fd [x] sp) (hbind : ∀ (s : Shared) (u : Value), BindsTo s fd ⟨[u], []⟩ [(x, u)])
    (hsp : ∀ H : Hp, Only H → SqL K H a (ns.map V.int) → sp [.ref a] H (fun v _ => v = .bl true) fun _ _ _ => False)
    (hCX : ∀ H e s', CX [] H s₁ (fun _ _ _ => False) e s' → False) :
    codeAny (model P w) callerA (.call (.ref fa) ⟨[.ref a], []⟩) (fun r s' => r = .ok (.ret (.bool true)) ∧ OldK s₁.heap s'.heap ∧ s'.os = s₁.os ∧ AllBare s'.gens) s₁ := by
  have rv := vals_ints hi
  have lenV := hi.length
  have core : ∀ H : Hp, Only H → SqL K H a (ns.map V.int) → HOk P w H s₁.heap → (∀ b, H b ≠ none → b = a) → (H a ≠ none → K.lookup a = none) →
      codeAny (model P w) callerA (.call (.ref fa) ⟨[.ref a], []⟩) (fun r s' => r = .ok (.ret (.bool true)) ∧ OldK s₁.heap s'.heap ∧ s'.os = s₁.os ∧ AllBare s'.gens) s₁ := by
    intro H hO hS hok hA hK
    have isA : ∀ {b : Addr}, b ≠ a → H b = none := fun {b} hb => by
      cases q : H b with
      | none => rfl
      | some u => exact absurd (hA b (by rw [q]; simp)) hb
    have noA : ∀ {b : Addr} {o : Obj} {es : Array DictEntry} {ep : Nat}, s₁.heap.get? b = some o → o.data = .dict es ep → H b = none := fun {b o es ep} e d => isA fun z => by
      subst z
      rw [ha] at e; cases e
      have d' : Data.seq vs.toArray _ = Data.dict es ep := d
      cases d'
    have nsK : ∀ {b : Addr} {m : Str → Option Value}, s₁.heap.Ns b m → (hidT s₁.heap H).Ns b m := fun {b m} ⟨o, es, ep, e, d, r⟩ => ⟨o, es, ep, hidT_get e (noA e d), d, r⟩
    have hKb : K.In (hidT s₁.heap H) := fun b o e => hidT_get (KX b o e) (by
      by_cases z : b = a
      · subst z
        cases q : H b with
        | none => rfl
        | some u =>
          rw [hK (by rw [q]; simp)] at e
          cases e
      · exact isA z)
    have hM : Mod K mg (hidT s₁.heap H) := ⟨hKb, nsK hns, ⟨mb, nsK hb, hbb⟩, let ⟨mc, h1, h2⟩ := hlim; ⟨mc, nsK h1, h2⟩⟩
    have e0 : Env0 P w K mg (hidT s₁.heap H) callerA [] s₁ H := ⟨rfl, hM, fun b o e => of_hidT e, Nat.le_of_eq (hidT_size _ _), trivial, fun b hb => absurd (show b ∈ ([] : List Addr) from hb) (by simp), hok, .of_eq hg⟩
    refine codeAny_mono ((F _ hKb (nsK hns)).run callerA [] s₁ H ⟨[.ref a], []⟩ [.ref a] [.ref a] _ _ ⟨hr, rfl⟩ e0 (hbind s₁ (.ref a)) (.cons rfl .nil) (hsp H hO hS)) fun r s' h => ?_
    cases r with
    | error e => exact (hCX H e s' h).elim
    | ok fl =>
      cases fl with
      | next => exact False.elim h
      | brk => exact False.elim h
      | cont => exact False.elim h
      | ret u =>
        obtain ⟨v, H', os, bare, un, hok', r', q⟩ := h
        have q' : v = .bl true := q
        subst q'
        obtain rfl : u = Value.bool true := r'
        refine ⟨rfl, OldK.of_keep fun b o e => ?_, os, bare⟩
        cases q : H b with
        | none => exact un.keep b o e q (fun z => absurd (show b ∈ ([] : List Addr) from z) (by simp)) (by simp)
        | some u =>
          rcases hO b with z | ⟨ob, xs, z⟩
          · rw [q] at z; cases z
          · obtain ⟨e1, _⟩ := hok b _ z
            obtain ⟨e2, _⟩ := hok' b _ (un.frzs b ob _ z)
            rw [e] at e1; cases e1
            exact e2
  cases hk : K.lookup a with
  | some o =>
    have e := KX a o hk
    rw [ha] at e
    cases e
    refine core (fun _ => none) (fun _ => .inl rfl) (.inr ⟨_, vs.toArray, _, hk, rfl, rfl, rfl, by rw [List.size_toArray, lenV]; exact hl, by simpa using rv⟩) (fun b u z => by have z' : (none : Option HO) = some u := z; cases z') (fun b z => absurd rfl z) fun z => absurd rfl z
  | none =>
    refine core (fun b => if b = a then some (.frz { cls := .type "list", data := .seq vs.toArray } (.lst (ns.map V.int))) else none) (fun b => ?_) (.inl (.inr ⟨{ cls := .type "list", data := .seq vs.toArray }, if_pos rfl⟩)) (fun b u z => ?_) (fun b z => ?_) fun _ => hk
    · by_cases hb : b = a
      · exact .inr ⟨_, _, if_pos hb⟩
      · exact .inl (if_neg hb)
    · by_cases hb : b = a
      · have z' := (if_pos hb).symm.trans z
        cases z'
        subst hb
        exact ⟨ha, by rw [List.length_map]; exact hl, vs, _, rv, ha⟩
      · have z' := (if_neg hb).symm.trans z
        cases z'
    · by_cases hb : b = a
      · exact hb
      · exact absurd (if_neg hb) z
theorem walk_ofG {l : PySem.W.OpenLaw} {n k : Nat} {q : Program} {loose : List Str} {XP : (Str → Option Value) → Heap → Prop} {YP : World → Heap → Prop} {d : DefRec} {K : Params → PySem.W.Frag} {CX : World → CXT} {sp : World → Sp} {x : Str}
    (hn : l.most = some n) (hn2 : n ≤ sizeLine) (hdf : d.params.defaults = []) (hr : Room k callerA)
    (hY : ∀ (w : World) (h : Heap), YP w h → (K w.params).In h)
    (F : ∀ (w : World) (mg : Str → Option Value) (fa : Addr) (h : Heap), (K w.params).In h → h.Ns mainGlobals mg → mg d.name = some (.ref fa) →
      ∃ fd : FuncData, (∀ (s : Shared) (u : Value), BindsTo s fd ⟨[u], []⟩ [(x, u)]) ∧
        ∀ base : Heap, (K w.params).In base → base.Ns mainGlobals mg → FnG l.prog w (K w.params) mg base (CX w) k fa fd [x] (sp w))
    (hsp : ∀ (w : World) (H : Hp) (a : Addr) (ns : List Int), ns.length ≤ n → Only H → SqL (K w.params) H a (ns.map V.int) → sp w [.ref a] H (fun v _ => v = .bl true) fun _ _ _ => False)
    (hCX : ∀ (w : World) (H : Hp) (s : Shared) (e : Value) (s' : Shared), CX w [] H s (fun _ _ _ => False) e s' → False) :
    PySem.W.WalkO q loose XP YP l.row.toRowW d [] (fun f vs => PySem.call f vs) := by
  refine Att.attach_call hn hdf fun w s₀ s₁ mg mb fa o pm cd doc a vs ns G Y ho hd hcd hmg hobj hints hlen hg => ?_
  have KX := hY w _ Y
  obtain ⟨fd, hb, hF⟩ := F w mg fa _ KX G.T.g hmg
  exact law_callG KX G.T.g G.T.b G.T.builtins G.T.nolimit hg hobj hints (Nat.le_trans hlen hn2) hr hF hb (fun H hO hS => hsp w H a ns hlen hO hS) fun H e s' => hCX w H s₁ e s'
end L2

set_option Elab.async false
set_option linter.all false
set_option maxRecDepth 100000
set_option maxHeartbeats 4000000
/-! DL17: defs and calls by data (with guards), repr, str of ints, len(set(..)), repetition. -/
namespace DL
open PySem PySem.Spec PyProof.Rows L2

theorem huG {A : Around} {k : Nat} (hr : RoomG k A) : A.units + 65 < cLine := hu65 hr.r
section
variable {P : Program} {w : World} {K : PySem.W.Frag} {mg : Str → Option Value} {base : Heap}
theorem fn_okG {N : Nv} {x qual : Str} {st : Stmt} {f : Addr} {fd : FuncData} {Nm ps : List Str} {k L n : Nat} {Fb : Δ → M Fl} (F : Fun K x qual st f fd) (Sc : FnScope Nm ps (defScope st)) (hL : Nm.length = L) (hn : ps.length = n)
    (hb : ∀ (cdv : Value) (A : Around) (outer : List Env) (s : Shared) (H : Hp) (E : XK), RoomG k (A.deeper (envOfC qual (defScope st) s.heap.objs.size f cdv)) → DSs N W0 (cxOf CX0 P w K mg base Nm qual (defScope st) f cdv A outer s H E).nox (defBody st) Fb) :
    FnG P w K mg base CX0 (k + 1) f fd ps (spD N n (fnM n L Fb)) := by
  refine F.okG Sc (fun vs H Q E h => ?_) (fun cdv A outer s H vs Q E hr h => ?_)
  · obtain ⟨g, S, ds, hl, ra, st, r⟩ := h
    rw [ra.length, hl, hn]
  · obtain ⟨g, S, ds, hl, ra, st, r⟩ := h
    refine ⟨_, (hb cdv A outer s H E hr).nox, ⟨g, []⟩, H, g, S, startD L ds, good_start st ra hL, ?_⟩
    unfold fnM at r
    rw [if_pos hl] at r
    cases e : M.bind (Fb (startD L ds)) endM S with
    | stk =>
      unfold M.quiet at r
      rw [e] at r
      exact r.elim
    | err c z S1 =>
      unfold M.quiet at r
      rw [e] at r
      exact r.elim
    | ok d S1 =>
      unfold M.quiet at r
      rw [e] at r
      cases ef : Fb (startD L ds) S with
      | stk => rw [M.bind_stk ef] at e; cases e
      | err c z S2 => rw [M.bind_err ef] at e; cases e
      | ok o S2 =>
        rw [M.bind_ok ef] at e
        cases o with
        | nx δ =>
          cases e
          exact fun g' σ' H' G' => r g' H' G'.kp G'.st _ .non
        | rt v =>
          cases e
          exact fun g' H' u k st ru => r g' H' k st u ru
        | bk _ => cases e
        | ct _ => cases e
end
section
variable {N : Nv} {W : XK} {X : Cx} {md : Md} {e a b : Expr} {es : List Expr} {f fa fb : Δ → M D} {g0 : G0} {g : Gh} {H0 H : Hp} {S : Store} {δ : Δ} {σ : L2.St} {Q : VK} {pos p : Pos}
theorem Passes0 {X : Cx} {W : XK} : Passes CX0 X W := fun _ _ _ _ _ _ _ z => z.elim
theorem de_callG {k n : Nat} {fA : Addr} {fd : FuncData} {ps : List Str} {m : List D → M D} {fr : Δ → M (List D)} {x : Str} (F : FnG X.prog X.w X.K X.mg X.base CX0 k fA fd ps (spD N n m)) (hr : RoomG k X.A) (hg : Gl X x) (hm : X.mg x = some (.ref fA)) (hk : PySem.W.keepIn X.K (.ref fA) = true) (hb : Binds X.K fd ps [])
    (ha : DA N W X (e :: es) fr) (hdb : (x == ("__debug__" : Str)) = false := by decide) (he : starEach (e :: es) X.env = (false, eval e X.env) :: starEach es X.env := by rfl) (hpl : (backTo pos (starEach es X.env)).any (·.1) = false := by rfl) :
    DE N W X .fz (.Call (.Name x p) (e :: es) [] pos) (fCall m n fr) :=
  (pe_callG' (E := W) F hr hg hm hk hb Passes0 ha hdb he hpl).imp fun σ H Q ⟨g0, H0, g, S, δ, G, q⟩ => tA.seq G q fun xs S1 vs H1 g1 k1 G1 ra q1 => by
    obtain ⟨hl, q1⟩ := Res.ite q1
    exact ⟨g1, S1, xs, hl, ra, G1.st, q1.mono (.refl _ _) fun g' H' d k' h v rv => h v rv⟩
/-! ### keywords -/
def DK (N : Nv) (W : XK) (X : Cx) (ks : List Keyword) (f : Δ → M (List D)) : Prop := PK X ks (tA N W f)
theorem _root_.L2.PK.imp {ks : List Keyword} {t t' : TA} (h : PK X ks t) (w : ∀ σ H Q, t' σ H Q → t σ H Q) : PK X ks t' := ⟨fun pos pins s σ H Q I q => h.run pos pins s σ H Q I (w σ H Q q)⟩
theorem dk_nil : DK N W X [] fNil := pk_nil.imp fun σ H Q ⟨g0, H0, g, S, δ, G, q⟩ => q.now G.st [] .nil
theorem dk_cons {nm : Option Str} {kp : Pos} {ks : List Keyword} {fr : Δ → M (List D)} (he : DE N W X .fz e f) (hr : DK N W X ks fr) : DK N W X (⟨nm, e, kp⟩ :: ks) (fCons f fr) :=
  (pk_cons he hr).imp fun σ H Q ⟨g0, H0, g, S, δ, G, q⟩ => tE.seq G q fun x S1 v H1 g1 k1 G1 rv q1 => tA.seq G1 q1 fun xs S2 vs H2 g2 k2 G2 rvs q2 => q2.now G2.st _ (.cons (Rp.keep k2 rv) rvs)
theorem rp_pick {K : PySem.W.Frag} {vs : List V} {ds : List D} (r : RpAll K g H vs ds) : ∀ is : List Nat, RpAll K g H (pick is vs) (pick is ds)
  | [] => .nil
  | i :: is => by
    unfold pick
    rw [List.filterMap_cons, List.filterMap_cons]
    cases e : ds[i]? with
    | none =>
      have e2 : vs[i]? = none := by
        rw [List.getElem?_eq_none_iff] at e ⊢
        rw [r.length]
        exact e
      rw [e2]
      exact rp_pick r is
    | some u =>
      obtain ⟨v, hv, rv⟩ := r.get e
      rw [hv]
      exact .cons rv (rp_pick r is)
def fCallK (m : List D → M D) (n l : Nat) (is : List Nat) (fr : Δ → M (List D)) : Δ → M D := fun δ => M.bind (fr δ) fun ds => if ds.length = l ∧ (pick is ds).length = n then m (pick is ds) else M.stuck
theorem de_callK {k n : Nat} {fA : Addr} {fd : FuncData} {ps ks : List Str} {kws : List Keyword} {m : List D → M D} {fr : Δ → M (List D)} {x : Str} (is : List Nat) (F : FnG X.prog X.w X.K X.mg X.base CX0 k fA fd ps (spD N n m)) (hr : RoomG k X.A) (hg : Gl X x) (hm : X.mg x = some (.ref fA)) (hk : PySem.W.keepIn X.K (.ref fA) = true)
    (hb : ∀ (s : Shared) (ws : List Value), ws.length = ks.length → BindsTo s fd ⟨[], ks.zip ws⟩ (ps.zip (pick is ws)))
    (ha : DK N W X kws fr) (hall : (backToKw pos (keywordEach kws X.env)).all (·.1.isSome) = true := by rfl) (hks : (backToKw pos (keywordEach kws X.env)).filterMap (·.1) = ks := by rfl) (hdb : (x == ("__debug__" : Str)) = false := by decide)
    (hpl : ((backTo pos (starEach [] X.env)).any (·.1) || (backToKw pos (keywordEach kws X.env)).any (·.1.isNone)) = false := by rfl) :
    DE N W X .fz (.Call (.Name x p) [] kws pos) (fCallK m n ks.length is fr) :=
  (pe_callGK' (E := W) F hr hg hm hk hb Passes0 ha hall hks hdb hpl).imp fun σ H Q ⟨g0, H0, g, S, δ, G, q⟩ => tA.seq G q fun xs S1 vs H1 g1 k1 G1 ra q1 => by
    obtain ⟨hl, q1⟩ := Res.ite q1
    exact ⟨by rw [ra.length]; exact hl.1, g1, S1, pick is xs, hl.2, rp_pick ra is, G1.st, q1.mono (.refl _ _) fun g' H' d k' h v rv => h v rv⟩
/-! ### defs as values -/
theorem de_fn {x : Str} {fA : Addr} (hg : Gl X x) (hm : X.mg x = some (.ref fA)) (hd : (x == ("__debug__" : Str)) = false := by decide) : DE N W X .fz (.Name x pos) (fun _ => M.ret (.fn fA)) := de_con (pe_glob hg hm (v := .ref fA) rfl hd) fun _ _ => .fn fA
/-- what the defs that are passed do -/
abbrev FT := Addr → Option (Nat × (List D → M D))
def fnAt (i : Nat) (δ : Δ) : Option Addr := match δ[i]? with
  | some (some (.d (.fn a))) => some a
  | _ => none
def fCallV (T : FT) (i : Nat) (fr : Δ → M (List D)) : Δ → M D := fun δ => match fnAt i δ with
  | some a => match T a with
    | some (n, m) => fCall (fun ds => M.quiet (m ds)) n fr δ
    | none => M.stuck
  | none => M.stuck
theorem Res.quiet {W' : XK} {α : Type} {R : Gh → Hp → α → Prop} {m : M α} (h : Res N W g H R (M.quiet m S)) : Res N W' g H R (m S) := by
  unfold M.quiet at h
  cases e : m S with
  | stk => rw [e] at h; exact h
  | err c x S1 => rw [e] at h; exact h.elim
  | ok a S1 => rw [e] at h; exact h
theorem de_callV {k i : Nat} {T : FT} {fr : Δ → M (List D)} {x : Str} (A : ∀ a n m, T a = some (n, m) → HeldG X.prog X.w X.K X.mg X.base k a (spD N n m)) (hr : RoomG k X.A) (hN : X.N[i]? = some x) (hv : Vis X.env.scope x) (ha : DA N W X (e :: es) fr)
    (hdb : (x == ("__debug__" : Str)) = false := by decide) (hcd : (x == ("__classdict__" : Str)) = false := by decide)
    (he : starEach (e :: es) X.env = (false, eval e X.env) :: starEach es X.env := by rfl) (hpl : (backTo pos (starEach es X.env)).any (·.1) = false := by rfl) : DE N W X .fz (.Call (.Name x p) (e :: es) [] pos) (fCallV T i fr) :=
  (pe_callGA (i := i) (S := fun a => (T a).map fun q => spD N q.1 q.2) (fun a sp h => by
    rw [Option.map_eq_some_iff] at h
    obtain ⟨⟨n, m⟩, h, rfl⟩ := h
    exact A a n m h) hr hN hv ha hdb hcd he hpl).imp fun σ H Q ⟨g0, H0, g, S, δ, G, q⟩ => by
    unfold fCallV at q
    cases ea : fnAt i δ with
    | none => rw [ea] at q; exact q.elim
    | some a =>
      rw [ea] at q
      simp only at q
      cases et : T a with
      | none => rw [et] at q; exact q.elim
      | some nm =>
        obtain ⟨n, m⟩ := nm
        rw [et] at q
        simp only at q
        have hd : δ[i]? = some (some (.d (.fn a))) := by
          unfold fnAt at ea
          split at ea
          · rename_i h
            cases ea
            exact h
          · cases ea
        obtain ⟨v, hv, rv⟩ := G.sl i _ hd
        cases (show Rp N.K g H v (.fn a) from rv)
        refine ⟨a, spD N n m, hv, by show (T a).map _ = _; rw [et]; rfl, tA.seq G q fun xs S1 vs H1 g1 k1 G1 ra q1 => ?_⟩
        obtain ⟨hl, q1⟩ := Res.ite q1
        exact ⟨g1, S1, xs, hl, ra, G1.st, (Res.quiet q1).mono (.refl _ _) fun g' H' d k' h v rv => h v rv⟩
end
end DL

set_option Elab.async false
set_option linter.all false
set_option maxRecDepth 100000
set_option maxHeartbeats 4000000
/-! DL18: repr, str of ints, len(set(..)), repetition of tuples. -/
namespace DL
open PySem PySem.Spec PyProof.Rows L2

theorem RpB.dp60 {K : PySem.W.Frag} {g : Gh} {H : Hp} {v : V} {d : D} (r : RpB K g H v d) (h : d.sh 60 = true) : Dp K H v d.py := by
  rcases r with r | ⟨a, vs, ds, e1, e2, h1, _, _, ra⟩
  · exact Rp.dp 60 d v h r
  · subst e1 e2
    have h : D.shs 59 ds = true := by unfold D.sh at h; exact h
    rw [py_lst]
    exact .lst (.of h1) (RpAll.dp 59 ds vs h ra)
mutual
theorem D.noDict : ∀ (n : Nat) (d : D), d.sh n = true → d.py.hasDict = false
  | _, .non, _ => rfl
  | _, .bl _, _ => rfl
  | _, .int _, _ => rfl
  | _, .str _, _ => rfl
  | n + 1, .lst xs, h => by unfold D.sh at h; rw [py_lst]; unfold PyData.hasDict; exact D.noDicts n xs h
  | n + 1, .tup xs, h => by unfold D.sh at h; rw [py_tup]; unfold PyData.hasDict; exact D.noDicts n xs h
  | 0, .lst _, h => by unfold D.sh at h; cases h
  | 0, .tup _, h => by unfold D.sh at h; cases h
  | _, .dct _, h => by unfold D.sh at h; cases h
  | _, .ob _, h => by unfold D.sh at h; cases h
  | _, .fn _, h => by unfold D.sh at h; cases h
  | _, .scr _, h => by unfold D.sh at h; cases h
theorem D.noDicts : ∀ (n : Nat) (ds : List D), D.shs n ds = true → PyData.hasDictAll (D.pys ds) = false
  | _, [], _ => by rw [pys_nil]; unfold PyData.hasDictAll; rfl
  | n, x :: xs, h => by
    unfold D.shs at h
    rw [Bool.and_eq_true] at h
    rw [pys_cons]
    unfold PyData.hasDictAll
    rw [D.noDict n x h.1, D.noDicts n xs h.2]
    rfl
end
section
variable {X : Cx}
def rRepr (K : PySem.W.Frag) : List V → Hp → VK → Prop := fun vs H Q => ∃ x d, vs = [x] ∧ Dp K H x d ∧ d.showable = true ∧ d.hasDict = false ∧ d.depth ≤ 60 ∧ d.shown.length ≤ sizeLine ∧ Q (.str d.shown) H
theorem cr_repr (hu : X.A.units + 65 < cLine) (hg : X.A.guards = some []) : CallR X (.builtin "repr") (rRepr X.K) := by
  intro pins s σ H xs us Q I r h
  obtain ⟨x, d, rfl, hd, hs, hn, hz, hl, q⟩ := h
  obtain ⟨u, rfl, ru⟩ := vals1 r
  obtain ⟨as, rd⟩ := Dp.reads I d x u hd ru
  cases d with
  | none => cases rd; exact PySem.P.repr_of_none ⟨.str _, H, I.tok _, ⟨_, rfl⟩, q⟩
  | bool b => cases rd; exact PySem.P.repr_of_bool ⟨.str _, H, I.tok _, ⟨_, rfl⟩, q⟩
  | int i => cases rd; exact PySem.P.repr_of_int (of_decide_eq_true (show decide (i.natAbs.log2 < 1920) = true from hs)) ⟨.str _, H, I.tok _, ⟨_, rfl⟩, q⟩
  | str y => cases rd; exact PySem.P.repr_of_str ⟨.str _, H, I.tok _, ⟨_, rfl⟩, q⟩ hl
  | list ds =>
    obtain ⟨a, rfl⟩ := isRef_of_reads rd rfl
    exact repr_of_reads' rd hs (PyData.noDict_hsm hn) hg (by omega) (fun _ _ e => e) (fun h' u tk hk => ⟨.str _, H, I.kept (t' := tk) hk, ⟨_, rfl⟩, q⟩) hl
  | tuple ds =>
    obtain ⟨a, rfl⟩ := isRef_of_reads rd rfl
    exact repr_of_reads' rd hs (PyData.noDict_hsm hn) hg (by omega) (fun _ _ e => e) (fun h' u tk hk => ⟨.str _, H, I.kept (t' := tk) hk, ⟨_, rfl⟩, q⟩) hl
  | dict _ => cases hd
/-! ### t * 1 -/
def rRep1 (K : PySem.W.Frag) : R2 := fun x y H Q => ∃ l xs, x = .ref l ∧ y = .int 1 ∧ SqT K H l xs ∧ xs.length ≤ 1000 ∧ Q (.ref l) H
theorem tuple_mul1 (l : Addr) (items : Array Value) (n : Nat) (dd : Option Addr) (sl : Array (Option Value)) (u : Tok) :
    Meets (Builtin.«tuple.__mul__» ⟨[.ref l, .int 1 u], []⟩) (fun _ R s => s.heap.get? l = some { cls := .type "tuple", dict := dd, data := .seq items n, slots := sl } ∧ R (.ok (.ret (Value.ref l))) s) :=
  .of_wp fun prog w A R s h => by
    obtain ⟨hp, g, d, tk, os⟩ := s
    obtain ⟨hl, h⟩ := h
    have f1 := AutoSeq1.idx_int
    have c1 : (items.isEmpty || (1 : Int) == 1) = true := by simp
    wp_walk using wpAny_loadPart' hl
    repeat (first
      | (refine wpAny_ite_false (decide_eq_false (by decide)) ?_; wp_walk using wpAny_loadPart' hl)
      | (refine wpAny_ite_true (decide_eq_true (by rw [c1])) ?_; wp_walk using wpAny_loadPart' hl))
    exact ⟨_, rfl, h⟩
theorem op_rep1 : OpR X (binaryOp .Mult) (rRep1 X.K) := by
  intro pins s σ H x y v u Q I rx ry h
  obtain ⟨l, xs, rfl, rfl, hT, hz, q⟩ := h
  cases rx
  obtain ⟨t, rfl⟩ := ry
  obtain ⟨its, r, ⟨⟨cls, dd, data, sl⟩, ho, hc, n, hd⟩, hs⟩ := I.tuple hT
  simp only at hc hd
  subst hc hd
  exact wpAny_binaryOp_repeat_ref (T := "tuple") (U := "int") (by decide) ⟨_, ho, rfl⟩ (fun s' => typeIs_int s' 1 t) noFill_tuple_mul F.fills_int_mul F.slot_int_rmul repeat_tuple F.slot_int_index.lookup
    (call_meets F.slot_int_rmul (typeIs_int s 1 t) F.entry_int_rmul (F.args_int_rmul_2 _ _) (int_rmul_tuple 1 t l its.toArray n dd sl)
      ⟨ho, rfl, ⟨_, ho, rfl⟩, call_meets F.slot_tuple_mul ⟨_, ho, rfl⟩ F.entry_tuple_mul (F.args_tuple_mul_2 _ _) (tuple_mul1 l its.toArray n dd sl t) ⟨ho, ⟨.ref l, H, I, rfl, q⟩⟩⟩)
end
section
variable {N : Nv} {W : XK} {X : Cx} {a b : Expr} {fa fb : Δ → M D} {g0 : G0} {g : Gh} {H0 H : Hp} {S : Store} {δ : Δ} {σ : L2.St} {pos p : Pos}
/-! ### by data -/
def dRepr (x : D) : M D := if (x.sh 60 && x.py.showable && decide (x.py.shown.length ≤ sizeLine)) = true then M.ret (.str x.py.shown) else M.stuck
theorem de_repr {x : Str} {ma : Md} (hu : X.A.units + 65 < cLine) (hgd : X.A.guards = some []) (hg : Gl X x) (hm : X.mg x = none) (hv : bootBuiltins x = some (.builtin "repr")) (ha : DE N W X ma a fa)
    (hn : x ≠ "__name__" := by decide) (hdb : (x == ("__debug__" : Str)) = false := by decide) (he : starEach [a] X.env = (false, eval a X.env) :: starEach [] X.env := by rfl) (hpl : (backTo pos (starEach [] X.env)).any (·.1) = false := by rfl) (hK : N.K = X.K := by rfl) : DE N W X .fz (.Call (.Name x p) [a] [] pos) (f1 dRepr fa) :=
  de_cb (cr_repr hu hgd) (fun x v g H S Q st rv q => by
    obtain ⟨h, q⟩ := Res.ite q
    rw [Bool.and_eq_true, Bool.and_eq_true, decide_eq_true_eq] at h
    exact ⟨v, x.py, rfl, hK ▸ rv.dp60 h.1.1, h.1.2, D.noDict 60 x h.1.1, (D.sh_lay 60 x h.1.1).2, h.2, q.now st _ (.str _)⟩) hg hm hv ha hn hdb he hpl
def dStr : D → M D
  | .int i => if i.natAbs.log2 < 1920 then M.ret (.str (toString i)) else M.stuck
  | _ => M.stuck
theorem de_strI {x : Str} {ma : Md} (hg : Gl X x) (hm : X.mg x = none) (hv : bootBuiltins x = some (.type "str")) (ha : DE N W X ma a fa)
    (hn : x ≠ "__name__" := by decide) (hdb : (x == ("__debug__" : Str)) = false := by decide) (he : starEach [a] X.env = (false, eval a X.env) :: starEach [] X.env := by rfl) (hpl : (backTo pos (starEach [] X.env)).any (·.1) = false := by rfl) : DE N W X .fz (.Call (.Name x p) [a] [] pos) (f1 dStr fa) :=
  de_ct call_str_int (fun x v g H S Q st rv q => by
    cases x <;> first | exact q.elim | skip
    obtain ⟨h, q⟩ := Res.ite q
    exact ⟨_, by rw [rv.int], h, q.now st _ (.str _)⟩) hg hm hv ha hn hdb he hpl
/-- len(set(xs)), xs different ints -/
def dLenSet : D → M D
  | .lst xs => M.bind (M.opt (D.ints xs)) fun ns => if ns.Nodup ∧ ns.length ≤ 4000 then M.ret (.int ns.length) else M.stuck
  | _ => M.stuck
theorem de_lenSet {ma : Md} {p2 q : Pos} (hc : X.calm = true) (hg : Gl X "len") (hm : X.mg "len" = none) (hg2 : Gl X "set") (hm2 : X.mg "set" = none) (ha : DE N W X ma a fa)
    (na : starEach [a] X.env = (false, eval a X.env) :: starEach [] X.env := by rfl) : DE N W X .fz (.Call (.Name "len" p) [.Call (.Name "set" p2) [a] [] q] [] pos) (f1 dLenSet fa) :=
  (RZ.pe_lenSetI hg hm hg2 hm2 ha hc na).imp fun σ H Q ⟨g0, H0, g, S, δ, G, q⟩ => tE.seq G q fun x S1 v H1 g1 k1 G1 rv q1 => by
    cases x <;> first | exact q1.elim | skip
    rename_i xs
    obtain ⟨p, vs, e1, hs, hl, ra⟩ := rv.bo.seqL
    have q1 : Res N W g1 H1 _ (M.bind (M.opt (D.ints xs)) (fun ns => if ns.Nodup ∧ ns.length ≤ 4000 then M.ret (D.int ns.length) else M.stuck) S1) := q1
    cases e : D.ints xs with
    | none => rw [e] at q1; exact q1.elim
    | some ns =>
      rw [e] at q1
      obtain ⟨hn, q1⟩ := Res.ite (m := M.ret (D.int ns.length)) q1
      rw [ra.ints e] at hs
      exact ⟨p, ns, e1, .of hs, hn.1, hn.2, Res.now (a := D.int ns.length) G1.st q1 _ (.int _)⟩
/-- t * k -/
def dRep : D → D → M D
  | .tup xs, .int k => if xs ≠ [] ∧ xs.length ≤ 1000 ∧ 1 ≤ k ∧ k ≤ 1000 then M.ret (.tup (List.replicate k.toNat xs).flatten) else M.stuck
  | _, _ => M.stuck
theorem RpAll.rep {K : PySem.W.Frag} {vs : List V} {ds : List D} (r : RpAll K g H vs ds) : ∀ n : Nat, RpAll K g H (List.replicate n vs).flatten (List.replicate n ds).flatten
  | 0 => .nil
  | n + 1 => by
    rw [List.replicate_succ, List.replicate_succ, List.flatten_cons, List.flatten_cons]
    exact r.append (r.rep n)
theorem rep_len {α : Type} {xs : List α} {k : Int} (h1 : xs.length ≤ 1000) (h2 : k ≤ 1000) : (List.replicate k.toNat xs).flatten.length ≤ sizeLine := by
  rw [PyProof.Rows.lm_len_rep_flat, sizeLine_eq]
  have a1 : k.toNat * xs.length ≤ 1000 * 1000 := Nat.mul_le_mul (by omega) h1
  omega
theorem de_rep {ma mb : Md} (ha : DE N W X ma a fa) (hb : DE N W X mb b fb) (hK : N.K = X.K := by rfl) : DE N W X .fz (.BinOp a .Mult b pos) (f2 dRep fa fb) :=
  de_op (OpR.or op_rep1 op_repT) (fun x y v w g H S Q st rv rw q => by
    cases x <;> cases y <;> first | exact q.elim | skip
    rename_i xs k
    obtain ⟨⟨h1, h2, h3, h4⟩, q⟩ := Res.ite (m := M.ret (D.tup (List.replicate k.toNat xs).flatten)) q
    obtain ⟨p, vs, e1, hs, hl, ra⟩ := rv.seqT
    have hvl := ra.length
    by_cases hk : k = 1
    · subst hk
      refine .inl ⟨p, vs, e1, rw.int, .of hs, by omega, Res.now st q _ ?_⟩
      have e : (List.replicate (1 : Int).toNat xs).flatten = xs := by simp
      rw [e]
      exact .tup hs hl ra
    · refine .inr ⟨p, k, vs, e1, rw.int, .of hs, fun z => h1 ?_, by omega, h4, by omega, Res.tup st (ra.rep _) (rep_len (by omega) h4) q⟩
      rw [z] at hvl
      exact List.eq_nil_of_length_eq_zero hvl.symm) ha hb
end
end DL

set_option Elab.async false
set_option linter.all false
set_option maxRecDepth 100000
set_option maxHeartbeats 4000000
/-! DL19: shared lists: made, written, popped; comprehensions with two for. -/
namespace DL
open PySem PySem.Spec PyProof.Rows L2

section
variable {N : Nv} {W : XK} {X : Cx} {md : Md} {e a b o i : Expr} {es : List Expr} {f fa fb fo fi fe : Δ → M D} {g0 : G0} {g : Gh} {H0 H : Hp} {S : Store} {δ : Δ} {σ : L2.St} {Q : VK} {pos p : Pos}
/-! ### a new list becomes a shared one -/
def mkOb : D → M D
  | .lst ds => fun S => .ok (.ob S.length) (S ++ [.ml ds])
  | _ => M.stuck
theorem DE.ob (h : DE N W X .fr e f) : DE N W X .fz e (fun δ => M.bind (f δ) mkOb) := PE.imp h fun σ H Q ⟨g0, H0, g, S, δ, G, r⟩ => by
  refine ⟨g0, H0, g, S, δ, G, ?_⟩
  cases ef : f δ S with
  | stk =>
    have r : Res N W g H _ (M.bind (f δ) mkOb S) := r
    rw [M.bind_stk ef] at r
    exact r
  | err c x S1 =>
    have r : Res N W g H _ (M.bind (f δ) mkOb S) := r
    rw [M.bind_err ef] at r
    exact r
  | ok d S1 =>
    have r : Res N W g H _ (M.bind (f δ) mkOb S) := r
    rw [M.bind_ok ef] at r
    intro g' H' k st v ⟨a, vs, ds, e1, e2, hn, hs, nz, nr, hl, ra⟩
    subst e1 e2
    have q2 : Kq g' H' ⟨g'.Z, g'.ρ ++ [a]⟩ H' := ⟨fun _ h => h, ⟨[a], rfl⟩, fun _ _ _ h => h, fun _ _ h => h, fun _ _ _ h => h⟩
    have k2 : Kp g H ⟨g'.Z, g'.ρ ++ [a]⟩ H' := by
      refine ⟨k.z, ?_, k.zf, fun x hx => ?_, k.kd, k.kz, k.kt, k.kf, k.kr⟩
      · obtain ⟨m, em⟩ := k.r
        exact ⟨m ++ [a], by show g'.ρ ++ [a] = _; rw [em, List.append_assoc]⟩
      · rcases List.mem_append.mp (show x ∈ g'.ρ ++ [a] from hx) with h | h
        · exact k.rf x h
        · rw [List.mem_singleton.mp h]
          exact .inr hn
    have st2 : StOk N.K ⟨g'.Z, g'.ρ ++ [a]⟩ (S1 ++ [.ml ds]) H' := by
      refine ⟨by show (S1 ++ [SO.ml ds]).length = (g'.ρ ++ [a]).length; rw [List.length_append, List.length_append, st.len]; rfl, ?_, fun x hx => ?_, st.zt, fun i x o h1 h2 => ?_⟩
      · show (g'.ρ ++ [a]).Nodup
        rw [List.nodup_append]
        exact ⟨st.nd, by simp, fun x hx y hy => by rw [List.mem_singleton.mp hy]; intro z; exact nr (z ▸ hx)⟩
      · rcases List.mem_append.mp (show x ∈ g'.ρ ++ [a] from hx) with h | h
        · exact st.nz x h
        · rw [List.mem_singleton.mp h]
          exact nz
      · have h1 : (g'.ρ ++ [a])[i]? = some x := h1
        by_cases hi : i < g'.ρ.length
        · rw [List.getElem?_append_left hi] at h1
          rw [List.getElem?_append_left (by rw [st.len]; exact hi)] at h2
          exact (st.at_ i x o h1 h2).keep q2 rfl
        · have hlt := (List.getElem?_eq_some_iff.mp h1).1
          rw [List.length_append, List.length_singleton] at hlt
          have ei : i = g'.ρ.length := by omega
          subst ei
          rw [List.getElem?_append_right (Nat.le_refl _), Nat.sub_self] at h1
          rw [← st.len, List.getElem?_append_right (Nat.le_refl _), Nat.sub_self] at h2
          cases h1
          cases h2
          exact ⟨vs, hs, hl, ra.keepQ q2⟩
    refine r _ H' k2 st2 (.ref a) (.ob ?_)
    show (g'.ρ ++ [a])[S1.length]? = some a
    rw [st.len, List.getElem?_append_right (Nat.le_refl _), Nat.sub_self]
    rfl
/-- a shared list's items change -/
theorem obSet {K : PySem.W.Frag} {n : Nat} {a : Addr} {xs ys : List D} {vs ws : List V} (st : StOk K g S H) (hr : g.ρ[n]? = some a) (hS : S[n]? = some (.ml xs)) (hH : H a = some (.lst vs)) (hl : ws.length ≤ sizeLine) (ra : RpAll K g H ws ys) :
    Kp g H g (upd H a (.lst ws)) ∧ StOk K g (S.set n (.ml ys)) (upd H a (.lst ws)) := by
  have hm : a ∈ g.ρ := List.mem_of_getElem? hr
  have nz := st.nz a hm
  have q := Kq.mut (ys := ws) hH nz
  refine ⟨⟨q.z, q.r, fun _ h => .inl h, fun _ h => .inl h, fun b hb => ?_, q.kz, q.kt, q.kf, fun b o h n => ?_⟩, ⟨by rw [List.length_set]; exact st.len, st.nd, st.nz, fun b z => ?_, fun i b o h1 h2 => ?_⟩⟩
  · by_cases e : b = a
    · rw [e, upd_same] at hb; cases hb
    · rw [upd_ne e] at hb; exact hb
  · rw [upd_ne (show b ≠ a from fun e => n (e ▸ hm))]
    exact h
  · rw [upd_ne (show b ≠ a from fun e => nz (e ▸ z))]
    exact st.zt b z
  · rcases getElem?_set_eq h2 with ⟨e, eo⟩ | ⟨hne, h2⟩
    · subst e eo
      rw [hr] at h1
      cases h1
      exact ⟨ws, upd_same, hl, ra.keepQ q⟩
    · have hba : b ≠ a := fun e => by
        subst e
        exact hne ((List.getElem?_inj (List.getElem?_eq_some_iff.mp h1).1 st.nd).mp (h1.trans hr.symm))
      exact (st.at_ i b o h1 h2).keep q (upd_ne hba)
/-! ### x[i] = v -/
def obW (n : Nat) (ys : List D) : M Unit := fun S => .ok () (S.set n (.ml ys))
theorem ResS.ofOb {D : Ends} {n : Nat} {k : List DL.D → M Fl} (h : ResS N W g0 H0 D (M.bind (obM n) k S)) : ∃ xs, S[n]? = some (.ml xs) ∧ ResS N W g0 H0 D (k xs S) := by
  unfold M.bind obM at h
  cases e : S[n]? with
  | none => rw [e] at h; exact h.elim
  | some o =>
    cases o with
    | ml xs => rw [e] at h; exact ⟨xs, rfl, h⟩
def obPut (x y v : D) : M Unit := match x, y with
  | .ob n, .int k => M.bind (obM n) fun xs => match ixN xs.length k with
      | some j => obW n (xs.set j v)
      | none => M.stuck
  | _, _ => M.stuck
def fPutOb (fe fo fi : Δ → M D) : Δ → M Fl := fun δ => M.bind (fe δ) fun v => M.bind (fo δ) fun x => M.bind (fi δ) fun y => M.bind (obPut x y v) fun _ => M.ret (.nx δ)
theorem ds_putOb {mo mi : Md} {spos : Pos} (he : DE N W X .fz e fe) (ho : DE N W X mo o fo) (hi : DE N W X mi i fi) (hs : swapsWithSole [.Subscript o i p] e spos.line X.env = pure false := by rfl) (hw : swappedStores [.Subscript o i p] e X.env = pure none := by rfl)
    (h1 : (assignEach [.Subscript o i p] X.env).map (·.2) = [assign (.Subscript o i p) X.env] := by rfl)
    (ha : ∀ v, assign (.Subscript o i p) X.env v = (do
      let ov ← holding [v] (eval o X.env)
      let iv ← holding [v, ov] (eval i X.env)
      standAt p
      holding [v, ov, iv] (setItem ov iv v)
      release [v, ov, iv] []) := by intro _; rfl) : DS N W X (.Assign [.Subscript o i p] e spos) (fPutOb fe fo fi) :=
  (ps_asg he (pg_sub ho hi set_list ha) hs hw h1).imp fun D σ H ⟨g0, H0, g, S, δ, G, r⟩ => sE G r fun v S1 vv H1 g1 k1 G1 rv r1 => sE G1 r1 fun x S2 xv H2 g2 k2 G2 rx r2 => sE G2 r2 fun y S3 yv H3 g3 k3 G3 ry r3 => by
    cases x <;> cases y <;> first | exact r3.elim | skip
    rename_i n k
    have rv := Rp.keep k3 (Rp.keep k2 rv)
    have rx := rx.bo.keep k3
    have r3 : ResS N W g0 H0 D (M.bind (M.bind (obM n) fun xs => match ixN xs.length k with
      | some j => obW n (xs.set j v)
      | none => M.stuck) (fun _ => M.ret (.nx δ)) S3) := r3
    rw [M.bind_assoc] at r3
    obtain ⟨xs, eS, r3⟩ := ResS.ofOb r3
    cases ej : ixN xs.length k with
    | none => rw [ej] at r3; exact r3.elim
    | some j =>
      rw [ej] at r3
      obtain ⟨a, vs, e1, hr, hH, hl, ra⟩ := rx.obL G3.st eS
      obtain ⟨kp, st⟩ := obSet G3.st hr eS hH (by rw [List.length_set]; exact hl) (RpAll.set rv j ra)
      exact ⟨a, vs, k, j, e1, ry.bo.int, hH, by rw [ra.length]; exact ej, r3 g3 σ _ (G3.later kp st)⟩
/-! ### x.pop(i) -/
def obPop (x y : D) : M D := match x, y with
  | .ob n, .int k => if 0 ≤ k ∧ k < 4611686018427387904 then M.bind (obM n) fun xs => M.bind (M.opt xs[k.toNat]?) fun d => M.bind (obW n (xs.eraseIdx k.toNat)) fun _ => M.ret d else M.stuck
  | _, _ => M.stuck
def obChk : D → M Unit
  | .ob n => M.bind (obM n) fun _ => M.ret ()
  | _ => M.stuck
def fPop (fo fi : Δ → M D) : Δ → M D := fun δ => M.bind (fo δ) fun x => M.bind (obChk x) fun _ => M.bind (fi δ) fun y => obPop x y
theorem de_pop {mo mi : Md} {apos cpos : Pos} (ho : DE N W X mo o fo) (hi : DE N W X mi i fi)
    (hbase : attributeBase o "pop" X.env (eval o X.env) = eval o X.env := by rfl)
    (hfew : ((backTo cpos (starEach [i] X.env)).all (fun x => !x.1) && (backToKw cpos (keywordEach [] X.env)).all (fun x => x.1.isSome)
      && decide ([i].length + ([] : List Keyword).length + (if ([] : List Keyword).isEmpty then 0 else 1) < 30)) = true := by rfl)
    (hline : (apos.endLine == cpos.line) = true := by rfl) (hs : starEach [i] X.env = (false, eval i X.env) :: starEach [] X.env := by rfl) (hplain : (backTo cpos (starEach [] X.env)).any (·.1) = false := by rfl) :
    DE N W X .fz (.Call (.Attribute o "pop" apos) [i] [] cpos) (fPop fo fi) :=
  (pe_bm PySem.F.plainAttrs_list PySem.F.slot_list_pop PySem.F.type_list_pop mt_popAt ho (pa_cons hi pa_nil hs) hbase hfew hline hs hplain).imp fun σ H Q ⟨g0, H0, g, S, δ, G, q⟩ => tE.seq G q fun x S1 v H1 g1 k1 G1 rx q1 => by
    cases x with
    | ob n =>
      have q1 : Res N W g1 H1 _ (M.bind (M.bind (obM n) fun _ => M.ret ()) (fun _ => M.bind (fi δ) fun y => obPop (.ob n) y) S1) := q1
      rw [M.bind_assoc] at q1
      obtain ⟨xs, eS, q1⟩ := Res.ofOb q1
      obtain ⟨a, vs, e1, hr, hH, hl, ra⟩ := rx.bo.obL G1.st eS
      refine ⟨by subst e1; exact .inl ⟨rfl, vs, .of hH⟩, tE.seq (k := fun y => obPop (.ob n) y) G1 q1 fun y S2 w H2 g2 k2 G2 ry q2 => ?_⟩
      cases y with
      | int k =>
        obtain ⟨⟨h1, h2⟩, q2⟩ := Res.ite (c := 0 ≤ k ∧ k < 4611686018427387904) q2
        obtain ⟨ys, eS2, q2⟩ := Res.ofOb q2
        obtain ⟨b, ws, e2, hr2, hH2, hl2, rb⟩ := (rx.bo.keep k2).obL G2.st eS2
        cases ed : ys[k.toNat]? with
        | none => rw [ed] at q2; exact q2.elim
        | some d =>
          rw [ed] at q2
          obtain ⟨u, hu, ru⟩ := rb.get ed
          have hlt := (List.getElem?_eq_some_iff.mp hu).1
          obtain ⟨kp, st⟩ := obSet G2.st hr2 eS2 hH2 (ws := ws.eraseIdx k.toNat) (Nat.le_trans (List.length_eraseIdx_le ..) hl2) (rb.eraseIdx k.toNat)
          refine ⟨b, ws, k, k.toNat, u, e2, by rw [ry.bo.int], hH2, by omega, by omega, ?_, hu, ?_⟩
          · have hk : (if k < 0 then k + ↑ws.length else k) = k := if_neg (by omega)
            have hc : (decide (0 ≤ k) && decide (k < (ws.length : Int))) = true := by
              rw [decide_eq_true h1, decide_eq_true (by omega)]
              rfl
            show (if (decide (0 ≤ (if k < 0 then k + ↑ws.length else k)) && decide ((if k < 0 then k + ↑ws.length else k) < (ws.length : Int))) = true then some (if k < 0 then k + ↑ws.length else k).toNat else none) = _
            rw [hk, if_pos hc]
          · have q2 : Res N W g2 H2 (fun g' H' d => ∀ v, RpM N.K H .fz g' H' v d → Q v H') (.ok d (S2.set n (.ml (ys.eraseIdx k.toNat)))) := q2
            exact q2 g2 _ kp st u (Rp.keep kp ru)
      | _ => exact q2.elim
    | _ => exact q1.elim
end
end DL

set_option Elab.async false
set_option linter.all false
set_option maxRecDepth 100000
set_option maxHeartbeats 4000000
/-! DL20: list comprehensions with two for. -/
namespace DL
open PySem PySem.Spec PyProof.Rows L2

/-- within the inner for, own lists are not read -/
def dropOwn (δ : Δ) : Δ := δ.map fun o => match o with
  | some (.own _) => none
  | o => o
def lc2M (gg : D → Δ → Option Δ) (ft : Δ → M Bool) (fi1 : Δ → M (List D)) (gg1 : D → Δ → Option Δ) (ft1 : Δ → M Bool) (fe : Δ → M D) (vs1 : List Nat) (δ : Δ) : List D → M (List D)
  | [] => M.ret []
  | d :: ds => match gg d δ with
    | none => M.stuck
    | some δ1 => M.bind (M.quiet (ft δ1)) fun b => if b = true then M.bind (M.quiet (fi1 (dropOwn δ1))) fun es => M.bind (lcM gg1 ft1 fe (wipeD (dropOwn δ1) vs1) es) fun ys => M.bind (lc2M gg ft fi1 gg1 ft1 fe vs1 δ ds) fun zs => M.ret (ys ++ zs) else lc2M gg ft fi1 gg1 ft1 fe vs1 δ ds
def fLc2 (fi : Δ → M (List D)) (gg : D → Δ → Option Δ) (ft : Δ → M Bool) (fi1 : Δ → M (List D)) (gg1 : D → Δ → Option Δ) (ft1 : Δ → M Bool) (fe : Δ → M D) (vs vs1 : List Nat) : Δ → M D := fun δ => M.bind (fi δ) fun ds => M.bind (lc2M gg ft fi1 gg1 ft1 fe vs1 (wipeD δ vs) ds) mkLst
section
variable {N : Nv} {W : XK} {X : Cx} {e a b tg iter tg1 iter1 elt : Expr} {g0 : G0} {g : Gh} {H0 H : Hp} {S : Store} {δ : Δ} {σ : L2.St} {Q : VK} {pos : Pos}
theorem dropOwn_get {δ : Δ} {i : Nat} {s : Slot} (h : (dropOwn δ)[i]? = some (some s)) : δ[i]? = some (some s) ∧ ∀ ds, s ≠ .own ds := by
  unfold dropOwn at h
  rw [List.getElem?_map, Option.map_eq_some_iff] at h
  obtain ⟨o, h1, h2⟩ := h
  cases o with
  | none => cases h2
  | some t =>
    cases t with
    | own es => cases h2
    | d d =>
      cases h2
      exact ⟨h1, fun ds z => nomatch z⟩
theorem Good.dropOwn (G : Good N g0 H0 g S δ σ H) : Good N g0 H0 g S (dropOwn δ) σ H :=
  ⟨fun i s h => G.sl i s (dropOwn_get h).1, by unfold DL.dropOwn; rw [List.length_map]; exact G.len, fun i j xs ys v h _ _ _ => absurd rfl ((dropOwn_get h).2 xs), G.st, G.kp, G.ck⟩
theorem lc2_noErr {gg : D → Δ → Option Δ} {ft : Δ → M Bool} {fi1 : Δ → M (List D)} {gg1 : D → Δ → Option Δ} {ft1 : Δ → M Bool} {fe : Δ → M D} {vs1 : List Nat} {δ : Δ} : ∀ {ds : List D} {S : Store} {c : Str} {x : D} {S1 : Store}, lc2M gg ft fi1 gg1 ft1 fe vs1 δ ds S = .err c x S1 → False
  | [], _, _, _, _, h => by cases h
  | d :: ds, S, c, x, S1, h => by
    unfold lc2M at h
    cases e : gg d δ with
    | none => rw [e] at h; cases h
    | some δ1 =>
      rw [e] at h
      simp only at h
      cases e1 : M.quiet (ft δ1) S with
      | stk => rw [M.bind_stk e1] at h; cases h
      | err c x S2 => exact (quiet_noErr e1).elim
      | ok b S1 =>
        rw [M.bind_ok e1] at h
        cases b with
        | false =>
          rw [if_neg (by decide)] at h
          exact lc2_noErr h
        | true =>
          rw [if_pos rfl] at h
          cases e2 : M.quiet (fi1 (dropOwn δ1)) S1 with
          | stk => rw [M.bind_stk e2] at h; cases h
          | err c x S2 => exact (quiet_noErr e2).elim
          | ok es S2 =>
            rw [M.bind_ok e2] at h
            cases e3 : lcM gg1 ft1 fe (wipeD (dropOwn δ1) vs1) es S2 with
            | stk => rw [M.bind_stk e3] at h; cases h
            | err c x S3 => exact (lc_noErr e3).elim
            | ok ys S3 =>
              rw [M.bind_ok e3] at h
              cases e4 : lc2M gg ft fi1 gg1 ft1 fe vs1 δ ds S3 with
              | stk => rw [M.bind_stk e4] at h; cases h
              | err c x S4 => exact lc2_noErr e4
              | ok zs S4 => rw [M.bind_ok e4] at h; cases h
theorem lc2_turn {gg : D → Δ → Option Δ} {ft : Δ → M Bool} {fi1 : Δ → M (List D)} {gg1 : D → Δ → Option Δ} {ft1 : Δ → M Bool} {fe : Δ → M D} {vs1 : List Nat} {δ : Δ} {d : D} {ds ys : List D} {S Sf : Store} (h : lc2M gg ft fi1 gg1 ft1 fe vs1 δ (d :: ds) S = .ok ys Sf) :
    ∃ δ1 b S1, gg d δ = some δ1 ∧ ft δ1 S = .ok b S1 ∧ ((b = false ∧ lc2M gg ft fi1 gg1 ft1 fe vs1 δ ds S1 = .ok ys Sf) ∨
      (b = true ∧ ∃ es S2 us S3 zs, fi1 (dropOwn δ1) S1 = .ok es S2 ∧ lcM gg1 ft1 fe (wipeD (dropOwn δ1) vs1) es S2 = .ok us S3 ∧ lc2M gg ft fi1 gg1 ft1 fe vs1 δ ds S3 = .ok zs Sf ∧ ys = us ++ zs)) := by
  unfold lc2M at h
  cases e : gg d δ with
  | none => rw [e] at h; cases h
  | some δ1 =>
    rw [e] at h
    simp only at h
    cases e1 : M.quiet (ft δ1) S with
    | stk => rw [M.bind_stk e1] at h; cases h
    | err c x S2 => exact (quiet_noErr e1).elim
    | ok b S1 =>
      rw [M.bind_ok e1] at h
      refine ⟨δ1, b, S1, rfl, quiet_ok e1, ?_⟩
      cases b with
      | false =>
        rw [if_neg (by decide)] at h
        exact .inl ⟨rfl, h⟩
      | true =>
        rw [if_pos rfl] at h
        cases e2 : M.quiet (fi1 (dropOwn δ1)) S1 with
        | stk => rw [M.bind_stk e2] at h; cases h
        | err c x S2 => exact (quiet_noErr e2).elim
        | ok es S2 =>
          rw [M.bind_ok e2] at h
          cases e3 : lcM gg1 ft1 fe (wipeD (dropOwn δ1) vs1) es S2 with
          | stk => rw [M.bind_stk e3] at h; cases h
          | err c x S3 => exact (lc_noErr e3).elim
          | ok us S3 =>
            rw [M.bind_ok e3] at h
            cases e4 : lc2M gg ft fi1 gg1 ft1 fe vs1 δ ds S3 with
            | stk => rw [M.bind_stk e4] at h; cases h
            | err c x S4 => exact (lc2_noErr e4).elim
            | ok zs S4 =>
              rw [M.bind_ok e4] at h
              cases h
              exact .inr ⟨rfl, es, S2, us, S3, zs, quiet_ok e2, e3, e4, rfl⟩
theorem tI_run {fi1 : Δ → M (List D)} {es : List D} {S2 : Store} {R : It → Hp → Prop} (G : Good N g0 H0 g S δ σ H) (e : fi1 δ S = .ok es S2) (h : ∀ g' H', Kp g H g' H' → StOk N.K g' S2 H' → ∀ J, ItOk N g' H' J es → R J H') : tI N W fi1 σ H R :=
  ⟨g0, H0, g, S, δ, G, by rw [e]; exact h⟩
theorem lc2_weak {K : PySem.W.Frag} {fi fi1 : Δ → M (List D)} {is is1 vs vs1 : List Nat} {gg gg1 : D → Δ → Option Δ} {ft ft1 : Δ → M Bool} {fe : Δ → M D} (his : ∀ i ∈ is, i ∈ vs) (his1 : ∀ i ∈ is1, i ∈ vs1) {σ : L2.St} {H : Hp} {Q : VK} (h : tE N W .fr (fLc2 fi gg ft fi1 gg1 ft1 fe vs vs1) σ H Q) :
    tLc2 (tI N W fi) (tG N is gg) (tT N W0 ft) (tI N W0 fi1) (tG N is1 gg1) (tT N W0 ft1) (tE N W0 .fz fe) vs vs1 σ H Q := by
  obtain ⟨g0, H0, g, S, δ, G, q⟩ := h
  exact tI_seq G q fun ds S1 H1 g1 k1 G1 q1 J hJ L hL => by
    have h0 : H0 L = none := G1.kp.kd _ hL
    obtain ⟨nz1, nr1⟩ := G1.st.nz' hL
    have k0 : Kp g1 H1 g1 (upd H1 L (.lst [])) := (Ex.new hL).kp
    cases ef : lc2M gg ft fi1 gg1 ft1 fe vs1 (wipeD δ vs) ds S1 with
    | stk => rw [M.bind_stk ef] at q1; exact q1.elim
    | err c x S2 => exact (lc2_noErr ef).elim
    | ok ys Sf =>
      rw [M.bind_ok ef] at q1
      obtain ⟨hlen, q1⟩ := Res.ite (m := M.ret (D.lst ys)) q1
      have noslot : ∀ (j : Nat) (v : V) (es : List D), δ[j]? = some (some (.own es)) → σ[j]? = some (some v) → v ≠ .ref L := fun j v es hj hv => G1.ownIn hj hv hL
      -- what stands between two turns: the list so far, the rest of the run
      let Mid : Hp → Store → List D → Gh → Prop := fun H S2 da g2 => Good N g0 H0 g2 S2 δ σ H ∧ Kp g1 H1 g2 H ∧ ∃ acc, H L = some (.lst acc) ∧ ¬ g2.Z L ∧ L ∉ g2.ρ ∧ RpAll N.K g2 H acc da
      have later : ∀ {H H' : Hp} {S2 S3 : Store} {da : List D} {g2 g3 : Gh}, Mid H S2 da g2 → Kp g2 H g3 H' → StOk N.K g3 S3 H' → Mid H' S3 da g3 := fun {H H' S2 S3 da g2 g3} ⟨G2, k2, acc, hA, nz, nr, ra⟩ k st => by
        obtain ⟨a5, nz5, nr5⟩ := away k hA nz nr
        exact ⟨G2.later k st, k2.trans k, acc, a5, nz5, nr5, ra.keep k⟩
      let Out : Nat → Hp → Prop := fun i H => ∃ g2 S2 da rs, Mid H S2 da g2 ∧ lc2M gg ft fi1 gg1 ft1 fe vs1 (wipeD δ vs) (ds.drop i) S2 = .ok rs Sf ∧ da ++ rs = ys
      refine ⟨fun i m H => m = ds.length - i ∧ i ≤ ds.length ∧ Out i H, ⟨_, rfl, Nat.zero_le _, g1, S1, [], ys, ⟨G1.later k0 (G1.st.ex (Ex.new hL)), k0, [], upd_same, nz1, nr1, .nil⟩, ef, rfl⟩, ?_⟩
      rintro i m H2 ⟨rfl, hi', g2, S2, da, rs, M2, e2, ed⟩
      by_cases hlt : i < ds.length
      · refine .inr ⟨hJ.go g2 H2 i M2.2.1.q hlt, Out (i + 1), fun H' h => ⟨ds.length - (i + 1), by omega, rfl, hlt, h⟩, fun x H3 hy => ?_⟩
        obtain ⟨g3, ex, rx⟩ := hJ.yld g2 H2 i x H3 ds[i] M2.2.1.q (List.getElem?_eq_getElem hlt) hy
        have M3 := later M2 ex.kp (M2.1.st.ex ex)
        rw [drop_get hlt] at e2
        obtain ⟨δ1, b, S4, eg, et, hb⟩ := lc2_turn e2
        refine ⟨g0, H0, g3, S2, wipeD δ vs, ds[i], δ1, M3.1.wipe vs, rx, eg, fun σ4 G4 off => ⟨wipe_off his off, tT_run G4 et fun g5 H5 k5 st5 => ?_⟩⟩
        have M5 := later M3 k5 st5
        have G5 := G4.later k5 st5
        rcases hb with ⟨rfl, er⟩ | ⟨rfl, es, S6, us, S7, zs, ei, el, er, ez⟩
        · rw [if_neg (by decide)]
          exact ⟨g5, S4, da, rs, M5, er, ed⟩
        · rw [if_pos rfl]
          refine tI_run G5.dropOwn ei fun g6 H6 k6 st6 J1 hJ1 => ?_
          have M6 := later M5 k6 st6
          have G6 := (G5.later k6 st6).dropOwn
          subst ez
          -- the inner loop
          refine ⟨fun j k H => k = es.length - j ∧ j ≤ es.length ∧ ∃ g7 S8 db ts, Mid H S8 db g7 ∧ Good N g0 H0 g7 S8 (dropOwn δ1) σ4 H ∧ Kq g6 H6 g7 H ∧ lcM gg1 ft1 fe (wipeD (dropOwn δ1) vs1) (es.drop j) S8 = .ok ts S7 ∧ db ++ ts ++ zs = ys,
            ⟨_, rfl, Nat.zero_le _, g6, S6, da, us, M6, G6, (Kp.refl _ _).q, el, by rw [List.append_assoc]; exact ed⟩, ?_⟩
          rintro j k H7 ⟨rfl, hj', g7, S8, db, ts, M7, G7, k67, e3, ed3⟩
          by_cases hlt1 : j < es.length
          · refine .inr ⟨hJ1.go g7 H7 j k67 hlt1, fun H' => ∃ g7 S8 db ts, Mid H' S8 db g7 ∧ Good N g0 H0 g7 S8 (dropOwn δ1) σ4 H' ∧ Kq g6 H6 g7 H' ∧ lcM gg1 ft1 fe (wipeD (dropOwn δ1) vs1) (es.drop (j + 1)) S8 = .ok ts S7 ∧ db ++ ts ++ zs = ys,
              fun H' h => ⟨es.length - (j + 1), by omega, rfl, hlt1, h⟩, fun x1 H8 hy1 => ?_⟩
            obtain ⟨g8, ex1, rx1⟩ := hJ1.yld g7 H7 j x1 H8 es[j] k67 (List.getElem?_eq_getElem hlt1) hy1
            have M8 := later M7 ex1.kp (M7.1.st.ex ex1)
            have G8 := G7.later ex1.kp (M7.1.st.ex ex1)
            rw [drop_get hlt1] at e3
            obtain ⟨δ2, b2, S9, eg2, et2, hb2⟩ := lc_turn e3
            refine ⟨g0, H0, g8, S8, wipeD (dropOwn δ1) vs1, es[j], δ2, G8.wipe vs1, rx1, eg2, fun σ9 G9 off9 => ⟨wipe_off his1 off9, tT_run G9 et2 fun ga Ha ka sta => ?_⟩⟩
            have Ma := later M8 ka sta
            have Ga := G8.later ka sta
            rcases hb2 with ⟨rfl, er2⟩ | ⟨rfl, y, Sb, us2, ey, er2, ez2⟩
            · rw [if_neg (by decide)]
              exact ⟨ga, S9, db, ts, Ma, Ga, (k67.trans ex1.kp.q).trans ka.q, er2, ed3⟩
            · rw [if_pos rfl]
              refine tE_run (G9.later ka sta) ey fun gb Hb v kb stb rv => ?_
              have Mb := later Ma kb stb
              have Gb := Ga.later kb stb
              obtain ⟨Gx, kx, acc, hA, nz, nr, ra⟩ := Mb
              subst ez2
              have qm : Kq gb Hb gb (upd Hb L (.lst (acc ++ [v]))) := Kq.mut hA nz
              have hal : acc.length < sizeLine := by
                have := congrArg List.length ed3
                rw [List.length_append, List.length_append, List.length_cons] at this
                rw [ra.length]
                omega
              have noslot2 : ∀ (j : Nat) (v : V) (es : List D), (dropOwn δ1)[j]? = some (some (.own es)) → σ4[j]? = some (some v) → v ≠ .ref L := fun j v es' hj hv => absurd rfl ((dropOwn_get hj).2 es')
              refine ⟨acc, hA, hal, gb, Sb, db ++ [y], us2, ⟨Gx.mutNew hA h0 nz nr noslot, kx.mut hA hL, acc ++ [v], upd_same, nz, nr, (ra.append (.cons rv .nil)).keepQ qm⟩, Gb.mutNew hA h0 nz nr noslot2, (((k67.trans ex1.kp.q).trans ka.q).trans kb.q).trans qm, er2, ?_⟩
              rw [← ed3]
              simp
          · have e : j = es.length := by omega
            subst e
            rw [List.drop_length] at e3
            cases e3
            rw [List.append_nil] at ed3
            exact .inl ⟨hJ1.stop g7 H7 _ k67 rfl, g7, S7, db, zs, M7, er, ed3⟩
      · have e : i = ds.length := by omega
        subst e
        rw [List.drop_length] at e2
        cases e2
        rw [List.append_nil] at ed
        subst ed
        obtain ⟨G2, k2, acc, hA, nz, nr, ra⟩ := M2
        exact .inl ⟨hJ.stop g2 H2 _ k2.q rfl, q1 g2 H2 k2 G2.st _ ⟨L, acc, da, rfl, rfl, k1.kd _ hL, hA, nz, nr, by rw [ra.length]; exact hlen, ra⟩⟩
theorem de_lc2 {ifs ifs1 : List Expr} {scope : Scope} {own : List (Str × Nat)} {vs1 : List Nat} {fi fi1 : Δ → M (List D)} {is is1 : List Nat} {gg gg1 : D → Δ → Option Δ} {ft ft1 : Δ → M Bool} {fe : Δ → M D} (hc : X.calm = true) (hN : X.N.Nodup) (hi : DI N W X tg iter fi) (ok : BlkOk X.N X.env.scope scope own) (hv : ∀ i ∈ vs1, i ∈ own.map (·.2) := by decide)
    (hg : ∀ (s : Shared) (H : Hp) (C : Addr) (cl : List (Str × Addr)) (fp : List Addr), DG N (X.blk s H scope (compEnvC scope cl C X.env) fp) tg is gg)
    (ht : ∀ (s : Shared) (H : Hp) (C : Addr) (cl : List (Str × Addr)) (fp : List Addr), DTs N W0 (X.blk s H scope (compEnvC scope cl C X.env) fp) ifs ft)
    (hi1 : ∀ (s : Shared) (H : Hp) (C : Addr) (cl : List (Str × Addr)) (fp : List Addr), DI N W0 (X.blk s H scope (compEnvC scope cl C X.env) fp) tg1 iter1 fi1)
    (hg1 : ∀ (s : Shared) (H : Hp) (C : Addr) (cl : List (Str × Addr)) (fp : List Addr), DG N (X.blk s H scope (compEnvC scope cl C X.env) fp) tg1 is1 gg1)
    (ht1 : ∀ (s : Shared) (H : Hp) (C : Addr) (cl : List (Str × Addr)) (fp : List Addr), DTs N W0 (X.blk s H scope (compEnvC scope cl C X.env) fp) ifs1 ft1)
    (he : ∀ (s : Shared) (H : Hp) (C : Addr) (cl : List (Str × Addr)) (fp : List Addr), DE N W0 (X.blk s H scope (compEnvC scope cl C X.env) fp) .fz elt fe)
    (his : ∀ i ∈ is, i ∈ own.map (·.2) := by decide) (his1 : ∀ i ∈ is1, i ∈ vs1 := by decide) (hs : ∀ x, foldedSetIterable iter X.env x = pure x := by intro _; rfl) (hs1 : ∀ env x, foldedSetIterable iter1 env x = pure x := by intro _ _; rfl) :
    DE N W X .fr (.ListComp elt [⟨tg, iter, ifs, 0⟩, ⟨tg1, iter1, ifs1, 0⟩] scope pos) (fLc2 fi gg ft fi1 gg1 ft1 fe (own.map (·.2)) vs1) :=
  (pe_lc2 hc hN hi ok hv hg ht hi1 hg1 ht1 he hs hs1).imp fun σ H Q h => lc2_weak (K := N.K) his his1 h
end
end DL

set_option Elab.async false
set_option linter.all false
set_option maxRecDepth 100000
set_option maxHeartbeats 4000000
/-! DL21: what the printed texts use: names of the top, is True, defs of the top, recursion. -/
namespace DL
open PySem PySem.Spec PyProof.Rows L2
section
variable {N : Nv} {W : XK} {X : Cx} {md : Md} {e a b : Expr} {es : List Expr} {f fa fb : Δ → M D} {pos p : Pos}
theorem de_gintE {x : Str} {i : Int} (hg : Gl X x) (hm : ∃ t, X.mg x = some (.int i t)) (hd : (x == ("__debug__" : Str)) = false := by decide) : DE N W X .fz (.Name x pos) (fun _ => M.ret (.int i)) := hm.elim fun _ h => de_gint hg h hd
theorem de_gstrE {x i : Str} (hg : Gl X x) (hm : ∃ t, X.mg x = some (.str i t)) (hd : (x == ("__debug__" : Str)) = false := by decide) : DE N W X .fz (.Name x pos) (fun _ => M.ret (.str i)) := hm.elim fun _ h => de_gstr hg h hd
/-! ### is True -/
def dIs2 : D → D → M D
  | .bl a, .bl b => M.ret (.bl (decide (a = b)))
  | _, _ => M.stuck
def dNot2 : D → D → M D
  | .bl a, .bl b => M.ret (.bl (!decide (a = b)))
  | _, _ => M.stuck
theorem opD_is2 : OpD N W .fz rIsB dIs2 := fun x y v w g H S Q st rv rw q => by
  cases x <;> cases y <;> first | exact q.elim | skip
  exact ⟨_, _, rv.bl, rw.bl, q.now st _ (.bl _)⟩
theorem opD_not2 : OpD N W .fz rNotB dNot2 := fun x y v w g H S Q st rv rw q => by
  cases x <;> cases y <;> first | exact q.elim | skip
  exact ⟨_, _, rv.bl, rw.bl, q.now st _ (.bl _)⟩
theorem de_isB {ma mb : Md} (ha : DE N W X ma a fa) (hb : DE N W X mb b fb) (hm : behindInMarks .Is b = false := by rfl) : DE N W X .fz (.Compare a [.Is] [b] pos) (f2 dIs2 fa fb) := de_cmp op_isBl opD_is2 ha hb hm
theorem de_isNB {ma mb : Md} (ha : DE N W X ma a fa) (hb : DE N W X mb b fb) (hm : behindInMarks .IsNot b = false := by rfl) : DE N W X .fz (.Compare a [.IsNot] [b] pos) (f2 dNot2 fa fb) := de_cmp op_notBl opD_not2 ha hb hm
theorem dt_isB {ma mb : Md} (ha : DE N W X ma a fa) (hb : DE N W X mb b fb) (hm : behindInMarks .Is b = false := by rfl) : DT N W X (.Compare a [.Is] [b] pos) (tV (f2 dIs2 fa fb)) := dt_cmp op_isBl opD_is2 ha hb hm
theorem dt_isNB {ma mb : Md} (ha : DE N W X ma a fa) (hb : DE N W X mb b fb) (hm : behindInMarks .IsNot b = false := by rfl) : DT N W X (.Compare a [.IsNot] [b] pos) (tV (f2 dNot2 fa fb)) := dt_cmp op_notBl opD_not2 ha hb hm
theorem dt_notIn {ma mb : Md} (hu : X.A.units + 65 < cLine) (ha : DE N W X ma a fa) (hb : DE N W X mb b fb) (hm : behindInMarks .NotIn b = false := by rfl) (hK : N.K = X.K := by rfl) : DT N W X (.Compare a [.NotIn] [b] pos) (tV (f2 dNotIn fa fb)) :=
  dt_cmp (OpR.or (op_notInD hu) (op_notInT hu)) (OpD.or (fun _ y => y.isLst) (fun x y v w g H S Q c st rv rw q => by
    cases y <;> first | exact q.elim | cases c | skip
    rename_i ds
    obtain ⟨h, q⟩ := Res.ite q
    rw [Bool.and_eq_true] at h
    have r2 := rw.dp h.2
    have s2 := D.shaped h.2
    unfold D.py at r2 s2
    refine ⟨x.py, D.pys ds, hK ▸ rv.dp h.1, hK ▸ r2, x.shaped h.1, s2, ?_⟩
    rw [any_pys]
    exact q.now st _ (.bl _)) fun x y v w g H S Q c st rv rw q => by
    cases y <;> first | exact q.elim | cases c | skip
    rename_i ds
    obtain ⟨h, q⟩ := Res.ite q
    rw [Bool.and_eq_true] at h
    have r2 := rw.dp h.2
    have s2 := D.shaped h.2
    unfold D.py at r2 s2
    refine ⟨x.py, D.pys ds, hK ▸ rv.dp h.1, hK ▸ r2, x.shaped h.1, s2, ?_⟩
    rw [any_pys]
    exact q.now st _ (.bl _)) ha hb hm
end
/-! ### name = [.. for .. for ..] on one line -/
section
variable {N : Nv} {W : XK} {X : Cx} {e a b tg iter tg1 iter1 elt : Expr} {pos p : Pos}
theorem ds_setLc2 {i : Nat} {y : Str} {py spos : Pos} {ifs ifs1 : List Expr} {scope : Scope} {own : List (Str × Nat)} {vs1 : List Nat} {fi fi1 : Δ → M (List D)} {is is1 : List Nat} {gg gg1 : D → Δ → Option Δ} {ft ft1 : Δ → M Bool} {fe : Δ → M D} (hc : X.calm = true) (hN : X.N.Nodup) (hy : X.N[i]? = some y) (hyl : X.env.scope.names.lookup y = some .local)
    (hsw : swapsWith (.ListComp elt [⟨tg, iter, ifs, 0⟩, ⟨tg1, iter1, ifs1, 0⟩] scope pos) (some (.Name y py)) spos.line X.env = pure true) (hi : DI N W X tg iter fi) (ok : BlkOk X.N X.env.scope scope own) (hv : ∀ i ∈ vs1, i ∈ own.map (·.2) := by decide)
    (hg : ∀ (s : Shared) (H : Hp) (C : Addr) (cl : List (Str × Addr)) (fp : List Addr), DG N (X.blk s H scope (compEnvC scope cl C X.env) fp) tg is gg)
    (ht : ∀ (s : Shared) (H : Hp) (C : Addr) (cl : List (Str × Addr)) (fp : List Addr), DTs N W0 (X.blk s H scope (compEnvC scope cl C X.env) fp) ifs ft)
    (hi1 : ∀ (s : Shared) (H : Hp) (C : Addr) (cl : List (Str × Addr)) (fp : List Addr), DI N W0 (X.blk s H scope (compEnvC scope cl C X.env) fp) tg1 iter1 fi1)
    (hg1 : ∀ (s : Shared) (H : Hp) (C : Addr) (cl : List (Str × Addr)) (fp : List Addr), DG N (X.blk s H scope (compEnvC scope cl C X.env) fp) tg1 is1 gg1)
    (ht1 : ∀ (s : Shared) (H : Hp) (C : Addr) (cl : List (Str × Addr)) (fp : List Addr), DTs N W0 (X.blk s H scope (compEnvC scope cl C X.env) fp) ifs1 ft1)
    (he : ∀ (s : Shared) (H : Hp) (C : Addr) (cl : List (Str × Addr)) (fp : List Addr), DE N W0 (X.blk s H scope (compEnvC scope cl C X.env) fp) .fz elt fe)
    (his : ∀ i ∈ is, i ∈ own.map (·.2) := by decide) (his1 : ∀ i ∈ is1, i ∈ vs1 := by decide) (hs : ∀ x, foldedSetIterable iter X.env x = pure x := by intro _; rfl) (hs1 : ∀ env x, foldedSetIterable iter1 env x = pure x := by intro _ _; rfl) :
    DS N W X (.Assign [.Name y py] (.ListComp elt [⟨tg, iter, ifs, 0⟩, ⟨tg1, iter1, ifs1, 0⟩] scope pos) spos) (fSet i (fLc2 fi gg ft fi1 gg1 ft1 fe (own.map (·.2)) vs1)) :=
  (ps_setLc2 hc hN hy hyl hsw hi ok hv hg ht hi1 hg1 ht1 he hs hs1).imp fun D σ H ⟨g0, H0, g, S, δ, G, r⟩ => lc2_weak (K := N.K) his his1 (by
    have q : tE N W .fr (fLc2 fi gg ft fi1 gg1 ft1 fe (own.map (·.2)) vs1) σ H fun v H1 => D.nx (σ.set i (some v)) H1 := sE G r fun x S1 v H1 g1 k1 G1 rv r1 => by
      obtain ⟨a, vs, ds, e1, e2, hn, h1, nz, nr, hl, ra⟩ := rv
      subst e1 e2
      have h0 := G.kp.kd a hn
      have G2 := G1.setOwn (i := i) h0 (fun j w es hj hv => G.ownIn hj hv hn) h1 nz nr hl ra
      by_cases hlt : i < δ.length
      · obtain ⟨g', G3⟩ := G2.freeze (i := i) (ds := ds) (List.getElem?_set_self hlt)
        rw [List.set_set] at G3
        exact r1 g' _ H1 G3
      · have e1 : δ.set i (some (.own ds)) = δ := List.set_eq_of_length_le (by omega)
        have e2 : δ.set i (some (.d (.lst ds))) = δ := List.set_eq_of_length_le (by omega)
        rw [e1] at G2
        refine r1 g1 _ H1 ?_
        rw [e2]
        exact G2
    exact q)
end
/-! ### a def of the top -/
structure TopFn (K : PySem.W.Frag) (mg : Str → Option Value) (x : Str) (st : Stmt) where
  a : Addr
  fd : FuncData
  g : mg x = some (.ref a)
  F : Fun K x x st a fd
section
variable {P : Program} {w : World} {K : PySem.W.Frag} {mg : Str → Option Value} {base : Heap}
def fI (f : Δ → M D) : Δ → M (Option Int) := fun δ => M.bind (f δ) D.toI
/-- an own list is read from here on as frozen data -/
def fFz (i : Nat) (F : Δ → M Fl) : Δ → M Fl := fun δ => F (fzS i δ)
theorem fn_stk {N : Nv} {k n : Nat} {f : Addr} {fd : FuncData} {ps : List Str} (hn : ps.length = n) : FnG P w K mg base CX0 k f fd ps (spD N n fun _ => M.stuck) :=
  ⟨fun vs H Q E ⟨g, S, ds, hl, ra, st, r⟩ => r.elim, fun A outer s H args us vs Q E hr e0 hb r ⟨g, S, ds, hl, ra, st, q⟩ => q.elim⟩
/-- keywords: h is «fun _ _ _ _ _ _ ws hl => match ws, hl with | [_, _], _ => rfl» -/
theorem _root_.L2.Fun.kws {x qual : Str} {st : Stmt} {f : Addr} {fd : FuncData} {ps ks : List Str} {is : List Nat} (F : Fun K x qual st f fd)
    (h : ∀ (kV doc pm : Value) (an : Option Addr) (cdv ct : Value) (ws : List Value), ws.length = ks.length → bindArgs (PySem.W.fnOf x qual (defArgs st) (defBody st) (defScope st) .none kV doc pm an cdv ct) ⟨[], ks.zip ws⟩ = pure (ps.zip (pick is ws))) :
    ∀ (s : Shared) (ws : List Value), ws.length = ks.length → BindsTo s fd ⟨[], ks.zip ws⟩ (ps.zip (pick is ws)) := by
  obtain ⟨oc, od, kV, doc, pm, an, cdv, ct, osl, rfl, lk, hcd⟩ := F.ex
  exact fun s ws hl => .of_eq (h kV doc pm an cdv ct ws hl)
theorem heldG {N : Nv} {k n : Nat} {f : Addr} {fd : FuncData} {ps : List Str} {m : List D → M D} (F : FnG P w K mg base CX0 k f fd ps (spD N n m)) (hk : PySem.W.keepIn K (.ref f) = true) (hb : Binds K fd ps []) : HeldG P w K mg base k f (spD N n m) := ⟨⟨fd, ps, F, hk, hb⟩⟩
end
end DL

set_option Elab.async false
set_option linter.all false
set_option maxRecDepth 100000
set_option maxHeartbeats 4000000
/-! DL22: the end: the law's def by data, at any script. -/
namespace DL
open PySem PySem.Spec PyProof.Rows L2
/-- a def of the top by what the heap holds -/
def topFn_mk {K : PySem.W.Frag} {mg : Str → Option Value} {h : Heap} {x : Str} {st : Stmt} {f : Addr} {oc : Value} {od an : Option Addr} {osl : Array (Option Value)} {kV doc pm cdv ct : Value} (X : K.In h) (G : h.Ns mainGlobals mg) (a : PySem.W.nsIn K mainGlobals x = some (some (.ref f)))
    (l : K.lookup f = some ⟨oc, od, .func (PySem.W.fnOf x x (defArgs st) (defBody st) (defScope st) .none kV doc pm an cdv ct), osl⟩) (c : PySem.W.codeIn K cdv x = true) (k : PySem.W.keepIn K (.ref f) = true) : TopFn K mg x st :=
  ⟨f, _, PySem.W.mg_of X G a, fun_mk l c k⟩
theorem topNone {K : PySem.W.Frag} {mg : Str → Option Value} {h : Heap} {x : Str} (X : K.In h) (G : h.Ns mainGlobals mg) (z : PySem.W.nsIn K mainGlobals x = some none) : mg x = none := PySem.W.mg_none_of X G z
theorem topInt {K : PySem.W.Frag} {mg : Str → Option Value} {h : Heap} {x : Str} {i : Int} {t : Tok} (X : K.In h) (G : h.Ns mainGlobals mg) (z : PySem.W.nsIn K mainGlobals x = some (some (.int i t))) : ∃ t, mg x = some (.int i t) := ⟨t, PySem.W.mg_of X G z⟩
theorem topStr {K : PySem.W.Frag} {mg : Str → Option Value} {h : Heap} {x i : Str} {t : Tok} (X : K.In h) (G : h.Ns mainGlobals mg) (z : PySem.W.nsIn K mainGlobals x = some (some (.str i t))) : ∃ t, mg x = some (.str i t) := ⟨t, PySem.W.mg_of X G z⟩
/-- what the end asks of the law's def -/
def spScr (K : PySem.W.Frag) : Sp := fun vs H Q _ => ∃ (a : Addr) (ns : List Int), vs = [.ref a] ∧ ScrAt K H a (ns.map V.int) ∧ ns.length ≤ 63 ∧ ∀ v H', v = .bl true → Q v H'
theorem scrAt {K : PySem.W.Frag} {H : Hp} {a : Addr} {vs : List V} (hO : Only H) (hS : SqL K H a vs) : ScrAt K H a vs := by
  rcases hS with (h | h) | h
  · rcases hO a with e | ⟨o, xs, e⟩
    · rw [e] at h; cases h
    · rw [e] at h; cases h
  · exact .inl h
  · exact .inr fun H' => .inr h
theorem spScr_spD {K : PySem.W.Frag} {ρ : Nv} (hK : ρ.K = K) {m : List D → M D} (hm : ∀ ns : List Int, ns.length ≤ 63 → ∃ S', m [.scr ns] [] = .ok (.bl true) S') : ∀ vs H Q E, spScr K vs H Q E → spD ρ 1 m vs H Q E := by
  rintro vs H Q E ⟨a, ns, rfl, hS, hl, q⟩
  obtain ⟨S', e⟩ := hm ns hl
  refine ⟨⟨fun _ => False, []⟩, [], [.scr ns], rfl, .cons (.scr (hK ▸ hS) (Nat.le_trans hl (by decide))) .nil, ⟨rfl, List.nodup_nil, fun a h => absurd h (by simp), fun a h => h.elim, fun i a o h => by simp at h⟩, ?_⟩
  rw [e]
  intro g' H' k st v rv
  cases rv
  exact q _ _ rfl
section
variable {P : Program} {w : World} {K : PySem.W.Frag} {mg : Str → Option Value} {base : Heap}
theorem _root_.L2.FnG.weak {k : Nat} {f : Addr} {fd : FuncData} {ps : List Str} {sp sp' : Sp} (F : FnG P w K mg base CX0 k f fd ps sp) (h : ∀ vs H Q E, sp' vs H Q E → sp vs H Q E) : FnG P w K mg base CX0 k f fd ps sp' :=
  ⟨fun vs H Q E q => F.len vs H Q E (h _ _ _ _ q), fun A outer s H args us vs Q E hr e0 hb r q => F.run A outer s H args us vs Q E hr e0 hb r (h _ _ _ _ q)⟩
/-- how the law's one argument binds: h is «fun _ _ _ _ _ _ _ => rfl» -/
theorem _root_.L2.Fun.bind1 {x qual y : Str} {st : Stmt} {f : Addr} {fd : FuncData} (F : Fun K x qual st f fd)
    (h : ∀ (kV doc pm : Value) (an : Option Addr) (cdv ct : Value) (u : Value), bindArgs (PySem.W.fnOf x qual (defArgs st) (defBody st) (defScope st) .none kV doc pm an cdv ct) ⟨[u], []⟩ = pure [(y, u)]) : ∀ (s : Shared) (u : Value), BindsTo s fd ⟨[u], []⟩ [(y, u)] := by
  obtain ⟨oc, od, kV, doc, pm, an, cdv, ct, osl, rfl, lk, hcd⟩ := F.ex
  exact fun s u => .of_eq (h kV doc pm an cdv ct u)
theorem law_end {st : Stmt} {k : Nat} {y : Str} {ρ : Nv} {m : List D → M D} {fa : Addr} (T : TopFn K mg "law" st) (hfa : mg "law" = some (.ref fa)) (hb : ∀ (s : Shared) (u : Value), BindsTo s T.fd ⟨[u], []⟩ [(y, u)])
    (F : ∀ base : Heap, FnG P w K mg base CX0 k T.a T.fd [y] (spD ρ 1 m)) (hK : ρ.K = K) (hm : ∀ ns : List Int, ns.length ≤ 63 → ∃ S', m [.scr ns] [] = .ok (.bl true) S') :
    ∃ fd : FuncData, (∀ (s : Shared) (u : Value), BindsTo s fd ⟨[u], []⟩ [(y, u)]) ∧ ∀ base : Heap, K.In base → base.Ns mainGlobals mg → FnG P w K mg base CX0 k fa fd [y] (spScr K) := by
  have e := hfa.symm.trans T.g
  cases e
  exact ⟨T.fd, hb, fun base _ _ => (F base).weak (spScr_spD hK hm)⟩
end
end DL

set_option Elab.async false
set_option linter.all false
set_option maxRecDepth 100000
set_option maxHeartbeats 4000000
/-! DL23: sorted that computes: an insertion sort where all stand strictly apart. -/
namespace DL
open PySem PySem.Spec PyProof.Rows L2 PySem.W PySem.SeqAt
section
variable {α : Type}
def ins (le : α → α → Bool) (x : α) : List α → List α
  | [] => [x]
  | y :: ys => match le x y with
    | true => x :: y :: ys
    | false => y :: ins le x ys
def isort (le : α → α → Bool) : List α → List α
  | [] => []
  | x :: xs => ins le x (isort le xs)
def chk (le : α → α → Bool) : List α → Bool
  | [] => true
  | a :: r => le a a && (r.all (fun b => le a b && !le b a) && chk le r)
theorem ins_perm (le : α → α → Bool) (x : α) : ∀ ys : List α, (ins le x ys).Perm (x :: ys)
  | [] => .refl _
  | y :: ys => by
    unfold ins
    cases le x y with
    | true => exact .refl _
    | false => exact ((ins_perm le x ys).cons y).trans (.swap x y ys)
theorem isort_perm (le : α → α → Bool) : ∀ xs : List α, (isort le xs).Perm xs
  | [] => .refl _
  | x :: xs => (ins_perm le x _).trans ((isort_perm le xs).cons x)
theorem perm_map {β : Type} (f : β → α) {xs ys : List α} (h : xs.Perm ys) : ∀ l : List β, ys = l.map f → ∃ l' : List β, xs = l'.map f ∧ l'.Perm l := by
  induction h with
  | nil => exact fun l e => ⟨l, e, .refl _⟩
  | cons x _ ih =>
    intro l e
    cases l with
    | nil => cases e
    | cons b l =>
      rw [List.map_cons] at e
      injection e with e1 e2
      obtain ⟨l', h1, h2⟩ := ih l e2
      exact ⟨b :: l', by rw [List.map_cons, h1, e1], h2.cons b⟩
  | swap x y l0 =>
    intro l e
    match l, e with
    | b :: c :: l, e =>
      rw [List.map_cons, List.map_cons] at e
      injection e with e1 e2
      injection e2 with e2 e3
      exact ⟨c :: b :: l, by rw [List.map_cons, List.map_cons, e1, e2, e3], .swap b c l⟩
  | trans _ _ ih1 ih2 =>
    intro l e
    obtain ⟨l1, e1, p1⟩ := ih2 l e
    obtain ⟨l2, e2, p2⟩ := ih1 l1 e1
    exact ⟨l2, e2, p2.trans p1⟩
theorem chk_at {le : α → α → Bool} : ∀ {r : List α}, chk le r = true → ∀ (i j : Nat) (hi : i < r.length) (hj : j < r.length), le (r[i]'hi) (r[j]'hj) = decide (i ≤ j)
  | [], _, i, _, hi, _ => absurd hi (by simp)
  | a :: r, h, i, j, hi, hj => by
    unfold chk at h
    rw [Bool.and_eq_true, Bool.and_eq_true, List.all_eq_true] at h
    obtain ⟨h1, h2, h3⟩ := h
    cases i with
    | zero =>
      cases j with
      | zero => simpa using h1
      | succ j =>
        have hj' : j < r.length := by simpa using hj
        have := h2 (r[j]'hj') (List.getElem_mem _)
        rw [Bool.and_eq_true] at this
        simpa using this.1
    | succ i =>
      cases j with
      | zero =>
        have hi' : i < r.length := by simpa using hi
        have := h2 (r[i]'hi') (List.getElem_mem _)
        rw [Bool.and_eq_true] at this
        simpa using this.2
      | succ j => simpa using chk_at h3 i j (by simpa using hi) (by simpa using hj)
theorem sort_range {l : List Nat} {n : Nat} (h : l.Perm (List.range n)) : l.mergeSort (fun a b => decide (a ≤ b)) = List.range n := by
  have p1 : (l.mergeSort (fun a b => decide (a ≤ b))).Perm (List.range n) := (List.mergeSort_perm _ _).trans h
  refine List.Perm.eq_of_pairwise (le := fun a b : Nat => a ≤ b) (fun a b _ _ h1 h2 => Nat.le_antisymm h1 h2) ?_ ?_ p1
  · have := List.pairwise_mergeSort (le := fun a b : Nat => decide (a ≤ b)) (fun a b c h1 h2 => by simp at *; omega) (fun a b => by simp; omega) l
    exact this.imp fun h => of_decide_eq_true h
  · exact List.pairwise_lt_range.imp fun h => Nat.le_of_lt h
theorem isort_eq {le : α → α → Bool} {xs : List α} (h : chk le (isort le xs) = true) : xs.mergeSort le = isort le xs := by
  cases xs with
  | nil => exact List.mergeSort_nil
  | cons x0 xs0 =>
    let r := isort le (x0 :: xs0)
    have er : (List.range r.length).map (fun i => r.getD i x0) = r := by
      apply List.ext_getElem
      · simp
      · intro i h1 h2
        simp [List.getD_eq_getElem?_getD, h2]
    obtain ⟨l, e, p⟩ := perm_map (fun i => r.getD i x0) ((isort_perm le (x0 :: xs0)).symm) (List.range r.length) er.symm
    rw [e, ← List.map_mergeSort (r := fun a b => decide (a ≤ b)) (s := le) (f := fun i => r.getD i x0) (fun a ha b hb => ?_), sort_range p, er]
    · show r = isort le (l.map _)
      rw [← e]
    · have ha : a < r.length := List.mem_range.mp (p.mem_iff.mp ha)
      have hb : b < r.length := List.mem_range.mp (p.mem_iff.mp hb)
      simp only [List.getD_eq_getElem?_getD, List.getElem?_eq_getElem ha, List.getElem?_eq_getElem hb, Option.getD_some]
      exact (chk_at h a b ha hb).symm
end
/-- sorted, by an insertion sort where it is the same -/
def dSortI (x : D) : M D := match x.items with
  | some ds => match srtOk ds && chk (dataLe false D.py) (isort (dataLe false D.py) ds) with
    | true => M.ret (.lst (isort (dataLe false D.py) ds))
    | false => dSort x
  | none => M.stuck
theorem dSortI_eq : dSortI = dSort := by
  funext x
  unfold dSortI
  cases e : x.items with
  | none =>
    unfold dSort dSortB
    rw [e]
  | some ds =>
    cases h : srtOk ds && chk (dataLe false D.py) (isort (dataLe false D.py) ds) with
    | false => simp only [h]
    | true =>
      simp only [h]
      rw [Bool.and_eq_true] at h
      unfold dSort dSortB
      simp only [e]
      rw [if_pos h.1, isort_eq h.2]
theorem de_sortedI {N : Nv} {W : XK} {X : Cx} {a : Expr} {fa : Δ → M D} {p pos : Pos} {x : Str} {ma : Md} (hu : X.A.units + 65 < cLine) (hg : Gl X x) (hm : X.mg x = none) (hv : bootBuiltins x = some (.builtin "sorted")) (ha : DE N W X ma a fa)
    (hn : x ≠ "__name__" := by decide) (hdb : (x == ("__debug__" : Str)) = false := by decide) (he : starEach [a] X.env = (false, eval a X.env) :: starEach [] X.env := by rfl) (hpl : (backTo pos (starEach [] X.env)).any (·.1) = false := by rfl) (hK : N.K = X.K := by rfl) : DE N W X .fr (.Call (.Name x p) [a] [] pos) (f1 dSortI fa) := by
  rw [dSortI_eq]
  exact de_sorted hu hg hm hv ha hn hdb he hpl hK
end DL

set_option Elab.async false
set_option linter.all false
set_option maxRecDepth 100000
set_option maxHeartbeats 4000000
/-! DL24: what meanings give: loops and comprehensions that are settled, runs that change the store. -/
namespace DL
open PySem PySem.Spec PyProof.Rows L2 PySem.W PySem.SeqAt
/-- a row of ints as a tuple -/
def tuI (xs : List Int) : D := .tup (xs.map D.int)
theorem M.quiet_ret {α : Type} (a : α) : M.quiet (M.ret a) = M.ret a := rfl
theorem lcM_map {α : Type} {gg : D → Δ → Option Δ} {ft : Δ → M Bool} {fe : Δ → M D} {δ : Δ} {emb : α → D} {p : α → Bool} {f : α → D} : ∀ {xs : List α}, (∀ x ∈ xs, ∃ δ', gg (emb x) δ = some δ' ∧ ft δ' = M.ret (p x) ∧ (p x = true → fe δ' = M.ret (f x))) →
    lcM gg ft fe δ (xs.map emb) = M.ret ((xs.filter p).map f)
  | [], _ => rfl
  | x :: xs, h => by
    obtain ⟨δ', h1, h2, h3⟩ := h x (List.mem_cons_self)
    have ih := lcM_map (xs := xs) fun y hy => h y (List.mem_cons_of_mem _ hy)
    rw [List.map_cons]
    unfold lcM
    simp only [h1, h2, M.quiet_ret, M.ret_bind]
    cases hp : p x with
    | true =>
      rw [if_pos rfl, h3 hp, ih, List.filter_cons_of_pos hp]
      rfl
    | false =>
      rw [if_neg (by decide), ih, List.filter_cons_of_neg (by rw [hp]; decide)]
/-- a loop that is settled turn by turn: R holds between what is meant and the names -/
theorem loopM_inv {α β : Type} {gg : D → Δ → Option Δ} {F : Δ → M Fl} {emb : α → D} (R : β → Δ → Prop) (st : β → α → β) : ∀ {xs : List α} {b : β} {δ : Δ}, (∀ x ∈ xs, ∀ b δ, R b δ → ∃ δ1 δ2, gg (emb x) δ = some δ1 ∧ F δ1 = M.ret (.nx δ2) ∧ R (st b x) δ2) → R b δ →
    ∃ δ', loopM gg F (xs.map emb) δ = M.ret (.nx δ') ∧ R (xs.foldl st b) δ'
  | [], b, δ, _, r => ⟨δ, rfl, r⟩
  | x :: xs, b, δ, h, r => by
    obtain ⟨δ1, δ2, h1, h2, r2⟩ := h x (List.mem_cons_self) b δ r
    obtain ⟨δ', e, r'⟩ := loopM_inv R st (fun y hy => h y (List.mem_cons_of_mem _ hy)) r2
    refine ⟨δ', ?_, r'⟩
    rw [List.map_cons]
    unfold loopM
    simp only [h1, h2, M.ret_bind]
    exact e
/-- the same, by the turns that are done -/
theorem loopM_pre {α : Type} {gg : D → Δ → Option Δ} {F : Δ → M Fl} {emb : α → D} (R : List α → Δ → Prop) : ∀ (xs pre : List α) {δ : Δ}, (∀ p x q δ, pre ++ xs = p ++ x :: q → R p δ → ∃ δ1 δ2, gg (emb x) δ = some δ1 ∧ F δ1 = M.ret (.nx δ2) ∧ R (p ++ [x]) δ2) → R pre δ →
    ∃ δ', loopM gg F (xs.map emb) δ = M.ret (.nx δ') ∧ R (pre ++ xs) δ'
  | [], pre, δ, _, r => ⟨δ, rfl, by rw [List.append_nil]; exact r⟩
  | x :: xs, pre, δ, h, r => by
    obtain ⟨δ1, δ2, h1, h2, r2⟩ := h pre x xs δ rfl r
    obtain ⟨δ', e, r'⟩ := loopM_pre R xs (pre ++ [x]) (fun p y q δ e => h p y q δ (by rw [← e, List.append_assoc]; rfl)) r2
    refine ⟨δ', ?_, by rw [List.append_assoc] at r'; exact r'⟩
    rw [List.map_cons]
    unfold loopM
    simp only [h1, h2, M.ret_bind]
    exact e
/-! ### runs that change the store -/
/-- it ends well, and so -/
def Okw {α : Type} (m : M α) (S : Store) (Q : α → Store → Prop) : Prop := ∃ a S', m S = .ok a S' ∧ Q a S'
section
variable {α β : Type} {m : M α} {k : α → M β} {S : Store} {Q : α → Store → Prop} {R : β → Store → Prop}
theorem Okw.ret {a : α} (h : Q a S) : Okw (M.ret a) S Q := ⟨a, S, rfl, h⟩
theorem Okw.bind (h : Okw m S fun a S1 => Okw (k a) S1 R) : Okw (M.bind m k) S R := by
  obtain ⟨a, S1, e, b, S2, e2, r⟩ := h
  exact ⟨b, S2, by rw [M.bind_ok e]; exact e2, r⟩
theorem Okw.mono {Q' : α → Store → Prop} (h : Okw m S Q) (w : ∀ a S', Q a S' → Q' a S') : Okw m S Q' := by
  obtain ⟨a, S1, e, q⟩ := h
  exact ⟨a, S1, e, w _ _ q⟩
theorem Okw.of {a : α} (e : m = M.ret a) (h : Q a S) : Okw m S Q := e ▸ .ret h
theorem Okw.quiet (h : Okw m S Q) : Okw (M.quiet m) S Q := by
  obtain ⟨a, S1, e, q⟩ := h
  exact ⟨a, S1, by unfold M.quiet; rw [e]; rfl, q⟩
theorem Okw.seq {F F' : Δ → M Fl} {δ : Δ} {Q : Fl → Store → Prop} (h : Okw (F δ) S fun o S1 => ∃ δ1, o = .nx δ1 ∧ Okw (F' δ1) S1 Q) : Okw (fSeq F F' δ) S Q := by
  refine Okw.bind (h.mono ?_)
  rintro o S1 ⟨δ1, rfl, q⟩
  exact q
theorem Okw.fn {n L : Nat} {F : Δ → M Fl} {ds : List D} {Q : D → Store → Prop} (hl : ds.length = n) (h : Okw (F (startD L ds)) S fun o S1 => ∃ d, endM o = M.ret d ∧ Q d S1) : Okw (fnM n L F ds) S Q := by
  unfold fnM
  rw [if_pos hl]
  refine .quiet (.bind (h.mono ?_))
  rintro o S1 ⟨d, e, q⟩
  exact .of e q
end
theorem lcM_okw {α : Type} {gg : D → Δ → Option Δ} {ft : Δ → M Bool} {fe : Δ → M D} {δ : Δ} {emb : α → D} {k : Nat} (I : Nat → Store → Prop) (R : α → D → Prop) : ∀ {xs : List α} {S : Store},
    (∀ x ∈ xs, ∀ j S, I (j + 1) S → ∃ δ', gg (emb x) δ = some δ' ∧ Okw (ft δ') S fun b S1 => if b = true then Okw (fe δ') S1 fun y S2 => R x y ∧ I j S2 else I j S1) → I (k + xs.length) S →
    Okw (lcM gg ft fe δ (xs.map emb)) S fun ys S' => I k S' ∧ ∃ zs : List (α × D), ys = zs.map Prod.snd ∧ (zs.map Prod.fst).Sublist xs ∧ ∀ z ∈ zs, R z.1 z.2
  | [], S, _, i => .ret ⟨i, [], rfl, .slnil, fun z hz => absurd hz (by simp)⟩
  | x :: xs, S, h, i => by
    obtain ⟨δ', h1, h2⟩ := h x (List.mem_cons_self) (k + xs.length) S i
    rw [List.map_cons]
    unfold lcM
    simp only [h1]
    refine .bind (.quiet (h2.mono fun b S1 hb => ?_))
    have ih := fun S i => lcM_okw (k := k) (xs := xs) (S := S) (gg := gg) (ft := ft) (fe := fe) (δ := δ) (emb := emb) I R (fun y hy => h y (List.mem_cons_of_mem _ hy)) i
    cases b with
    | true =>
      rw [if_pos rfl] at hb ⊢
      refine .bind (.quiet (hb.mono fun y S2 ⟨r, i2⟩ => .bind ((ih S2 i2).mono fun ys S3 ⟨i3, zs, e, sl, rs⟩ => .ret ⟨i3, (x, y) :: zs, by rw [List.map_cons, e], by rw [List.map_cons]; exact .cons₂ _ sl, fun z hz => ?_⟩)))
      rcases List.mem_cons.mp hz with rfl | hz
      · exact r
      · exact rs z hz
    | false =>
      rw [if_neg (by decide)] at hb ⊢
      exact (ih S1 hb).mono fun ys S3 ⟨i3, zs, e, sl, rs⟩ => ⟨i3, zs, e, .cons _ sl, rs⟩
/-- no test: one for each -/
theorem lcM_okwA {α : Type} {gg : D → Δ → Option Δ} {fe : Δ → M D} {δ : Δ} {emb : α → D} {k : Nat} (I : Nat → Store → Prop) (R : α → D → Prop) : ∀ {xs : List α} {S : Store},
    (∀ x ∈ xs, ∀ j S, I (j + 1) S → ∃ δ', gg (emb x) δ = some δ' ∧ Okw (fe δ') S fun y S2 => R x y ∧ I j S2) → I (k + xs.length) S →
    Okw (lcM gg tYesM fe δ (xs.map emb)) S fun ys S' => I k S' ∧ ∃ zs : List (α × D), ys = zs.map Prod.snd ∧ zs.map Prod.fst = xs ∧ ∀ z ∈ zs, R z.1 z.2
  | [], S, _, i => .ret ⟨i, [], rfl, rfl, fun z hz => absurd hz (by simp)⟩
  | x :: xs, S, h, i => by
    obtain ⟨δ', h1, h2⟩ := h x (List.mem_cons_self) (k + xs.length) S i
    rw [List.map_cons]
    unfold lcM
    simp only [h1]
    refine .bind (.quiet (.ret ?_))
    rw [if_pos rfl]
    refine .bind (.quiet (h2.mono fun y S2 ⟨r, i2⟩ => .bind ((lcM_okwA (k := k) (xs := xs) (S := S2) I R (fun y hy => h y (List.mem_cons_of_mem _ hy)) i2).mono fun ys S3 ⟨i3, zs, e, sl, rs⟩ => .ret ⟨i3, (x, y) :: zs, by rw [List.map_cons, e], by rw [List.map_cons, sl], fun z hz => ?_⟩)))
    rcases List.mem_cons.mp hz with rfl | hz
    · exact r
    · exact rs z hz
theorem loopM_okw {α : Type} {gg : D → Δ → Option Δ} {F : Δ → M Fl} {emb : α → D} {k : Nat} (R : Nat → Δ → Store → Prop) : ∀ {xs : List α} {δ : Δ} {S : Store},
    (∀ x ∈ xs, ∀ j δ S, R (j + 1) δ S → ∃ δ1, gg (emb x) δ = some δ1 ∧ Okw (F δ1) S fun o S1 => ∃ δ2, o = .nx δ2 ∧ R j δ2 S1) → R (k + xs.length) δ S →
    Okw (loopM gg F (xs.map emb) δ) S fun o S' => ∃ δ', o = .nx δ' ∧ R k δ' S'
  | [], δ, S, _, r => .ret ⟨δ, rfl, r⟩
  | x :: xs, δ, S, h, r => by
    obtain ⟨δ1, h1, h2⟩ := h x (List.mem_cons_self) (k + xs.length) δ S r
    rw [List.map_cons]
    unfold loopM
    simp only [h1]
    refine .bind (h2.mono ?_)
    rintro o S1 ⟨δ2, rfl, r2⟩
    exact loopM_okw (k := k) R (fun y hy => h y (List.mem_cons_of_mem _ hy)) r2
/-! ### rows of ints -/
theorem intsM : ∀ ns : List Int, D.ints (ns.map D.int) = some ns
  | [] => rfl
  | n :: ns => by
    rw [List.map_cons]
    unfold D.ints
    rw [intsM ns]
    rfl
theorem blsM : ∀ bs : List Bool, D.bls (bs.map D.bl) = some bs
  | [] => rfl
  | b :: bs => by
    rw [List.map_cons]
    unfold D.bls
    rw [blsM bs]
    rfl
theorem shs_ints (n : Nat) : ∀ ns : List Int, D.shs n (ns.map D.int) = true
  | [] => by unfold D.shs; rfl
  | i :: ns => by
    rw [List.map_cons]
    unfold D.shs
    rw [shs_ints n ns, Bool.and_true]
    unfold D.sh
    rfl
theorem sh_tuI (n : Nat) (l : List Int) : (tuI l).sh (n + 1) = true := by
  unfold tuI D.sh
  exact shs_ints n l
theorem sh_int (n : Nat) (i : Int) : (D.int i).sh n = true := by unfold D.sh; rfl
theorem mem_ints (p : Int) : ∀ l : List Int, D.mem (.int p) (l.map D.int) = l.contains p
  | [] => rfl
  | x :: l => by
    have ih := mem_ints p l
    unfold D.mem at ih ⊢
    rw [List.map_cons, List.any_cons, ih, List.contains_cons, show D.eqv (.int x) (.int p) = (x == p) from rfl]
    rw [BEq.comm]
theorem dIn_int (p : Int) (l : List Int) : dIn (.int p) (tuI l) = M.ret (D.bl (l.contains p)) := by
  show (if ((D.int p).sh 64 && (tuI l).sh 64) = true then M.ret (D.bl (D.mem (.int p) (l.map D.int))) else M.stuck) = _
  rw [if_pos (by rw [sh_int, sh_tuI]; rfl), mem_ints]
theorem dNotIn_int (p : Int) (l : List Int) : dNotIn (.int p) (tuI l) = M.ret (D.bl (!l.contains p)) := by
  show (if ((D.int p).sh 64 && (tuI l).sh 64) = true then M.ret (D.bl (!D.mem (.int p) (l.map D.int))) else M.stuck) = _
  rw [if_pos (by rw [sh_int, sh_tuI]; rfl), mem_ints]
theorem dSum_ints (ns : List Int) : dSum (.lst (ns.map D.int)) = M.ret (.int ns.sum) := by
  show M.bind (M.opt (D.ints (ns.map D.int))) (fun ns => M.ret (D.int ns.sum)) = _
  rw [intsM]
  rfl
theorem dAll_bls (bs : List Bool) : dAll (.lst (bs.map D.bl)) = M.ret (.bl (bs.all id)) := by
  show M.bind (M.opt (D.bls (bs.map D.bl))) (fun ns => M.ret (D.bl (ns.all id))) = _
  rw [blsM]
  rfl
theorem dAny_bls (bs : List Bool) : dAny (.lst (bs.map D.bl)) = M.ret (.bl (bs.any id)) := by
  show M.bind (M.opt (D.bls (bs.map D.bl))) (fun ns => M.ret (D.bl (ns.any id))) = _
  rw [blsM]
  rfl
end DL

set_option Elab.async false
set_option linter.all false
set_option maxRecDepth 100000
set_option maxHeartbeats 4000000
/-! DL25: repr of small data; min and max of ints; steps of runs. -/
namespace DL
open PySem PySem.Spec PyProof.Rows L2 PySem.W PySem.SeqAt
/- small data: no dict within, depth at most n, small ints, plain texts -/
mutual
def D.lit : Nat → D → Bool
  | _, .non => true
  | _, .bl _ => true
  | _, .int i => decide (-99999999999 ≤ i) && decide (i ≤ 99999999999)
  | _, .str s => PyData.strOk s && s.cps.toList.all fun c => decide (c < 16 ^ 8)
  | n + 1, .lst xs => D.lits n xs
  | n + 1, .tup xs => D.lits n xs
  | 0, .lst _ => false
  | 0, .tup _ => false
  | _, .dct _ => false
  | _, .ob _ => false
  | _, .fn _ => false
  | _, .scr _ => false
def D.lits : Nat → List D → Bool
  | _, [] => true
  | n, x :: xs => D.lit n x && D.lits n xs
end
theorem int_short {i : Int} (h : (decide (-99999999999 ≤ i) && decide (i ≤ 99999999999)) = true) : (PyData.shown (.int i)).length ≤ 13 ∧ i.natAbs.log2 < 1920 := by
  rw [Bool.and_eq_true] at h
  have h1 := of_decide_eq_true h.1
  have h2 := of_decide_eq_true h.2
  refine ⟨PyData.shown_int_le2 (by omega) (by omega), ?_⟩
  by_cases e : i.natAbs = 0
  · rw [e]; decide
  · have : i.natAbs.log2 < 40 := (Nat.log2_lt e).mpr (by omega)
    omega
mutual
theorem D.lit_all : ∀ (n : Nat) (d : D), d.lit n = true → d.sh n = true ∧ d.py.leavesShort 13 = true ∧ d.py.showable = true
  | _, .non, _ => ⟨by unfold D.sh; rfl, by unfold D.py PyData.leavesShort; rfl, by unfold D.py PyData.showable; rfl⟩
  | _, .bl _, _ => ⟨by unfold D.sh; rfl, by unfold D.py PyData.leavesShort; rfl, by unfold D.py PyData.showable; rfl⟩
  | _, .int i, h => by
    unfold D.lit at h
    have hs := int_short h
    exact ⟨by unfold D.sh; rfl, by unfold D.py PyData.leavesShort; exact decide_eq_true hs.1, by unfold D.py PyData.showable; exact decide_eq_true hs.2⟩
  | _, .str s, h => by
    unfold D.lit at h
    rw [Bool.and_eq_true] at h
    exact ⟨by unfold D.sh; exact h.1, by unfold D.py PyData.leavesShort; exact h.2, by unfold D.py PyData.showable; rfl⟩
  | n + 1, .lst xs, h => by
    unfold D.lit at h
    obtain ⟨a, b, c⟩ := D.lits_all n xs h
    exact ⟨by unfold D.sh; exact a, by unfold D.py PyData.leavesShort; exact b, by unfold D.py PyData.showable; exact c⟩
  | n + 1, .tup xs, h => by
    unfold D.lit at h
    obtain ⟨a, b, c⟩ := D.lits_all n xs h
    exact ⟨by unfold D.sh; exact a, by unfold D.py PyData.leavesShort; exact b, by unfold D.py PyData.showable; exact c⟩
  | 0, .lst _, h => by unfold D.lit at h; cases h
  | 0, .tup _, h => by unfold D.lit at h; cases h
  | _, .dct _, h => by unfold D.lit at h; cases h
  | _, .ob _, h => by unfold D.lit at h; cases h
  | _, .fn _, h => by unfold D.lit at h; cases h
  | _, .scr _, h => by unfold D.lit at h; cases h
theorem D.lits_all : ∀ (n : Nat) (ds : List D), D.lits n ds = true → D.shs n ds = true ∧ PyData.leavesShortAll 13 (D.pys ds) = true ∧ PyData.showableAll (D.pys ds) = true
  | _, [], _ => ⟨by unfold D.shs; rfl, by unfold D.pys PyData.leavesShortAll; rfl, by unfold D.pys PyData.showableAll; rfl⟩
  | n, x :: xs, h => by
    unfold D.lits at h
    rw [Bool.and_eq_true] at h
    obtain ⟨a, b, c⟩ := D.lit_all n x h.1
    obtain ⟨a', b', c'⟩ := D.lits_all n xs h.2
    exact ⟨by unfold D.shs; rw [a, a']; rfl, by unfold D.pys PyData.leavesShortAll; rw [b, b']; rfl, by unfold D.pys PyData.showableAll; rw [c, c']; rfl⟩
end
theorem dRepr_lit {d : D} (h : d.lit 60 = true) (hb : d.py.bulk ≤ 1000000) : dRepr d = M.ret (.str d.py.shown) := by
  obtain ⟨a, b, c⟩ := D.lit_all 60 d h
  have hl := PyData.shown_le_bulk 13 (by decide) d.py b
  have h2 : d.py.shown.length ≤ sizeLine := by
    unfold sizeLine
    omega
  unfold dRepr
  rw [a, c, decide_eq_true h2]
  rfl
/-! ### texts of data, sign by sign -/
def itx (i : Int) : List Nat := ((toString i : String) : Str).cps.toList
def plainC (c : Nat) : Bool := decide (32 ≤ c) && decide (c < 127) && c != 39 && c != 92
mutual
def D.pl : D → Bool
  | .non => true
  | .bl _ => true
  | .int _ => true
  | .str s => s.cps.toList.all plainC
  | .lst xs => D.pls xs
  | .tup xs => D.pls xs
  | .dct _ => false
  | .ob _ => false
  | .fn _ => false
  | .scr _ => false
def D.pls : List D → Bool
  | [] => true
  | x :: xs => D.pl x && D.pls xs
end
mutual
def tx : D → List Nat
  | .non => [78, 111, 110, 101]
  | .bl b => if b = true then [84, 114, 117, 101] else [70, 97, 108, 115, 101]
  | .int i => itx i
  | .str s => 39 :: (s.cps.toList ++ [39])
  | .lst xs => 91 :: (txl xs ++ [93])
  | .tup xs => 40 :: (txl xs ++ if xs.length = 1 then [44, 41] else [41])
  | .dct _ => []
  | .ob _ => []
  | .fn _ => []
  | .scr _ => []
def txl : List D → List Nat
  | [] => []
  | x :: xs => tx x ++ txr xs
def txr : List D → List Nat
  | [] => []
  | x :: xs => 44 :: 32 :: (tx x ++ txr xs)
end
theorem itx_sg {i : Int} {c : Nat} (h : c ∈ itx i) : c = 45 ∨ (48 ≤ c ∧ c ≤ 57) := by
  by_cases h1 : c = 45
  · exact .inl h1
  · by_cases h2 : 48 ≤ c ∧ c ≤ 57
    · exact .inr h2
    · exact absurd h (int_text_free' c ⟨h1, by omega⟩ i)
theorem itx_inj {i j : Int} (h : itx i = itx j) : i = j := by
  unfold itx at h
  rw [signs_ofString, signs_ofString] at h
  have hc : ∀ a b : Char, a.toNat = b.toNat → a = b := fun a b e => Char.toNat_inj.mp e
  have e : (toString i : String).toList = (toString j : String).toList := (List.map_inj_right hc).mp h
  have e2 : (toString i : String) = toString j := String.toList_injective e
  rw [Int.toString_eq_repr, Int.toString_eq_repr] at e2
  exact Int.repr_injective e2
theorem itx_ne (i : Int) : ∃ c t, itx i = c :: t ∧ (c = 45 ∨ (48 ≤ c ∧ c ≤ 57)) := by
  cases e : itx i with
  | nil =>
    exfalso
    unfold itx at e
    rw [signs_ofString, List.map_eq_nil_iff, Int.toString_eq_repr, Int.repr_eq_if] at e
    split at e
    · rw [Nat.toList_repr] at e
      exact absurd e Nat.toDigits_ne_nil
    · rw [String.toList_append] at e
      simp at e
  | cons c t => exact ⟨c, t, rfl, itx_sg (i := i) (by rw [e]; exact List.mem_cons_self)⟩
theorem span_eq {P : Nat → Prop} : ∀ {a b r r' : List Nat}, (∀ c ∈ a, P c) → (∀ c ∈ b, P c) → (∀ c t, r = c :: t → ¬ P c) → (∀ c t, r' = c :: t → ¬ P c) → a ++ r = b ++ r' → a = b ∧ r = r'
  | [], [], _, _, _, _, _, _, e => ⟨rfl, e⟩
  | [], y :: b, r, r', _, hb, hr, _, e => absurd (hb y List.mem_cons_self) (hr y (b ++ r') e)
  | x :: a, [], r, r', ha, _, _, hr', e => absurd (ha x List.mem_cons_self) (hr' x (a ++ r) e.symm)
  | x :: a, y :: b, r, r', ha, hb, hr, hr', e => by
    injection e with e1 e2
    obtain ⟨h1, h2⟩ := span_eq (fun c h => ha c (List.mem_cons_of_mem _ h)) (fun c h => hb c (List.mem_cons_of_mem _ h)) hr hr' e2
    exact ⟨by rw [e1, h1], h2⟩
def Stop (r : List Nat) : Prop := ∀ c t, r = c :: t → c = 44 ∨ c = 41 ∨ c = 93
def EndR (r : List Nat) : Prop := ∃ c t, r = c :: t ∧ (c = 41 ∨ c = 93 ∨ (c = 44 ∧ ∃ u, t = 41 :: u))
theorem EndR.stop {r : List Nat} (h : EndR r) : Stop r := by
  obtain ⟨c, t, rfl, h⟩ := h
  intro c' t' e
  injection e with e1 e2
  subst e1
  rcases h with h | h | ⟨h, _⟩
  · exact .inr (.inl h)
  · exact .inr (.inr h)
  · exact .inl h
theorem stop_txr {xs : List D} {r : List Nat} (h : EndR r) : Stop (txr xs ++ r) := by
  cases xs with
  | nil => unfold txr; exact h.stop
  | cons x xs =>
    unfold txr
    intro c t e
    injection e with e1 e2
    exact .inl e1.symm
def kind : D → Nat
  | .non => 0
  | .bl _ => 1
  | .int _ => 2
  | .str _ => 3
  | .lst _ => 4
  | .tup _ => 5
  | _ => 6
def clsC (c : Nat) : Nat := if c = 78 then 0 else if c = 84 ∨ c = 70 then 1 else if c = 45 ∨ (48 ≤ c ∧ c ≤ 57) then 2 else if c = 39 then 3 else if c = 91 then 4 else if c = 40 then 5 else 7
theorem tx_head : ∀ {d : D}, d.pl = true → ∃ c t, tx d = c :: t ∧ clsC c = kind d
  | .non, _ => ⟨_, _, by unfold tx; rfl, by decide⟩
  | .bl true, _ => ⟨_, _, by unfold tx; rfl, by decide⟩
  | .bl false, _ => ⟨_, _, by unfold tx; rfl, by decide⟩
  | .int i, _ => by
    obtain ⟨c, t, e, h⟩ := itx_ne i
    refine ⟨c, t, by unfold tx; exact e, ?_⟩
    unfold clsC
    rw [if_neg (by omega), if_neg (by omega), if_pos h]
    rfl
  | .str s, _ => ⟨_, _, by unfold tx; rfl, (by decide : clsC 39 = 3)⟩
  | .lst xs, _ => ⟨_, _, by unfold tx; rfl, (by decide : clsC 91 = 4)⟩
  | .tup xs, _ => ⟨_, _, by unfold tx; rfl, (by decide : clsC 40 = 5)⟩
  | .dct _, h => by unfold D.pl at h; cases h
  | .ob _, h => by unfold D.pl at h; cases h
  | .fn _, h => by unfold D.pl at h; cases h
  | .scr _, h => by unfold D.pl at h; cases h
theorem str_ext {a b : Str} (h : a.cps.toList = b.cps.toList) : a = b := by
  cases a
  cases b
  congr
  exact Array.toList_inj.mp h
mutual
theorem tx_pre : ∀ (d : D) {e : D} {r r' : List Nat}, d.pl = true → e.pl = true → Stop r → Stop r' → tx d ++ r = tx e ++ r' → d = e ∧ r = r' := fun d e r r' hd he hr hr' h => by
  have hk : kind d = kind e := by
    obtain ⟨c, t, e1, k1⟩ := tx_head hd
    obtain ⟨c', t', e2, k2⟩ := tx_head he
    rw [e1, e2] at h
    injection h with h1 h2
    rw [← k1, ← k2, h1]
  match d, e, hk with
  | .non, .non, _ => exact ⟨rfl, List.append_cancel_left h⟩
  | .bl a, .bl b, _ =>
    cases a <;> cases b
    · exact ⟨rfl, List.append_cancel_left h⟩
    · unfold tx at h; injection h with h1 h2; exact absurd h1 (by decide)
    · unfold tx at h; injection h with h1 h2; exact absurd h1 (by decide)
    · exact ⟨rfl, List.append_cancel_left h⟩
  | .int i, .int j, _ =>
    unfold tx at h
    have hs : ∀ {r : List Nat}, Stop r → ∀ c t, r = c :: t → ¬ (c = 45 ∨ (48 ≤ c ∧ c ≤ 57)) := fun hr c t e => by have := hr c t e; omega
    obtain ⟨h1, h2⟩ := span_eq (P := fun c => c = 45 ∨ (48 ≤ c ∧ c ≤ 57)) (fun c hc => itx_sg hc) (fun c hc => itx_sg hc) (hs hr) (hs hr') h
    exact ⟨by rw [itx_inj h1], h2⟩
  | .str s, .str s', _ =>
    unfold tx at h
    unfold D.pl at hd he
    rw [List.cons_append, List.cons_append, List.append_assoc, List.append_assoc] at h
    injection h with _ h
    have hp : ∀ {s : Str}, s.cps.toList.all plainC = true → ∀ c ∈ s.cps.toList, c ≠ 39 := fun hs c hc => by
      have := List.all_eq_true.mp hs c hc
      unfold plainC at this
      simp at this
      omega
    have hq : ∀ {r : List Nat} c t, [39] ++ r = c :: t → ¬ (c ≠ 39) := fun c t e => by
      injection e with e1 e2
      simp [← e1]
    obtain ⟨h1, h2⟩ := span_eq (P := fun c => c ≠ 39) (hp hd) (hp he) hq hq h
    exact ⟨by rw [str_ext h1], List.append_cancel_left h2⟩
  | .lst xs, .lst ys, _ =>
    unfold tx at h
    unfold D.pl at hd he
    rw [List.cons_append, List.cons_append, List.append_assoc, List.append_assoc] at h
    injection h with _ h
    match xs, ys with
    | [], [] => exact ⟨rfl, List.append_cancel_left h⟩
    | [], y :: ys =>
      exfalso
      unfold D.pls at he
      rw [Bool.and_eq_true] at he
      unfold txl at h
      obtain ⟨c, t, e1, k1⟩ := tx_head he.1
      rw [e1] at h
      injection h with h1 h2
      subst h1
      have : clsC 93 = 7 := by decide
      rw [this] at k1
      cases y <;> cases k1
    | x :: xs, [] =>
      exfalso
      unfold D.pls at hd
      rw [Bool.and_eq_true] at hd
      unfold txl at h
      obtain ⟨c, t, e1, k1⟩ := tx_head hd.1
      rw [e1] at h
      injection h with h1 h2
      subst h1
      have : clsC 93 = 7 := by decide
      rw [this] at k1
      cases x <;> cases k1
    | x :: xs, y :: ys =>
      unfold D.pls at hd he
      rw [Bool.and_eq_true] at hd he
      unfold txl at h
      rw [List.append_assoc, List.append_assoc] at h
      have hE : ∀ r : List Nat, EndR ([93] ++ r) := fun r => ⟨93, r, rfl, .inr (.inl rfl)⟩
      obtain ⟨h1, h2⟩ := tx_pre x hd.1 he.1 (stop_txr (hE r)) (stop_txr (hE r')) h
      obtain ⟨h3, h4⟩ := txr_pre xs hd.2 he.2 (hE r) (hE r') h2
      exact ⟨by rw [h1, h3], List.append_cancel_left h4⟩
  | .tup xs, .tup ys, _ =>
    unfold tx at h
    unfold D.pl at hd he
    rw [List.cons_append, List.cons_append, List.append_assoc, List.append_assoc] at h
    injection h with _ h
    match xs, ys with
    | [], [] => exact ⟨rfl, List.append_cancel_left h⟩
    | [], y :: ys =>
      exfalso
      unfold D.pls at he
      rw [Bool.and_eq_true] at he
      unfold txl at h
      obtain ⟨c, t, e1, k1⟩ := tx_head he.1
      rw [e1] at h
      injection h with h1 h2
      subst h1
      have : clsC 41 = 7 := by decide
      rw [this] at k1
      cases y <;> cases k1
    | x :: xs, [] =>
      exfalso
      unfold D.pls at hd
      rw [Bool.and_eq_true] at hd
      unfold txl at h
      obtain ⟨c, t, e1, k1⟩ := tx_head hd.1
      rw [e1] at h
      injection h with h1 h2
      subst h1
      have : clsC 41 = 7 := by decide
      rw [this] at k1
      cases x <;> cases k1
    | x :: xs, y :: ys =>
      unfold D.pls at hd he
      rw [Bool.and_eq_true] at hd he
      unfold txl at h
      rw [List.append_assoc, List.append_assoc] at h
      have hE : ∀ (c : Prop) [Decidable c] (r : List Nat), EndR ((if c then [44, 41] else [41]) ++ r) := fun c _ r => by
        split
        · exact ⟨44, 41 :: r, rfl, .inr (.inr ⟨rfl, r, rfl⟩)⟩
        · exact ⟨41, r, rfl, .inl rfl⟩
      obtain ⟨h1, h2⟩ := tx_pre x hd.1 he.1 (stop_txr (hE _ r)) (stop_txr (hE _ r')) h
      obtain ⟨h3, h4⟩ := txr_pre xs hd.2 he.2 (hE _ r) (hE _ r') h2
      subst h1 h3
      exact ⟨rfl, List.append_cancel_left h4⟩
  | .dct _, _, _ => unfold D.pl at hd; cases hd
  | .ob _, _, _ => unfold D.pl at hd; cases hd
  | .fn _, _, _ => unfold D.pl at hd; cases hd
  | .scr _, _, _ => unfold D.pl at hd; cases hd
theorem txr_pre : ∀ (xs : List D) {ys : List D} {r r' : List Nat}, D.pls xs = true → D.pls ys = true → EndR r → EndR r' → txr xs ++ r = txr ys ++ r' → xs = ys ∧ r = r'
  | [], [], _, _, _, _, _, _, h => ⟨rfl, h⟩
  | [], y :: ys, r, r', _, _, ⟨c, t, e, hc⟩, _, h => by
    exfalso
    unfold txr at h
    subst e
    injection h with h1 h2
    rcases hc with hc | hc | ⟨hc, u, hu⟩
    · omega
    · omega
    · subst hu
      injection h2 with h2 _
      cases h2
  | x :: xs, [], r, r', _, _, _, ⟨c, t, e, hc⟩, h => by
    exfalso
    unfold txr at h
    subst e
    injection h with h1 h2
    rcases hc with hc | hc | ⟨hc, u, hu⟩
    · omega
    · omega
    · subst hu
      injection h2 with h2 _
      cases h2
  | x :: xs, y :: ys, r, r', hd, he, hr, hr', h => by
    unfold D.pls at hd he
    rw [Bool.and_eq_true] at hd he
    unfold txr at h
    injection h with _ h
    injection h with _ h
    have h : (tx x ++ txr xs) ++ r = (tx y ++ txr ys) ++ r' := h
    rw [List.append_assoc, List.append_assoc] at h
    obtain ⟨h1, h2⟩ := tx_pre x hd.1 he.1 (stop_txr hr) (stop_txr hr') h
    obtain ⟨h3, h4⟩ := txr_pre xs hd.2 he.2 hr hr' h2
    exact ⟨by rw [h1, h3], h4⟩
end
theorem tx_inj {d e : D} (hd : d.pl = true) (he : e.pl = true) (h : tx d = tx e) : d = e :=
  (tx_pre d (r := []) (r' := []) hd he (fun c t e => nomatch e) (fun c t e => nomatch e) (by rw [List.append_nil, List.append_nil]; exact h)).1
theorem plain_print : ∀ c : Nat, c < 127 → plainC c = true → (c == 39 || c == 92) = false ∧ (c == 10) = false ∧ (c == 13) = false ∧ (c == 9) = false ∧ Unicode.isPrintable c = true := by decide +kernel
theorem plain_lt {c : Nat} (h : plainC c = true) : c < 127 := by
  unfold plainC at h
  simp at h
  omega
theorem plain_ne {c : Nat} (h : plainC c = true) : c ≠ 39 := by
  unfold plainC at h
  simp at h
  omega
theorem reprChar_plain {c : Nat} (h : plainC c = true) : Builtin.Str.reprChar 39 c = [c] := by
  obtain ⟨h1, h2, h3, h4, h5⟩ := plain_print c (plain_lt h) h
  unfold Builtin.Str.reprChar
  simp only [h1, h2, h3, h4, h5]
  rfl
theorem reprFold_plain : ∀ (l : List Nat) (acc : Array Nat), l.all plainC = true → (l.foldl (fun out c => out ++ (Builtin.Str.reprChar 39 c).toArray) acc).toList = acc.toList ++ l
  | [], acc, _ => by simp
  | c :: l, acc, h => by
    rw [List.all_cons, Bool.and_eq_true] at h
    rw [List.foldl_cons, reprFold_plain l _ h.2, reprChar_plain h.1]
    simp
theorem reprText_plain {s : Str} (h : s.cps.toList.all plainC = true) : (reprText s).cps.toList = 39 :: (s.cps.toList ++ [39]) := by
  have hq : reprQuote s = 39 := by
    unfold reprQuote
    have : s.cps.contains 39 = false := by
      rw [Bool.eq_false_iff]
      intro hc
      have hm : 39 ∈ s.cps.toList := by simpa using hc
      exact plain_ne (List.all_eq_true.mp h 39 hm) rfl
    rw [this]
    rfl
  unfold reprText
  rw [hq]
  dsimp only
  rw [Array.toList_push, ← Array.foldl_toList, reprFold_plain _ _ h]
  rfl
theorem joinR (x : Str) : ∀ xs : List Str, (Str.join ", " (x :: xs)).cps.toList = x.cps.toList ++ xs.flatMap fun y => 44 :: 32 :: y.cps.toList
  | [] => by rw [join_one]; simp
  | y :: ys => by
    rw [join_cons_cons, cps_toList_append, cps_toList_append, joinR y ys, signs_sep, List.flatMap_cons]
    simp
mutual
theorem shown_tx : ∀ d : D, d.pl = true → d.py.shown.cps.toList = tx d
  | .non, _ => by unfold D.py tx; decide
  | .bl b, _ => by unfold D.py tx; cases b <;> decide
  | .int i, _ => by unfold D.py tx itx; rw [PyData.shown_int]
  | .str s, h => by
    unfold D.pl at h
    unfold D.py tx
    rw [PyData.shown_str]
    exact reprText_plain h
  | .lst xs, h => by
    unfold D.pl at h
    unfold D.py tx
    rw [PyData.shown_list, cps_toList_append, cps_toList_append, shown_txl xs h, signs_lbrack, signs_rbrack]
    simp
  | .tup xs, h => by
    unfold D.pl at h
    unfold D.py tx
    rw [PyData.shown_tuple, cps_toList_append, cps_toList_append, shown_txl xs h, signs_lparen]
    have hl : (D.pys xs).length = xs.length := by
      clear h
      induction xs with
      | nil => unfold D.pys; rfl
      | cons x xs ih => unfold D.pys; rw [List.length_cons, List.length_cons, ih]
    rw [hl]
    by_cases h1 : xs.length = 1
    · rw [if_pos h1, if_pos (beq_iff_eq.mpr h1)]
      have : ((",)" : String) : Str).cps.toList = [44, 41] := by decide
      rw [this]
      simp
    · rw [if_neg h1, if_neg (fun e => h1 (beq_iff_eq.mp e))]
      have : ((")" : String) : Str).cps.toList = [41] := by decide
      rw [this]
      simp
  | .dct _, h => by unfold D.pl at h; cases h
  | .ob _, h => by unfold D.pl at h; cases h
  | .fn _, h => by unfold D.pl at h; cases h
  | .scr _, h => by unfold D.pl at h; cases h
theorem shown_txl : ∀ xs : List D, D.pls xs = true → (Str.join ", " (PyData.shownAll (D.pys xs))).cps.toList = txl xs
  | [], _ => by unfold D.pys txl; rfl
  | x :: xs, h => by
    unfold D.pls at h
    rw [Bool.and_eq_true] at h
    unfold D.pys txl
    rw [PyData.shownAll_cons, joinR, shown_tx x h.1, shown_txr xs h.2]
theorem shown_txr : ∀ xs : List D, D.pls xs = true → ((PyData.shownAll (D.pys xs)).flatMap fun y => 44 :: 32 :: y.cps.toList) = txr xs
  | [], _ => by unfold D.pys txr; rfl
  | x :: xs, h => by
    unfold D.pls at h
    rw [Bool.and_eq_true] at h
    unfold D.pys txr
    rw [PyData.shownAll_cons, List.flatMap_cons, shown_tx x h.1, shown_txr xs h.2]
    rfl
end
mutual
theorem tx_small : ∀ (d : D), d.pl = true → ∀ c ∈ tx d, c < 128
  | .non, _ => by unfold tx; decide
  | .bl b, _ => by unfold tx; cases b <;> decide
  | .int i, _ => fun c h => by
    unfold tx at h
    have := itx_sg h
    omega
  | .str s, h => fun c hc => by
    unfold D.pl at h
    unfold tx at hc
    rcases List.mem_cons.mp hc with e | hc
    · omega
    · rcases List.mem_append.mp hc with hc | hc
      · have := plain_lt (List.all_eq_true.mp h c hc)
        omega
      · rw [List.mem_singleton] at hc
        omega
  | .lst xs, h => fun c hc => by
    unfold D.pl at h
    unfold tx at hc
    rcases List.mem_cons.mp hc with e | hc
    · omega
    · rcases List.mem_append.mp hc with hc | hc
      · exact txl_small xs h c hc
      · rw [List.mem_singleton] at hc
        omega
  | .tup xs, h => fun c hc => by
    unfold D.pl at h
    unfold tx at hc
    rcases List.mem_cons.mp hc with e | hc
    · omega
    · rcases List.mem_append.mp hc with hc | hc
      · exact txl_small xs h c hc
      · split at hc
        · simp at hc
          omega
        · rw [List.mem_singleton] at hc
          omega
  | .dct _, h => by unfold D.pl at h; cases h
  | .ob _, h => by unfold D.pl at h; cases h
  | .fn _, h => by unfold D.pl at h; cases h
  | .scr _, h => by unfold D.pl at h; cases h
theorem txl_small : ∀ (xs : List D), D.pls xs = true → ∀ c ∈ txl xs, c < 128
  | [], _ => fun c h => by unfold txl at h; cases h
  | x :: xs, h => fun c hc => by
    unfold D.pls at h
    rw [Bool.and_eq_true] at h
    unfold txl at hc
    rcases List.mem_append.mp hc with hc | hc
    · exact tx_small x h.1 c hc
    · exact txr_small xs h.2 c hc
theorem txr_small : ∀ (xs : List D), D.pls xs = true → ∀ c ∈ txr xs, c < 128
  | [], _ => fun c h => by unfold txr at h; cases h
  | x :: xs, h => fun c hc => by
    unfold D.pls at h
    rw [Bool.and_eq_true] at h
    unfold txr at hc
    rcases List.mem_cons.mp hc with e | hc
    · omega
    · rcases List.mem_cons.mp hc with e | hc
      · omega
      · rcases List.mem_append.mp hc with hc | hc
        · exact tx_small x h.1 c hc
        · exact txr_small xs h.2 c hc
end
theorem strOk_shown {d : D} (h : d.pl = true) : PyData.strOk d.py.shown = true := by
  unfold PyData.strOk
  rw [← Array.all_toList, shown_tx d h, List.all_eq_true]
  intro c hc
  have := tx_small d h c hc
  exact decide_eq_true (by omega)
/-- small and plain -/
structure Sml (d : D) : Prop where
  l : d.lit 60 = true
  b : d.py.bulk ≤ 1000000
  p : d.pl = true
theorem Sml.repr {d : D} (s : Sml d) : dRepr d = M.ret (.str d.py.shown) := dRepr_lit s.l s.b
theorem sh_shown {d : D} (s : Sml d) : (D.str d.py.shown).sh 64 = true := by unfold D.sh; exact strOk_shown s.p
theorem repr_ne {d e : D} (s : Sml d) (s' : Sml e) : dNe (.str d.py.shown) (.str e.py.shown) = M.ret (.bl (!decide (tx d = tx e))) := by
  unfold dNe
  rw [sh_shown s, sh_shown s']
  show M.ret (D.bl (!(d.py.shown == e.py.shown))) = _
  congr 3
  rw [Bool.eq_iff_iff, beq_iff_eq, decide_eq_true_iff]
  constructor
  · intro h
    rw [← shown_tx d s.p, ← shown_tx e s'.p, h]
  · intro h
    rw [← shown_tx d s.p, ← shown_tx e s'.p] at h
    exact str_ext h
theorem repr_eq {d e : D} (s : Sml d) (s' : Sml e) : dEq (.str d.py.shown) (.str e.py.shown) = M.ret (.bl (decide (tx d = tx e))) := by
  unfold dEq
  rw [sh_shown s, sh_shown s']
  show M.ret (D.bl (d.py.shown == e.py.shown)) = _
  congr 2
  rw [Bool.eq_iff_iff, beq_iff_eq, decide_eq_true_iff]
  constructor
  · intro h
    rw [← shown_tx d s.p, ← shown_tx e s'.p, h]
  · intro h
    rw [← shown_tx d s.p, ← shown_tx e s'.p] at h
    exact str_ext h
theorem fRepr_ne {fa fb : Δ → M D} {δ : Δ} {d e : D} (ha : fa δ = M.ret d) (hb : fb δ = M.ret e) (s : Sml d) (s' : Sml e) : f2 dNe (f1 dRepr fa) (f1 dRepr fb) δ = M.ret (.bl (!decide (tx d = tx e))) := by
  unfold f2 f1
  rw [ha, hb]
  simp only [M.ret_bind, s.repr, s'.repr, repr_ne s s']
theorem fRepr_eq {fa fb : Δ → M D} {δ : Δ} {d e : D} (ha : fa δ = M.ret d) (hb : fb δ = M.ret e) (s : Sml d) (s' : Sml e) : f2 dEq (f1 dRepr fa) (f1 dRepr fb) δ = M.ret (.bl (decide (tx d = tx e))) := by
  unfold f2 f1
  rw [ha, hb]
  simp only [M.ret_bind, s.repr, s'.repr, repr_eq s s']
theorem tx_iff {d e : D} (hd : d.pl = true) (he : e.pl = true) : tx d = tx e ↔ d = e := ⟨tx_inj hd he, fun h => by rw [h]⟩
theorem sml_int {i : Int} (h1 : -99999999999 ≤ i) (h2 : i ≤ 99999999999) : Sml (.int i) := ⟨by unfold D.lit; rw [decide_eq_true h1, decide_eq_true h2]; rfl, by unfold D.py PyData.bulk; decide, by unfold D.pl; rfl⟩
theorem sml_bl {b : Bool} : Sml (.bl b) := ⟨by unfold D.lit; rfl, by unfold D.py PyData.bulk; decide, by unfold D.pl; rfl⟩
/-! ### min, max of ints -/
def minI (x : Int) (xs : List Int) : Int := xs.foldl (fun a y => if y < a then y else a) x
def maxI (x : Int) (xs : List Int) : Int := xs.foldl (fun a y => if a < y then y else a) x
theorem minI_le : ∀ (xs : List Int) (x : Int), (∀ y ∈ x :: xs, minI x xs ≤ y) ∧ minI x xs ∈ x :: xs
  | [], x => ⟨fun y h => by rw [List.mem_singleton] at h; rw [h]; exact Int.le_refl _, List.mem_cons_self⟩
  | z :: xs, x => by
    obtain ⟨h1, h2⟩ := minI_le xs (if z < x then z else x)
    have e : minI x (z :: xs) = minI (if z < x then z else x) xs := rfl
    rw [e]
    constructor
    · intro y hy
      have h0 := h1 _ List.mem_cons_self
      rcases List.mem_cons.mp hy with rfl | hy
      · split at h0 <;> split <;> omega
      · rcases List.mem_cons.mp hy with rfl | hy
        · split at h0 <;> split <;> omega
        · exact h1 y (List.mem_cons_of_mem _ hy)
    · rcases List.mem_cons.mp h2 with h2 | h2
      · rw [h2]
        split
        · exact List.mem_cons_of_mem _ List.mem_cons_self
        · exact List.mem_cons_self
      · exact List.mem_cons_of_mem _ (List.mem_cons_of_mem _ h2)
theorem maxI_ge : ∀ (xs : List Int) (x : Int), (∀ y ∈ x :: xs, y ≤ maxI x xs) ∧ maxI x xs ∈ x :: xs
  | [], x => ⟨fun y h => by rw [List.mem_singleton] at h; rw [h]; exact Int.le_refl _, List.mem_cons_self⟩
  | z :: xs, x => by
    obtain ⟨h1, h2⟩ := maxI_ge xs (if x < z then z else x)
    have e : maxI x (z :: xs) = maxI (if x < z then z else x) xs := rfl
    rw [e]
    constructor
    · intro y hy
      have h0 := h1 _ List.mem_cons_self
      rcases List.mem_cons.mp hy with rfl | hy
      · split at h0 <;> split <;> omega
      · rcases List.mem_cons.mp hy with rfl | hy
        · split at h0 <;> split <;> omega
        · exact h1 y (List.mem_cons_of_mem _ hy)
    · rcases List.mem_cons.mp h2 with h2 | h2
      · rw [h2]
        split
        · exact List.mem_cons_of_mem _ List.mem_cons_self
        · exact List.mem_cons_self
      · exact List.mem_cons_of_mem _ (List.mem_cons_of_mem _ h2)
theorem alike_ints : ∀ ns : List Int, alikeOk (ns.map D.int) = true := fun ns => by
  unfold alikeOk
  have h : ∀ d ∈ ns.map D.int, ∃ i, d = .int i := fun d hd => by
    obtain ⟨i, _, rfl⟩ := List.mem_map.mp hd
    exact ⟨i, rfl⟩
  rw [Bool.and_eq_true, Bool.and_eq_true, List.all_eq_true, List.all_eq_true, List.all_eq_true]
  refine ⟨⟨fun d hd => ?_, fun d hd => ?_⟩, fun d hd => ?_⟩
  · obtain ⟨i, rfl⟩ := h d hd
    exact sh_int _ _
  · obtain ⟨i, rfl⟩ := h d hd
    rw [List.all_eq_true]
    intro e he
    obtain ⟨j, rfl⟩ := h e he
    rfl
  · obtain ⟨i, rfl⟩ := h d hd
    rfl
theorem bestMin : ∀ (xs : List Int) (x : Int), bestD btMin (.int x) (xs.map D.int) = .int (minI x xs)
  | [], x => rfl
  | z :: xs, x => by
    show bestD btMin (if btMin (.int z) (.int x) = true then D.int z else .int x) (xs.map D.int) = _
    have e : btMin (.int z) (.int x) = decide (z < x) := dataLt_int z x
    rw [e, show (if decide (z < x) = true then D.int z else .int x) = D.int (if z < x then z else x) by by_cases h : z < x <;> simp [h], bestMin xs]
    rfl
theorem bestMax : ∀ (xs : List Int) (x : Int), bestD btMax (.int x) (xs.map D.int) = .int (maxI x xs)
  | [], x => rfl
  | z :: xs, x => by
    show bestD btMax (if btMax (.int z) (.int x) = true then D.int z else .int x) (xs.map D.int) = _
    have e : btMax (.int z) (.int x) = decide (x < z) := dataLt_int x z
    rw [e, show (if decide (x < z) = true then D.int z else .int x) = D.int (if x < z then z else x) by by_cases h : x < z <;> simp [h], bestMax xs]
    rfl
def minL : List Int → Int
  | [] => 0
  | x :: xs => minI x xs
def maxL : List Int → Int
  | [] => 0
  | x :: xs => maxI x xs
theorem dMin1_ints {xs : List Int} (h : xs ≠ []) : dMin1 (.lst (xs.map D.int)) = M.ret (.int (minL xs)) := by
  match xs, h with
  | x :: xs, _ =>
    show (if alikeOk ((x :: xs).map D.int) = true then M.ret (bestD btMin (.int x) (xs.map D.int)) else M.stuck) = _
    rw [alike_ints, if_pos rfl, bestMin]
    rfl
theorem dMax1_ints {xs : List Int} (h : xs ≠ []) : dMax1 (.lst (xs.map D.int)) = M.ret (.int (maxL xs)) := by
  match xs, h with
  | x :: xs, _ =>
    show (if alikeOk ((x :: xs).map D.int) = true then M.ret (bestD btMax (.int x) (xs.map D.int)) else M.stuck) = _
    rw [alike_ints, if_pos rfl, bestMax]
    rfl
theorem dMin1_intsT {xs : List Int} (h : xs ≠ []) : dMin1 (tuI xs) = M.ret (.int (minL xs)) := dMin1_ints h
theorem dMax1_intsT {xs : List Int} (h : xs ≠ []) : dMax1 (tuI xs) = M.ret (.int (maxL xs)) := dMax1_ints h
theorem minL_mem {xs : List Int} (h : xs ≠ []) : minL xs ∈ xs := by
  match xs, h with
  | x :: xs, _ => exact (minI_le xs x).2
theorem minL_le {xs : List Int} {y : Int} (h : y ∈ xs) : minL xs ≤ y := by
  match xs, h with
  | x :: xs, h => exact (minI_le xs x).1 y h
theorem maxL_mem {xs : List Int} (h : xs ≠ []) : maxL xs ∈ xs := by
  match xs, h with
  | x :: xs, _ => exact (maxI_ge xs x).2
theorem maxL_ge {xs : List Int} {y : Int} (h : y ∈ xs) : y ≤ maxL xs := by
  match xs, h with
  | x :: xs, h => exact (maxI_ge xs x).1 y h
theorem maxL_eq {xs : List Int} {b : Int} (h : b ∈ xs) (h2 : ∀ y ∈ xs, y ≤ b) : maxL xs = b := Int.le_antisymm (h2 _ (maxL_mem (List.ne_nil_of_mem h))) (maxL_ge h)
/-! ### steps -/
theorem Okw.seqR {F F' : Δ → M Fl} {δ δ1 : Δ} {S : Store} {Q : Fl → Store → Prop} (h : F δ = M.ret (.nx δ1)) (k : Okw (F' δ1) S Q) : Okw (fSeq F F' δ) S Q := .seq (.of h ⟨δ1, rfl, k⟩)
theorem Okw.eq {α : Type} {m m' : M α} {S : Store} {Q : α → Store → Prop} (e : m = m') (h : Okw m' S Q) : Okw m S Q := e ▸ h
theorem seq_ret {F F' : Δ → M Fl} {δ δ1 : Δ} (h : F δ = M.ret (.nx δ1)) : fSeq F F' δ = F' δ1 := by
  rw [fSeq, h]
  rfl
theorem ifS_false {fc : Δ → M Bool} {F F' : Δ → M Fl} {δ : Δ} (h : fc δ = M.ret false) : fIfS fc F F' δ = F' δ := by
  rw [fIfS, h]
  rfl
theorem ifS_true {fc : Δ → M Bool} {F F' : Δ → M Fl} {δ : Δ} (h : fc δ = M.ret true) : fIfS fc F F' δ = F δ := by
  rw [fIfS, h]
  rfl
theorem expr_ret {f : Δ → M D} {δ : Δ} {d : D} (h : f δ = M.ret d) : fExpr f δ = M.ret (.nx δ) := by
  rw [fExpr, h]
  rfl
theorem tOr_false {fc fd : Δ → M Bool} {δ : Δ} (h : fc δ = M.ret false) : tOr' fc fd δ = fd δ := by
  rw [tOr', h]
  rfl
theorem tOr_true {fc fd : Δ → M Bool} {δ : Δ} (h : fc δ = M.ret true) : tOr' fc fd δ = M.ret true := by
  rw [tOr', h]
  rfl
theorem tAn_false {fc fd : Δ → M Bool} {δ : Δ} (h : fc δ = M.ret false) : tAn fc fd δ = M.ret false := by
  rw [tAn, h]
  rfl
theorem f2_ret {k : D → D → M D} {fa fb : Δ → M D} {δ : Δ} {x y z : D} (ha : fa δ = M.ret x) (hb : fb δ = M.ret y) (hk : k x y = M.ret z) : f2 k fa fb δ = M.ret z := by
  unfold f2
  rw [ha, M.ret_bind, hb, M.ret_bind, hk]
theorem f1_ret {k : D → M D} {fa : Δ → M D} {δ : Δ} {x z : D} (ha : fa δ = M.ret x) (hk : k x = M.ret z) : f1 k fa δ = M.ret z := by
  unfold f1
  rw [ha, M.ret_bind, hk]
theorem fAnd_false {fa fb : Δ → M D} {δ : Δ} (h : fa δ = M.ret (.bl false)) : fAnd fa fb δ = M.ret (.bl false) := by
  unfold fAnd
  rw [h]
  rfl
theorem fAnd_true {fa fb : Δ → M D} {δ : Δ} (h : fa δ = M.ret (.bl true)) : fAnd fa fb δ = fb δ := by
  unfold fAnd
  rw [h]
  rfl
theorem fOr_true {fa fb : Δ → M D} {δ : Δ} (h : fa δ = M.ret (.bl true)) : fOr fa fb δ = M.ret (.bl true) := by
  unfold fOr
  rw [h]
  rfl
theorem fOr_false {fa fb : Δ → M D} {δ : Δ} (h : fa δ = M.ret (.bl false)) : fOr fa fb δ = fb δ := by
  unfold fOr
  rw [h]
  rfl
theorem if_true' {fc : Δ → M Bool} {fa fb : Δ → M D} {δ : Δ} (h : fc δ = M.ret true) : fIf fc fa fb δ = fa δ := by
  unfold fIf
  rw [h]
  rfl
theorem if_false' {fc : Δ → M Bool} {fa fb : Δ → M D} {δ : Δ} (h : fc δ = M.ret false) : fIf fc fa fb δ = fb δ := by
  unfold fIf
  rw [h]
  rfl
theorem fTup_ret {fr : Δ → M (List D)} {δ : Δ} {ds : List D} (h : fr δ = M.ret ds) (hl : ds.length ≤ 1000) : fTup fr δ = M.ret (.tup ds) := by
  unfold fTup
  rw [h]
  exact if_pos (Nat.le_trans hl (by decide))
theorem fLst_ret {fr : Δ → M (List D)} {δ : Δ} {ds : List D} (h : fr δ = M.ret ds) (hl : ds.length ≤ 1000) : fLst fr δ = M.ret (.lst ds) := by
  unfold fLst
  rw [h]
  exact if_pos (Nat.le_trans hl (by decide))
theorem cat_ret {xs ys : List D} (hl : xs.length + ys.length ≤ 1000) : dCat (.lst xs) (.lst ys) = M.ret (.lst (xs ++ ys)) := if_pos (Nat.le_trans hl (by decide))
/-- a call of a def whose body gives d -/
theorem fn_ret {n L : Nat} {F : Δ → M Fl} {ds : List D} {d : D} (hl : ds.length = n) (h : F (startD L ds) = M.ret (.rt d)) : fnM n L F ds = M.ret d := by
  unfold fnM
  rw [if_pos hl, h]
  rfl
theorem fn_non {n L : Nat} {F : Δ → M Fl} {ds : List D} {δ : Δ} (hl : ds.length = n) (h : F (startD L ds) = M.ret (.nx δ)) : fnM n L F ds = M.ret .non := by
  unfold fnM
  rw [if_pos hl, h]
  rfl
theorem ret_ret {f : Δ → M D} {δ : Δ} {d : D} (h : f δ = M.ret d) : fRet f δ = M.ret (.rt d) := by
  unfold fRet
  rw [h]
  rfl
/-- a return ends a block -/
theorem seq_rt {F F' : Δ → M Fl} {δ : Δ} {d : D} (h : F δ = M.ret (.rt d)) : fSeq F F' δ = M.ret (.rt d) := by
  rw [fSeq, h]
  rfl
theorem callK_ret {m : List D → M D} {n l : Nat} {is : List Nat} {fr : Δ → M (List D)} {δ : Δ} {ds : List D} (h : fr δ = M.ret ds) (hl : ds.length = l ∧ (pick is ds).length = n) : fCallK m n l is fr δ = m (pick is ds) := by
  unfold fCallK
  rw [h, M.ret_bind, if_pos hl]
theorem tAn_true {fc fd : Δ → M Bool} {δ : Δ} (h : fc δ = M.ret true) : tAn fc fd δ = fd δ := by
  rw [tAn, h]
  rfl
theorem tV_ret {f : Δ → M D} {δ : Δ} {b : Bool} (h : f δ = M.ret (.bl b)) : tV f δ = M.ret b := by
  rw [tV, h]
  rfl
theorem tNt_ret {f : Δ → M Bool} {δ : Δ} {b : Bool} (h : f δ = M.ret b) : tNt f δ = M.ret (!b) := by
  rw [tNt, h]
  rfl
theorem set_ret {i : Nat} {f : Δ → M D} {δ : Δ} {d : D} (h : f δ = M.ret d) : fSet i f δ = M.ret (.nx (δ.set i (some (.d d)))) := by
  rw [fSet, h]
  rfl
theorem fLc_map {α : Type} {fi : Δ → M (List D)} {gg : D → Δ → Option Δ} {ft : Δ → M Bool} {fe : Δ → M D} {vs : List Nat} {δ : Δ} {emb : α → D} {xs : List α} {p : α → Bool} {f : α → D} (hi : fi δ = M.ret (xs.map emb))
    (h : ∀ x ∈ xs, ∃ δ', gg (emb x) (wipeD δ vs) = some δ' ∧ ft δ' = M.ret (p x) ∧ (p x = true → fe δ' = M.ret (f x))) : fLc fi gg ft fe vs δ = M.ret (.lst ((xs.filter p).map f)) := by
  unfold fLc
  rw [hi, M.ret_bind, lcM_map h]
  rfl
theorem fLc_mapA {α : Type} {fi : Δ → M (List D)} {gg : D → Δ → Option Δ} {fe : Δ → M D} {vs : List Nat} {δ : Δ} {emb : α → D} {xs : List α} {f : α → D} (hi : fi δ = M.ret (xs.map emb))
    (h : ∀ x ∈ xs, ∃ δ', gg (emb x) (wipeD δ vs) = some δ' ∧ fe δ' = M.ret (f x)) : fLc fi gg tYesM fe vs δ = M.ret (.lst (xs.map f)) := by
  rw [fLc_map (ft := tYesM) (p := fun _ => true) (f := f) hi fun x hx => let ⟨δ', a, b⟩ := h x hx; ⟨δ', a, rfl, fun _ => b⟩, show (xs.filter fun _ => true) = xs from List.filter_eq_self.mpr fun _ _ => rfl]
theorem cons_ret {fe : Δ → M D} {fr : Δ → M (List D)} {δ : Δ} {x : D} {xs : List D} (h : fe δ = M.ret x) (h' : fr δ = M.ret xs) : fCons fe fr δ = M.ret (x :: xs) := by
  unfold fCons
  rw [h, M.ret_bind, h']
  rfl
theorem call_ret {m : List D → M D} {n : Nat} {fr : Δ → M (List D)} {δ : Δ} {ds : List D} (h : fr δ = M.ret ds) (hl : ds.length = n) : fCall m n fr δ = m ds := by
  unfold fCall
  rw [h, M.ret_bind, if_pos hl]
theorem callV_ret {T : FT} {i n : Nat} {m : List D → M D} {fr : Δ → M (List D)} {δ : Δ} {ds : List D} {a : Addr} {d : D} (ha : fnAt i δ = some a) (hT : T a = some (n, m)) (h : fr δ = M.ret ds) (hl : ds.length = n) (hm : m ds = M.ret d) : fCallV T i fr δ = M.ret d := by
  unfold fCallV
  rw [ha]
  dsimp only
  rw [hT]
  dsimp only
  rw [call_ret h hl, hm]
  rfl
/-- a list that is gone through, where all is well -/
theorem loopM_all {gg : D → Δ → Option Δ} {F : Δ → M Fl} (R : Δ → Prop) : ∀ {xs : List D} {δ : Δ}, (∀ x ∈ xs, ∀ δ, R δ → ∃ δ1 δ2, gg x δ = some δ1 ∧ F δ1 = M.ret (.nx δ2) ∧ R δ2) → R δ → ∃ δ', loopM gg F xs δ = M.ret (.nx δ') ∧ R δ'
  | [], δ, _, r => ⟨δ, rfl, r⟩
  | x :: xs, δ, h, r => by
    obtain ⟨δ1, δ2, h1, h2, r2⟩ := h x List.mem_cons_self δ r
    obtain ⟨δ', e, r'⟩ := loopM_all R (fun y hy => h y (List.mem_cons_of_mem _ hy)) r2
    refine ⟨δ', ?_, r'⟩
    unfold loopM
    simp only [h1, h2, M.ret_bind]
    exact e
/-! ### rows of ints, compared -/
theorem eqvAll_ints : ∀ a b : List Int, PyData.eqvAll (D.pys (a.map D.int)) (D.pys (b.map D.int)) = (a == b)
  | [], [] => rfl
  | [], y :: b => rfl
  | x :: a, [] => rfl
  | x :: a, y :: b => by
    rw [List.map_cons, List.map_cons]
    unfold D.pys PyData.eqvAll
    rw [eqvAll_ints a b]
    rfl
theorem eqv_tuI (a b : List Int) : D.eqv (tuI a) (tuI b) = (a == b) := by
  unfold D.eqv tuI D.py PyData.eqv
  exact eqvAll_ints a b
theorem dEq_tuI (a b : List Int) : dEq (tuI a) (tuI b) = M.ret (.bl (a == b)) := by
  unfold dEq
  rw [sh_tuI, sh_tuI, eqv_tuI]
  rfl
theorem dNe_tuI (a b : List Int) : dNe (tuI a) (tuI b) = M.ret (.bl (a != b)) := by
  unfold dNe
  rw [sh_tuI, sh_tuI, eqv_tuI]
  rfl
theorem shs_tuI (n : Nat) : ∀ U : List (List Int), D.shs (n + 1) (U.map tuI) = true
  | [] => by unfold D.shs; rfl
  | l :: U => by
    rw [List.map_cons]
    unfold D.shs
    rw [shs_tuI n U, sh_tuI]
    rfl
theorem mem_tuI (l : List Int) : ∀ U : List (List Int), D.mem (tuI l) (U.map tuI) = U.contains l
  | [] => rfl
  | x :: U => by
    have ih := mem_tuI l U
    unfold D.mem at ih ⊢
    rw [List.map_cons, List.any_cons, ih, List.contains_cons, eqv_tuI, BEq.comm]
theorem dIn_tuI (l : List Int) (U : List (List Int)) : dIn (tuI l) (.lst (U.map tuI)) = M.ret (.bl (U.contains l)) := by
  have h1 : (D.lst (U.map tuI)).sh 64 = true := by unfold D.sh; exact shs_tuI 62 U
  show (if ((tuI l).sh 64 && (D.lst (U.map tuI)).sh 64) = true then M.ret (D.bl (D.mem (tuI l) (U.map tuI))) else M.stuck) = _
  rw [h1, sh_tuI, mem_tuI]
  rfl
theorem all_in {fi fl : Δ → M D} {δ : Δ} {o l : List Int} {c : Nat} (h : fi δ = M.ret (tuI o)) (h' : ∀ p, gv c ((wipeD δ [c]).set c (some (.d (.int p)))) = M.ret (.int p) ∧ fl ((wipeD δ [c]).set c (some (.d (.int p)))) = M.ret (tuI l)) :
    f1 dAll (fLc (iSeq fi) (ggName c) tYesM (f2 dIn (gv c) fl) [c]) δ = M.ret (.bl (o.all fun p => l.contains p)) := by
  have e : iSeq fi δ = M.ret (o.map D.int) := by
    unfold iSeq
    rw [h]
    rfl
  refine f1_ret (fLc_mapA (emb := D.int) (f := fun p => D.bl (l.contains p)) e fun p _ => ⟨_, rfl, f2_ret (h' p).1 (h' p).2 (dIn_int p l)⟩) ?_
  rw [show (fun p : Int => D.bl (l.contains p)) = D.bl ∘ (fun p => l.contains p) from rfl, ← List.map_map, dAll_bls, List.all_map]
  rfl
theorem dNe_int (a b : Int) : dNe (.int a) (.int b) = M.ret (.bl (a != b)) := rfl
theorem dEq_int (a b : Int) : dEq (.int a) (.int b) = M.ret (.bl (a == b)) := rfl
theorem asg_ret {f : Δ → M D} {gg : D → Δ → Option Δ} {δ δ' : Δ} {d : D} (h : f δ = M.ret d) (hg : gg d δ = some δ') : fAsg f gg δ = M.ret (.nx δ') := by
  unfold fAsg
  rw [h, M.ret_bind, hg]
theorem fSeq_assoc (A B C : Δ → M Fl) : fSeq (fSeq A B) C = fSeq A (fSeq B C) := by
  funext δ
  unfold fSeq
  rw [M.bind_assoc]
  congr 1
  funext o
  cases o <;> rfl
theorem lc_all {fi : Δ → M (List D)} {gg : D → Δ → Option Δ} {fe : Δ → M D} {vs : List Nat} {δ : Δ} {α : Type} {emb : α → D} {xs : List α} {p : α → Bool} (hi : fi δ = M.ret (xs.map emb))
    (h : ∀ x ∈ xs, ∃ δ', gg (emb x) (wipeD δ vs) = some δ' ∧ fe δ' = M.ret (.bl (p x))) : f1 dAll (fLc fi gg tYesM fe vs) δ = M.ret (.bl (xs.all p)) := by
  refine f1_ret (fLc_mapA (f := fun x => D.bl (p x)) hi h) ?_
  rw [show (fun x => D.bl (p x)) = D.bl ∘ p from rfl, ← List.map_map, dAll_bls, List.all_map]
  rfl
theorem lc_any {fi : Δ → M (List D)} {gg : D → Δ → Option Δ} {fe : Δ → M D} {vs : List Nat} {δ : Δ} {α : Type} {emb : α → D} {xs : List α} {p : α → Bool} (hi : fi δ = M.ret (xs.map emb))
    (h : ∀ x ∈ xs, ∃ δ', gg (emb x) (wipeD δ vs) = some δ' ∧ fe δ' = M.ret (.bl (p x))) : f1 dAny (fLc fi gg tYesM fe vs) δ = M.ret (.bl (xs.any p)) := by
  refine f1_ret (fLc_mapA (f := fun x => D.bl (p x)) hi h) ?_
  rw [show (fun x => D.bl (p x)) = D.bl ∘ p from rfl, ← List.map_map, dAny_bls, List.any_map]
  rfl
theorem par_ret {i j : Nat} {fa fb : Δ → M D} {δ : Δ} {x y : D} (ha : fa δ = M.ret x) (hb : fb δ = M.ret y) : fPar2 i j false false fa fb δ = M.ret (.nx ((δ.set i (some (.d x))).set j (some (.d y)))) := by
  unfold fPar2
  rw [ha, M.ret_bind, hb, M.ret_bind]
  rfl
/-- ready to be shown, within a tuple of two -/
theorem sml_two {x y : D} (h1 : x.lit 59 = true) (h2 : x.py.bulk ≤ 1000) (h3 : x.pl = true) {i : Int} (e : y = .int i) (h4 : -99999999999 ≤ i) (h5 : i ≤ 99999999999) : Sml (.tup [x, y]) := by
  subst e
  refine ⟨?_, ?_, ?_⟩
  · unfold D.lit D.lits
    rw [h1]
    unfold D.lits D.lit
    rw [decide_eq_true h4, decide_eq_true h5]
    unfold D.lits
    rfl
  · have e : (D.int i).py = .int i := by unfold D.py; rfl
    rw [py_tup, pys_cons, pys_cons, pys_nil, e]
    simp only [PyData.bulk, PyData.bulkAll]
    omega
  · unfold D.pl D.pls D.pls D.pls
    rw [h3]
    unfold D.pl
    rfl
end DL

set_option Elab.async false
set_option linter.all false
set_option maxRecDepth 100000
set_option maxHeartbeats 4000000
/-! DL26: lists repeated, three stores where a name is a cell. -/
namespace DL
open PySem PySem.Spec PyProof.Rows L2
section
variable {N : Nv} {W : XK} {X : Cx} {a b c : Expr} {fa fb fc : Δ → M D} {g0 : G0} {g : Gh} {H0 H : Hp} {S : Store} {δ : Δ} {σ : L2.St} {pos p : Pos}
/-- xs * k -/
def dRepL : D → D → M D
  | .lst xs, .int k => if xs.length ≤ 1000 ∧ 0 ≤ k ∧ k ≤ 1000 then M.ret (.lst (List.replicate k.toNat xs).flatten) else M.stuck
  | _, _ => M.stuck
theorem de_repL {ma mb : Md} (ha : DE N W X ma a fa) (hb : DE N W X mb b fb) : DE N W X .fr (.BinOp a .Mult b pos) (f2 dRepL fa fb) :=
  de_op op_rep (fun x y v w g H S Q st rv rw q => by
    cases x <;> cases y <;> first | exact q.elim | skip
    rename_i xs k
    obtain ⟨⟨h1, h2, h3⟩, q⟩ := Res.ite (m := M.ret (D.lst (List.replicate k.toNat xs).flatten)) q
    obtain ⟨p, vs, e1, hs, hl, ra⟩ := rv.seqL
    have hvl := ra.length
    have hlen : vs.length * k.toNat ≤ sizeLine := by
      rw [sizeLine_eq]
      have a1 : vs.length * k.toNat ≤ 1000 * 1000 := Nat.mul_le_mul (by omega) (by omega)
      omega
    exact ⟨p, k, vs, e1, rw.int, hs, by omega, by omega, hlen, Res.lst st (ra.rep _) (rep_len (by omega) h3) q⟩) ha hb
theorem ds_tup3 {i j l : Nat} {o1 o2 o3 : Bool} {x y z : Str} {px py pz pt pt2 : Pos} {kt k2} (hc : X.calm = true) (hN : X.N.Nodup) (ha : DE N W X (Md.of o1) a fa) (hb : DE N W X (Md.of o2) b fb) (hcc : DE N W X (Md.of o3) c fc) (hi : X.N[i]? = some x := by rfl) (hj : X.N[j]? = some y := by rfl) (hl : X.N[l]? = some z := by rfl)
    (hx : Loc X.env.scope x := by first | exact Or.inl rfl | exact Or.inr rfl) (hy : Loc X.env.scope y := by first | exact Or.inl rfl | exact Or.inr rfl) (hz : Loc X.env.scope z := by first | exact Or.inl rfl | exact Or.inr rfl)
    (hfx : X.fn x = true ∨ X.env.scope.names.lookup x = some .local := by first | exact .inl rfl | exact .inr rfl) (hfy : X.fn y = true ∨ X.env.scope.names.lookup y = some .local := by first | exact .inl rfl | exact .inr rfl) (hfz : X.fn z = true ∨ X.env.scope.names.lookup z = some .local := by first | exact .inl rfl | exact .inr rfl)
    (hs : swapsWithSole [.Tuple [.Name x px, .Name y py, .Name z pz] kt pt] (.Tuple [a, b, c] k2 pt2) pos.line X.env = pure false := by rfl) (hw : swappedStores [.Tuple [.Name x px, .Name y py, .Name z pz] kt pt] (.Tuple [a, b, c] k2 pt2) X.env = pure none := by rfl)
    (h1 : (assignEach [.Tuple [.Name x px, .Name y py, .Name z pz] kt pt] X.env).map (·.2) = [assign (.Tuple [.Name x px, .Name y py, .Name z pz] kt pt) X.env] := by rfl)
    (hn : (assignEach [.Name x px, .Name y py, .Name z pz] X.env).length = 3 := by rfl) (hst : (assignEach [.Name x px, .Name y py, .Name z pz] X.env).findIdx? (·.1) = none := by rfl)
    (t1 : (assignEach [.Name x px, .Name y py, .Name z pz] X.env).map (·.2) = assign (.Name x px) X.env :: (assignEach [.Name y py, .Name z pz] X.env).map (·.2) := by rfl) (t2 : (assignEach [.Name y py, .Name z pz] X.env).map (·.2) = assign (.Name y py) X.env :: (assignEach [.Name z pz] X.env).map (·.2) := by rfl)
    (t3 : (assignEach [.Name z pz] X.env).map (·.2) = assign (.Name z pz) X.env :: (assignEach [] X.env).map (·.2) := by rfl)
    (he : starEach [a, b, c] X.env = (false, eval a X.env) :: starEach [b, c] X.env := by rfl) (he2 : starEach [b, c] X.env = (false, eval b X.env) :: starEach [c] X.env := by rfl) (he3 : starEach [c] X.env = (false, eval c X.env) :: starEach [] X.env := by rfl) :
    DS N W X (.Assign [.Tuple [.Name x px, .Name y py, .Name z pz] kt pt] (.Tuple [a, b, c] k2 pt2) pos) (fPar3 i j l o1 o2 o3 fa fb fc) :=
  (ps_asg (pe_tup (pa_cons ha (pa_cons hb (pa_cons hcc pa_nil he3) he2) he)) (pg_tup hc (pgs_cons (pg_name hN hi hx hfx) (pgs_cons (pg_name hN hj hy hfy) (pgs_cons (pg_name hN hl hz hfz) pgs_nil t3) t2) t1) hn hst) hs hw h1).imp fun D σ H ⟨g0, H0, g, S, δ, G, r⟩ =>
    show tCons (tE N W (Md.of o1) fa) (tCons (tE N W (Md.of o2) fb) (tCons (tE N W (Md.of o3) fc) tNil)) σ H (fun xs H1 => xs.length ≤ sizeLine ∧ ∀ p, H1 p = none → gTup X.K 3 (gCons (gName i) (gCons (gName j) (gCons (gName l) gNil))) (.ref p) σ (upd H1 p (.tup xs)) D.nx) from par3_core G r fun u v w g2 H2 S2 δ2 G2 h => by
      refine ⟨by show 3 ≤ sizeLine; decide, fun p hp => ⟨p, [u, v, w], rfl, .of upd_same, rfl, u, [v, w], rfl, v, [w], rfl, w, [], rfl, rfl, ?_⟩⟩
      exact h g2 _ _ (G2.later (Ex.new hp).kp (G2.st.ex (Ex.new hp)))
/-- xs.index(y) -/
def lstChk : D → M (List D)
  | .lst xs => M.ret xs
  | _ => M.stuck
def dIndex (xs : List D) (y : D) : M D := if ((D.lst xs).sh 64 && y.sh 64) = true then M.bind (M.opt (xs.findIdx? fun z => z.eqv y)) fun j => M.ret (.int (j : Nat)) else M.stuck
def fIndex (fo fi : Δ → M D) : Δ → M D := fun δ => M.bind (fo δ) fun x => M.bind (lstChk x) fun xs => M.bind (fi δ) fun y => dIndex xs y
theorem de_index {mo mi : Md} {o i : Expr} {fo fi : Δ → M D} {apos cpos : Pos} (hu : X.A.units + 65 < cLine) (ho : DE N W X mo o fo) (hi : DE N W X mi i fi) (hK : N.K = X.K := by rfl)
    (hbase : attributeBase o "index" X.env (eval o X.env) = eval o X.env := by rfl)
    (hfew : ((backTo cpos (starEach [i] X.env)).all (fun x => !x.1) && (backToKw cpos (keywordEach [] X.env)).all (fun x => x.1.isSome)
      && decide ([i].length + ([] : List Keyword).length + (if ([] : List Keyword).isEmpty then 0 else 1) < 30)) = true := by rfl)
    (hline : (apos.endLine == cpos.line) = true := by rfl) (hs : starEach [i] X.env = (false, eval i X.env) :: starEach [] X.env := by rfl) (hplain : (backTo cpos (starEach [] X.env)).any (·.1) = false := by rfl) :
    DE N W X .fz (.Call (.Attribute o "index" apos) [i] [] cpos) (fIndex fo fi) :=
  (pe_bm PySem.F.plainAttrs_list PySem.F.slot_list_index PySem.F.type_list_index (mt_indexD hu) ho (pa_cons hi pa_nil hs) hbase hfew hline hs hplain).imp fun σ H Q ⟨g0, H0, g, S, δ, G, q⟩ => tE.seq G q fun x S1 v H1 g1 k1 G1 rx q1 => by
    cases x with
    | lst xs =>
      have q1 : Res N W g1 H1 _ (M.bind (fi δ) (fun y => dIndex xs y) S1) := q1
      obtain ⟨a, vs, e1, hH, hl, ra⟩ := rx.bo.seqL
      refine ⟨by subst e1; exact .inl ⟨rfl, vs, .of hH⟩, tE.seq (k := fun y => dIndex xs y) G1 q1 fun y S2 w H2 g2 k2 G2 ry q2 => ?_⟩
      obtain ⟨hsh, q2⟩ := Res.ite q2
      rw [Bool.and_eq_true] at hsh
      cases ej : xs.findIdx? fun z => z.eqv y with
      | none => rw [ej] at q2; exact q2.elim
      | some j =>
        rw [ej] at q2
        rw [List.findIdx?_eq_some_iff_getElem] at ej
        obtain ⟨hj, hz, hno⟩ := ej
        have rl := rx.bo.keep k2
        have e2 : (D.lst xs).py = .list (D.pys xs) := py_lst xs
        have hd := rl.dp hsh.1
        rw [e2, e1] at hd
        refine ⟨a, w, y.py, D.pys xs, j, xs[j].py, e1, rfl, hK ▸ hd, hK ▸ ry.bo.dp hsh.2, e2 ▸ D.shaped hsh.1, D.shaped hsh.2, ?_, hz, fun m z' hm hz' => ?_, Res.now G2.st q2 _ (.int _)⟩
        · rw [pys_map, List.getElem?_map, List.getElem?_eq_getElem hj]
          rfl
        · rw [pys_map, List.getElem?_map, List.getElem?_eq_getElem (by omega)] at hz'
          cases hz'
          have h2 : xs[m].eqv y = false := by simpa using hno m hm
          exact h2
    | _ => exact q1.elim
end
end DL

set_option Elab.async false
set_option linter.all false
set_option maxRecDepth 100000
set_option maxHeartbeats 4000000
/-! DL27: worths in which each adds less, by predicates; parts. No program in sight. -/
namespace DL
theorem sum_le {α : Type} {f g : α → Int} : ∀ {xs : List α}, (∀ x ∈ xs, f x ≤ g x) → (xs.map f).sum ≤ (xs.map g).sum
  | [], _ => Int.le_refl _
  | x :: xs, h => by
    have ih := sum_le (xs := xs) fun y hy => h y (List.mem_cons_of_mem _ hy)
    have := h x List.mem_cons_self
    rw [List.map_cons, List.map_cons, List.sum_cons, List.sum_cons]
    omega
theorem sum_add {α : Type} (f g : α → Int) : ∀ xs : List α, (xs.map fun x => f x + g x).sum = (xs.map f).sum + (xs.map g).sum
  | [] => rfl
  | x :: xs => by
    rw [List.map_cons, List.map_cons, List.map_cons, List.sum_cons, List.sum_cons, List.sum_cons, sum_add f g xs]
    omega
theorem sum_zero {α : Type} {f : α → Int} : ∀ {xs : List α}, (∀ x ∈ xs, f x = 0) → (xs.map f).sum = 0
  | [], _ => rfl
  | x :: xs, h => by
    rw [List.map_cons, List.sum_cons, h x List.mem_cons_self, sum_zero (xs := xs) fun y hy => h y (List.mem_cons_of_mem _ hy)]
    rfl
/-- a sum by its parts -/
theorem sum_parts {c : Int → Int} {o : Int → Int} {ns : List Int} (hn : ns.Nodup) : ∀ {is : List Int}, (∀ i ∈ is, o i ∈ ns) → (ns.map fun k => ((is.filter fun i => o i == k).map c).sum).sum = (is.map c).sum
  | [], _ => sum_zero fun _ _ => rfl
  | i :: is, h => by
    have ih := sum_parts (c := c) hn (is := is) fun j hj => h j (List.mem_cons_of_mem _ hj)
    have e : ∀ k, (((i :: is).filter fun i => o i == k).map c).sum = (if o i = k then c i else 0) + ((is.filter fun i => o i == k).map c).sum := fun k => by
      rw [List.filter_cons]
      by_cases hk : o i = k
      · rw [if_pos (by simpa using hk), if_pos hk, List.map_cons, List.sum_cons]
      · rw [if_neg (by simpa using hk), if_neg hk, Int.zero_add]
    rw [List.map_congr_left (g := fun k => (if o i = k then c i else 0) + ((is.filter fun i => o i == k).map c).sum) fun k _ => e k, sum_add, ih, List.map_cons, List.sum_cons]
    congr 1
    have hi := h i List.mem_cons_self
    generalize o i = x at hi
    clear ih e h
    induction ns with
    | nil => cases hi
    | cons k ns ihn =>
      rw [List.map_cons, List.sum_cons]
      rw [List.nodup_cons] at hn
      by_cases hk : x = k
      · subst hk
        rw [if_pos rfl, sum_zero (f := fun k => if x = k then c i else 0) (xs := ns) fun y hy => if_neg fun e : x = y => hn.1 (e ▸ hy)]
        omega
      · rw [if_neg hk, ihn hn.2 ((List.mem_cons.mp hi).resolve_left hk)]
        omega
/-- a function of parts of some posts: it grows, each post adds less -/
structure SubF (is : List Int) (f : (Int → Bool) → Int) : Prop where
  nil : f (fun _ => false) = 0
  mono : ∀ P Q, (∀ i ∈ is, P i = true → Q i = true) → f P ≤ f Q
  sub : ∀ P Q, f (fun i => P i || Q i) + f (fun i => P i && Q i) ≤ f P + f Q
section
variable {is : List Int} {f : (Int → Bool) → Int} (F : SubF is f)
include F
theorem SubF.ext {P Q : Int → Bool} (h : ∀ i ∈ is, P i = Q i) : f P = f Q := Int.le_antisymm (F.mono P Q fun i hi e => (h i hi).symm.trans e) (F.mono Q P fun i hi e => (h i hi).trans e)
def addP (P : Int → Bool) (j : Int) : Int → Bool := fun i => P i || i == j
def delP (P : Int → Bool) (j : Int) : Int → Bool := fun i => P i && i != j
theorem SubF.adds (P : Int → Bool) : ∀ js : List Int, f (fun i => P i || js.contains i) ≤ f P + (js.map fun j => f (addP P j) - f P).sum
  | [] => by
    rw [F.ext (Q := P) fun i _ => by simp]
    simp
  | j :: r => by
    have ih := SubF.adds P r
    have h1 := F.sub (fun i => P i || r.contains i) (addP P j)
    have h2 : f (fun i => (P i || r.contains i) || addP P j i) = f (fun i => P i || (j :: r).contains i) := F.ext fun i _ => by
      unfold addP
      rw [List.contains_cons]
      cases P i <;> cases r.contains i <;> cases (i == j) <;> rfl
    have h3 : f P ≤ f (fun i => (P i || r.contains i) && addP P j i) := F.mono _ _ fun i _ hp => by
      unfold addP
      rw [hp]
      rfl
    rw [List.map_cons, List.sum_cons]
    omega
theorem SubF.dels (P : Int → Bool) : ∀ js : List Int, js.Nodup → (js.map fun j => f P - f (delP P j)).sum ≤ f P - f (fun i => P i && !js.contains i)
  | [], _ => by
    rw [F.ext (P := fun i => P i && !([] : List Int).contains i) (Q := P) fun i _ => by simp]
    simp
  | j :: r, hn => by
    rw [List.nodup_cons] at hn
    have ih := SubF.dels P r hn.2
    have h1 := F.sub (fun i => P i && !r.contains i) (delP P j)
    have h2 : f P ≤ f (fun i => (P i && !r.contains i) || delP P j i) := F.mono _ _ fun i _ hp => by
      unfold delP
      rw [hp]
      by_cases hi : i = j
      · subst hi
        have : r.contains i = false := by simpa using hn.1
        rw [this]
        rfl
      · have : (i != j) = true := by simpa using hi
        rw [this]
        simp
    have h3 : f (fun i => P i && !(j :: r).contains i) ≤ f (fun i => (P i && !r.contains i) && delP P j i) := F.mono _ _ fun i _ hp => by
      unfold delP
      rw [List.contains_cons] at hp
      revert hp
      cases P i <;> cases r.contains i <;> cases h : (i == j) <;> simp [h, bne]
    rw [List.map_cons, List.sum_cons]
    omega
/-- half at least: what adds no more than c to each part -/
theorem SubF.half {ns : List Int} (hn : ns.Nodup) {p o : Int → Int} (ho : ∀ i ∈ is, o i ∈ ns) {c : Int → Int}
    (hc : ∀ i ∈ is, ∀ k ∈ ns, f (addP (fun i => p i == k) i) - f (fun i => p i == k) ≤ c i) (hs : (is.map c).sum ≤ (ns.map fun k => f (fun i => p i == k)).sum) :
    (ns.map fun k => f (fun i => o i == k)).sum ≤ 2 * (ns.map fun k => f (fun i => p i == k)).sum := by
  have h1 : ∀ k ∈ ns, f (fun i => o i == k) ≤ f (fun i => p i == k) + ((is.filter fun i => o i == k).map c).sum := fun k hk => by
    have a := F.adds (fun i => p i == k) (is.filter fun i => o i == k)
    have b : f (fun i => o i == k) ≤ f (fun i => p i == k || (is.filter fun i => o i == k).contains i) := F.mono _ _ fun i hi e => by
      have : (is.filter fun i => o i == k).contains i = true := List.contains_iff_mem.mpr (List.mem_filter.mpr ⟨hi, e⟩)
      rw [this, Bool.or_true]
    have d : ((is.filter fun i => o i == k).map fun j => f (addP (fun i => p i == k) j) - f (fun i => p i == k)).sum ≤ ((is.filter fun i => o i == k).map c).sum := sum_le fun j hj => hc j (List.mem_filter.mp hj).1 k hk
    omega
  have h2 := sum_le h1
  rw [sum_add, sum_parts hn ho] at h2
  omega
/-- moves that are no better: half at least -/
theorem SubF.settled {ns : List Int} (hi : is.Nodup) (hn : ns.Nodup) {p o : Int → Int} (hp : ∀ i ∈ is, p i ∈ ns) (ho : ∀ i ∈ is, o i ∈ ns)
    (hb : ∀ i ∈ is, ∀ k ∈ ns, k ≠ p i → f (addP (fun i => p i == k) i) + f (delP (fun j => p j == p i) i) ≤ f (fun i => p i == k) + f (fun j => p j == p i)) :
    (ns.map fun k => f (fun i => o i == k)).sum ≤ 2 * (ns.map fun k => f (fun i => p i == k)).sum := by
  refine F.half hn ho (c := fun i => f (fun j => p j == p i) - f (delP (fun j => p j == p i) i)) (fun i h k hk => ?_) ?_
  · by_cases e : k = p i
    · subst e
      have h1 : f (addP (fun j => p j == p i) i) = f (fun j => p j == p i) := F.ext fun j _ => by
        unfold addP
        by_cases hj : j = i
        · subst hj
          simp
        · have : (j == i) = false := by simpa using hj
          rw [this, Bool.or_false]
      have h2 : f (delP (fun j => p j == p i) i) ≤ f (fun j => p j == p i) := F.mono _ _ fun j _ e => by
        unfold delP at e
        rw [Bool.and_eq_true] at e
        exact e.1
      omega
    · have := hb i h k hk e
      omega
  · rw [← sum_parts hn hp]
    refine sum_le fun k hk => ?_
    have h1 := F.dels (fun j => p j == k) (is.filter fun i => p i == k) (hi.filter _)
    have h2 : f (fun i => p i == k && !(is.filter fun i => p i == k).contains i) = 0 := by
      rw [F.ext (Q := fun _ => false) fun i hi => ?_, F.nil]
      cases h : (p i == k)
      · rw [Bool.false_and]
      · have : (is.filter fun i => p i == k).contains i = true := List.contains_iff_mem.mpr (List.mem_filter.mpr ⟨hi, h⟩)
        rw [this]
        rfl
    have h3 : ((is.filter fun i => p i == k).map fun i => f (fun j => p j == p i) - f (delP (fun j => p j == p i) i)).sum = ((is.filter fun i => p i == k).map fun j => f (fun j => p j == k) - f (delP (fun j => p j == k) j)).sum := by
      congr 1
      refine List.map_congr_left fun i hi => ?_
      have e : p i = k := by simpa using (List.mem_filter.mp hi).2
      rw [e]
    omega
end
end DL

set_option Elab.async false
set_option linter.all false
set_option maxRecDepth 100000
set_option maxHeartbeats 4000000
/-! DL28: more steps of runs: slices, stars, own lists, ranges. -/
namespace DL
open PySem PySem.Spec PyProof.Rows L2
theorem cut_to (xs : List D) (k : Nat) : cutD xs none (some (k : Int)) = xs.take k := by
  unfold cutD
  rw [HT.sIx_nat, HT.sIx_none, Nat.sub_zero, List.drop_zero, ← List.take_take, List.take_length]
theorem cut_from (xs : List D) (k : Nat) : cutD xs (some (k : Int)) none = xs.drop k := by
  unfold cutD
  rw [HT.sIx_nat, HT.sIx_none]
  by_cases h : k ≤ xs.length
  · rw [Nat.min_eq_left h, List.take_of_length_le (by rw [List.length_drop]; omega)]
  · rw [Nat.min_eq_right (by omega), Nat.sub_self, List.take_zero, List.drop_eq_nil_of_le (by omega)]
theorem cut_init (xs : List D) : cutD xs none (some (-1)) = xs.dropLast := by
  unfold cutD
  rw [HT.sIx_none, Nat.sub_zero, List.drop_zero]
  show xs.take (if (-1 : Int) < 0 then (-1 + (xs.length : Int)).toNat else min (-1 : Int).toNat xs.length) = _
  rw [if_pos (by decide), List.dropLast_eq_take]
  congr 1
  omega
section
variable {δ : Δ}
theorem star_ret {fe : Δ → M D} {fr : Δ → M (List D)} {x : D} {ys zs : List D} (h : fe δ = M.ret x) (hx : x.items = some ys) (h' : fr δ = M.ret zs) : fStar fe fr δ = M.ret (ys ++ zs) := by
  unfold fStar
  rw [h, M.ret_bind, hx]
  show M.bind (M.ret ys) _ = _
  rw [M.ret_bind, h']
  rfl
theorem cutT_ret {fa : Δ → M D} {fl fh : Δ → M (Option Int)} {xs : List D} {lo hi : Option Int} (h : fa δ = M.ret (.tup xs)) (hl : fl δ = M.ret lo) (hh : fh δ = M.ret hi) : fCut fa fl fh δ = M.ret (.tup (cutD xs lo hi)) := by
  unfold fCut
  rw [h, M.ret_bind, hl, M.ret_bind, hh]
  rfl
theorem cutL_ret {fa : Δ → M D} {fl fh : Δ → M (Option Int)} {xs : List D} {lo hi : Option Int} (h : fa δ = M.ret (.lst xs)) (hl : fl δ = M.ret lo) (hh : fh δ = M.ret hi) : fCut fa fl fh δ = M.ret (.lst (cutD xs lo hi)) := by
  unfold fCut
  rw [h, M.ret_bind, hl, M.ret_bind, hh]
  rfl
theorem fI_ret {f : Δ → M D} {i : Int} (h : f δ = M.ret (.int i)) : fI f δ = M.ret (some i) := by
  unfold fI
  rw [h]
  rfl
theorem add_tup {xs ys : List D} (hl : xs.length + ys.length ≤ 1000) : dAdd (.tup xs) (.tup ys) = M.ret (.tup (xs ++ ys)) := if_pos (Nat.le_trans hl (by decide))
theorem own_of {i : Nat} {ds : List D} (h : δ[i]? = some (some (.own ds))) : own? δ i = some ds := by
  unfold own?
  rw [h]
theorem ext_ret {i : Nat} {f : Δ → M D} {ds ys : List D} (h : δ[i]? = some (some (.own ds))) (hf : f δ = M.ret (.lst ys)) (hl : ds.length + ys.length ≤ 1000000) : fExt i f δ = M.ret (.nx (δ.set i (some (.own (ds ++ ys))))) := by
  unfold fExt
  rw [own_of h]
  dsimp only
  rw [hf, M.ret_bind]
  exact if_pos (Nat.le_trans hl (by decide))
theorem app_ret {i : Nat} {f : Δ → M D} {ds : List D} {y : D} (h : δ[i]? = some (some (.own ds))) (hf : f δ = M.ret y) (hl : ds.length < 1000000) : fApp i f δ = M.ret (.nx (δ.set i (some (.own (ds ++ [y]))))) := by
  unfold fApp
  rw [own_of h]
  dsimp only
  rw [hf, M.ret_bind]
  exact if_pos (Nat.lt_of_lt_of_le hl (by decide))
theorem range_nat {f : Δ → M D} {m : Nat} (hm : m ≤ 1000) (h : f δ = M.ret (.int m)) : iRange1 f δ = M.ret ((List.range m).map fun j : Nat => D.int j) := by
  unfold iRange1
  rw [h, M.ret_bind]
  show (if -16777216 ≤ (m : Int) ∧ (m : Int) ≤ 16777216 then M.ret (rangeD 0 (m : Int).toNat) else M.stuck) = _
  rw [if_pos (by omega), Int.toNat_natCast]
  unfold rangeD
  congr 1
  exact List.map_congr_left fun j _ => by simp
theorem seqT_ret {f : Δ → M D} {xs : List D} (h : f δ = M.ret (.tup xs)) : iSeq f δ = M.ret xs := by
  unfold iSeq
  rw [h]
  rfl
theorem seqL_ret {f : Δ → M D} {xs : List D} (h : f δ = M.ret (.lst xs)) : iSeq f δ = M.ret xs := by
  unfold iSeq
  rw [h]
  rfl
theorem enumL_ret {f : Δ → M D} {xs : List D} (h : f δ = M.ret (.lst xs)) : iEnum f δ = M.ret (xs.zipIdx.map fun p => .tup [.int (p.2 : Nat), p.1]) := by
  unfold iEnum
  rw [h]
  rfl
theorem for_ret {fi : Δ → M (List D)} {gg : D → Δ → Option Δ} {F : Δ → M Fl} {ds : List D} {o : Fl} (h : fi δ = M.ret ds) (h' : loopM gg F ds δ = M.ret o) : fFor fi gg F δ = M.ret o := by
  unfold fFor
  rw [h, M.ret_bind, h']
theorem parO_ret {i j : Nat} {fa fb : Δ → M D} {x : D} {ys : List D} (ha : fa δ = M.ret x) (hb : fb δ = M.ret (.lst ys)) : fPar2 i j false true fa fb δ = M.ret (.nx ((δ.set i (some (.d x))).set j (some (.own ys)))) := by
  unfold fPar2
  rw [ha, M.ret_bind, hb, M.ret_bind]
  rfl
theorem parO2_ret {i j : Nat} {fa fb : Δ → M D} {xs : List D} {y : D} (ha : fa δ = M.ret (.lst xs)) (hb : fb δ = M.ret y) : fPar2 i j true false fa fb δ = M.ret (.nx ((δ.set i (some (.own xs))).set j (some (.d y)))) := by
  unfold fPar2
  rw [ha, M.ret_bind, hb, M.ret_bind]
  rfl
theorem eqv_nil : ∀ xs : List D, D.eqv (.lst xs) (.lst []) = xs.isEmpty
  | [] => by unfold D.eqv D.py D.pys PyData.eqv PyData.eqvAll; rfl
  | x :: xs => by unfold D.eqv D.py D.pys PyData.eqv PyData.eqvAll; rfl
theorem dEq_nil {xs : List D} (h : D.shs 63 xs = true) : dEq (.lst xs) (.lst []) = M.ret (.bl xs.isEmpty) := by
  have h1 : (D.lst xs).sh 64 = true := by unfold D.sh; exact h
  have h2 : (D.lst []).sh 64 = true := by unfold D.sh D.shs; rfl
  unfold dEq
  rw [h1, h2, eqv_nil]
  rfl
theorem dNe_nil {xs : List D} (h : D.shs 63 xs = true) : dNe (.lst xs) (.lst []) = M.ret (.bl (!xs.isEmpty)) := by
  have h1 : (D.lst xs).sh 64 = true := by unfold D.sh; exact h
  have h2 : (D.lst []).sh 64 = true := by unfold D.sh D.shs; rfl
  unfold dNe
  rw [h1, h2, eqv_nil]
  rfl
theorem atI_nat {α : Type} {xs : List α} {k : Nat} (h : k < xs.length) : atI xs (k : Int) = some xs[k] := by
  unfold atI ixN
  rw [if_pos (by omega), if_pos (by omega)]
  show xs[(k : Int).toNat]? = _
  rw [Int.toNat_natCast, List.getElem?_eq_getElem h]
theorem ix_nat {xs : List D} {k : Nat} (h : k < xs.length) : dIx (.lst xs) (.int (k : Int)) = M.ret xs[k] := by
  show M.opt (atI xs (k : Int)) = _
  rw [atI_nat h]
  rfl
theorem ixT_nat {xs : List D} {k : Nat} (h : k < xs.length) : dIx (.tup xs) (.int (k : Int)) = M.ret xs[k] := by
  show M.opt (atI xs (k : Int)) = _
  rw [atI_nat h]
  rfl
theorem ix_head {x : D} {xs : List D} : dIx (.lst (x :: xs)) (.int 0) = M.ret x := ix_nat (k := 0) (xs := x :: xs) (by simp)
theorem ixT_head {x : D} {xs : List D} : dIx (.tup (x :: xs)) (.int 0) = M.ret x := ixT_nat (k := 0) (xs := x :: xs) (by simp)
/-- one turn of a while -/
theorem while_step {n : Nat} {fc : Δ → M Bool} {F : Δ → M Fl} {δ1 : Δ} (h : fc δ = M.ret true) (h' : F δ = M.ret (.nx δ1)) : whileM (n + 1) fc F δ = whileM n fc F δ1 := by
  rw [whileM]
  dsimp only
  rw [h, M.ret_bind, if_pos rfl, h', M.ret_bind]
theorem while_end {n : Nat} {fc : Δ → M Bool} {F : Δ → M Fl} (h : fc δ = M.ret false) : whileM (n + 1) fc F δ = M.ret (.nx δ) := by
  rw [whileM]
  dsimp only
  rw [h, M.ret_bind, if_neg (by decide)]
end
end DL

set_option Elab.async false
set_option linter.all false
set_option maxRecDepth 100000
set_option maxHeartbeats 4000000
/-! DL29: a call that is lent an own list: it stays the caller's own, where what comes back and the store hold no lists within. -/
namespace DL
open PySem PySem.Spec PyProof.Rows L2
mutual
def D.flat : D → Bool
  | .non => true
  | .bl _ => true
  | .int _ => true
  | .str _ => true
  | .tup xs => D.flats xs
  | .lst _ => false
  | .dct _ => false
  | .ob _ => false
  | .fn _ => true
  | .scr _ => false
def D.flats : List D → Bool
  | [] => true
  | x :: xs => D.flat x && D.flats xs
end
mutual
theorem Rp.flat {K : PySem.W.Frag} {g g' : Gh} {H : Hp} : ∀ {v : V} {d : D}, d.flat = true → Rp K g H v d → Rp K g' H v d
  | _, _, _, .non => .non
  | _, _, _, .bl b => .bl b
  | _, _, _, .int i => .int i
  | _, _, _, .str s => .str s
  | _, _, h, .lst _ _ _ _ => by unfold D.flat at h; cases h
  | _, _, h, .tup s l r => .tup s l (RpAll.flat (by unfold D.flat at h; exact h) r)
  | _, _, h, .dct _ _ _ _ _ => by unfold D.flat at h; cases h
  | _, _, h, .ob _ => by unfold D.flat at h; cases h
  | _, _, _, .fn a => .fn a
  | _, _, h, .scr _ _ => by unfold D.flat at h; cases h
theorem RpAll.flat {K : PySem.W.Frag} {g g' : Gh} {H : Hp} : ∀ {vs : List V} {ds : List D}, D.flats ds = true → RpAll K g H vs ds → RpAll K g' H vs ds
  | _, _, _, .nil => .nil
  | _, _, h, .cons r t => by
    unfold D.flats at h
    rw [Bool.and_eq_true] at h
    exact .cons (Rp.flat h.1 r) (RpAll.flat h.2 t)
end
/-- surely not the same rows -/
def diffB (ds es : List D) : Bool := ds.length != es.length || (match ds, es with
  | .tup _ :: _, .int _ :: _ => true
  | _, _ => false)
theorem diffB_ne {K : PySem.W.Frag} {g g' : Gh} {H : Hp} {xs : List V} {ds es : List D} (h : diffB ds es = true) (r : RpAll K g H xs ds) (r' : RpAll K g' H xs es) : False := by
  unfold diffB at h
  rw [Bool.or_eq_true] at h
  rcases h with h | h
  · have := r.length
    have := r'.length
    simp at h
    omega
  · split at h
    · cases r with
      | cons a _ =>
        cases r' with
        | cons b _ =>
          cases a
          cases b
    · cases h
def SO.flat : SO → Bool
  | .ml xs => D.flats xs
def okB (es : List D) : D → Bool
  | .lst ys => D.flats ys && diffB ys es
  | d => d.flat
def bChk (es : List D) (d : D) : M D := fun S => if (S.all SO.flat && okB es d) = true then .ok d S else .stk
def fCallB (m : List D → M D) (n i : Nat) (fr : Δ → M (List D)) : Δ → M D := fun δ => match own? δ i with
  | some es => M.bind (fr δ) fun ds => if ds.length = n then M.bind (M.quiet (m ds)) (bChk es) else M.stuck
  | none => M.stuck
def Gh.unz (g : Gh) (a : Addr) : Gh := ⟨fun x => g.Z x ∧ x ≠ a, g.ρ⟩
section
variable {N : Nv} {W : XK} {X : Cx} {md : Md} {e a b : Expr} {es : List Expr} {f fa fb : Δ → M D} {g0 : G0} {g : Gh} {H0 H : Hp} {S : Store} {δ : Δ} {σ : L2.St} {Q : VK} {pos p : Pos}
/-- arguments, where the own list of slot i stands as frozen -/
def tAB (N : Nv) (W : XK) (i : Nat) (f : Δ → M (List D)) : TA := fun σ H Q => ∃ g0 H0 g S δ c ls, Good N g0 H0 g S δ σ H ∧ δ[i]? = some (some (.own ls)) ∧ σ[i]? = some (some (.ref c)) ∧ Res N W g H (fun g' H' ds => ∀ vs, RpAll N.K (g'.fz c) H' vs ds → Q vs H') (f δ S)
def DAB (N : Nv) (W : XK) (X : Cx) (i : Nat) (es : List Expr) (f : Δ → M (List D)) : Prop := PA X es (tAB N W i f)
theorem kq_fz (g : Gh) (H : Hp) (c : Addr) : Kq g H (g.fz c) H := ⟨fun _ h => .inr h, ⟨[], by simp [Gh.fz]⟩, fun _ _ _ h => h, fun _ _ h => h, fun _ _ _ h => h⟩
theorem tAB.seq {β : Type} {i : Nat} {m : Δ → M (List D)} {k : List D → M β} {R : Gh → Hp → β → Prop} {Q : List V → Hp → Prop} {c : Addr} {ls : List D} (G : Good N g0 H0 g S δ σ H) (hi : δ[i]? = some (some (.own ls))) (hs : σ[i]? = some (some (.ref c))) (r : Res N W g H R (M.bind (m δ) k S))
    (hk : ∀ xs S1 vs H1 g1, Kp g H g1 H1 → Good N g0 H0 g1 S1 δ σ H1 → RpAll N.K (g1.fz c) H1 vs xs → Res N W g1 H1 R (k xs S1) → Q vs H1) : tAB N W i m σ H Q := by
  refine ⟨g0, H0, g, S, δ, c, ls, G, hi, hs, ?_⟩
  have h := r.first
  cases e : m δ S with
  | ok a S1 =>
    rw [e] at h
    intro g' H' k' st v rv
    obtain ⟨S', e', q⟩ := h g' H' k' st
    cases e'
    exact hk a S1 v H' g' k' (G.later k' st) rv (q.later k')
  | err c x S1 => rw [e] at h; exact h
  | stk => rw [e] at h; exact h
theorem dab_nil {i : Nat} : DAB N W X i [] fNil := pa_nil.imp fun σ H Q ⟨g0, H0, g, S, δ, c, ls, G, hi, hs, q⟩ => q.now G.st [] .nil
theorem dab_cons {i : Nat} {fr : Δ → M (List D)} (he : DE N W X .fz e f) (hr : DAB N W X i es fr) (hst : starEach (e :: es) X.env = (false, eval e X.env) :: starEach es X.env := by rfl) : DAB N W X i (e :: es) (fCons f fr) :=
  (pa_cons he hr hst).imp fun σ H Q ⟨g0, H0, g, S, δ, c, ls, G, hi, hs, q⟩ => tE.seq G q fun x S1 v H1 g1 k1 G1 rv q1 => tAB.seq G1 hi hs q1 fun xs S2 vs H2 g2 k2 G2 rvs q2 => q2.now G2.st _ (.cons ((Rp.keep k2 rv).keepQ (kq_fz _ _ _)) rvs)
theorem dab_own {i : Nat} {fr : Δ → M (List D)} (he : PE X e (tVar i)) (hr : DAB N W X i es fr) (hst : starEach (e :: es) X.env = (false, eval e X.env) :: starEach es X.env := by rfl) : DAB N W X i (e :: es) (fCons (gb i) fr) :=
  (pa_cons he hr hst).imp fun σ H Q ⟨g0, H0, g, S, δ, c, ls, G, hi, hs, q⟩ => by
    have eg : gb i δ = M.ret (.lst ls) := by
      unfold gb
      rw [hi]
    refine ⟨.ref c, hs, ?_⟩
    have q' : Res N W g H (fun g' H' ds => ∀ vs, RpAll N.K (g'.fz c) H' vs ds → Q vs H') (M.bind (fr δ) (fun xs => M.ret (.lst ls :: xs)) S) := by
      unfold fCons at q
      rw [eg, M.ret_bind] at q
      exact q
    exact tAB.seq G hi hs q' fun xs S2 vs H2 g2 k2 G2 rvs q2 => by
      obtain ⟨v, hv, a, ws, ev, h0, h1, nz, nr, hl, ra⟩ := G2.sl i _ hi
      rw [hs] at hv
      cases hv
      cases ev
      exact q2.now G2.st _ (.cons (.lst (.inl rfl) h1 hl (ra.keepQ (kq_fz _ _ _))) rvs)
theorem StOk.flat {K : PySem.W.Frag} {g' : Gh} (st : StOk K g S H) (hr : g'.ρ = g.ρ) (hz : ∀ x, g'.Z x → g.Z x) (hf : S.all SO.flat = true) : StOk K g' S H where
  len := by rw [hr]; exact st.len
  nd := by rw [hr]; exact st.nd
  nz := fun a h z => st.nz a (hr ▸ h) (hz a z)
  zt := fun a z => st.zt a (hz a z)
  at_ := fun i a o h1 h2 => by
    rw [hr] at h1
    have h := st.at_ i a o h1 h2
    have hf := List.all_eq_true.mp hf o (List.mem_of_getElem? h2)
    cases o with
    | ml xs =>
      obtain ⟨vs, e, l, r⟩ := h
      exact ⟨vs, e, l, r.flat hf⟩
theorem de_callB {k n i : Nat} {fA : Addr} {fd : FuncData} {ps : List Str} {m : List D → M D} {fr : Δ → M (List D)} {x : Str} (F : FnG X.prog X.w X.K X.mg X.base CX0 k fA fd ps (spD N n m)) (hr : RoomG k X.A) (hg : Gl X x) (hm : X.mg x = some (.ref fA)) (hk : PySem.W.keepIn X.K (.ref fA) = true) (hb : Binds X.K fd ps [])
    (ha : DAB N W X i (e :: es) fr) (hdb : (x == ("__debug__" : Str)) = false := by decide) (he : starEach (e :: es) X.env = (false, eval e X.env) :: starEach es X.env := by rfl) (hpl : (backTo pos (starEach es X.env)).any (·.1) = false := by rfl) :
    DE N W X .fz (.Call (.Name x p) (e :: es) [] pos) (fCallB m n i fr) :=
  (pe_callG' (E := W) F hr hg hm hk hb Passes0 ha hdb he hpl).imp fun σ H Q ⟨g0, H0, g, S, δ, G, q⟩ => by
    unfold fCallB at q
    cases eo : own? δ i with
    | none => rw [eo] at q; exact q.elim
    | some ls =>
      rw [eo] at q
      have hi := own?_some eo
      obtain ⟨v, hs, c, ws, ev, h0, h1, nz, nr, hl, ra⟩ := G.sl i _ hi
      subst ev
      refine tAB.seq (k := fun ds => if ds.length = n then M.bind (M.quiet (m ds)) (bChk ls) else M.stuck) G hi hs q fun xs S1 vs H1 g1 k1 G1 rvs q1 => ?_
      obtain ⟨hlen, q1⟩ := Res.ite q1
      obtain ⟨v', hs', c', ws', ev', h0', h1', nz', nr', hl', ra'⟩ := G1.sl i _ hi
      rw [hs] at hs'
      cases hs'
      cases ev'
      refine ⟨g1.fz c, S1, xs, hlen, rvs, ⟨G1.st.len, G1.st.nd, fun x hx h => h.elim (fun e => nr' (e ▸ hx)) (G1.st.nz x hx), fun x h => h.elim (fun e => ⟨_, e ▸ h1'⟩) (G1.st.zt x), fun i x o h1 h2 => (G1.st.at_ i x o h1 h2).keep (kq_fz _ _ _) rfl⟩, ?_⟩
      cases em : m xs S1 with
      | stk =>
        rw [M.bind_stk (by unfold M.quiet; rw [em]; rfl)] at q1
        exact q1.elim
      | err c2 x2 S2 =>
        rw [M.bind_stk (by unfold M.quiet; rw [em]; rfl)] at q1
        exact q1.elim
      | ok d S2 =>
        rw [M.bind_ok (show M.quiet (m xs) S1 = .ok d S2 by unfold M.quiet; rw [em]; rfl)] at q1
        intro g2 H2 kp st2 u ru
        by_cases hc : (S2.all SO.flat && okB ls d) = true
        · have eb : bChk ls d S2 = .ok d S2 := if_pos hc
          rw [eb] at q1
          rw [Bool.and_eq_true] at hc
          have kp' : Kp g1 H1 (g2.unz c) H2 := ⟨fun x z => ⟨kp.z x (.inr z), fun e => nz' (e ▸ z)⟩, kp.r, fun x z => (kp.zf x z.1).imp (fun z1 => z1.resolve_left z.2) id, kp.rf, kp.kd, fun x o z => kp.kz x o (.inr z), kp.kt, kp.kf, kp.kr⟩
          have st' : StOk N.K (g2.unz c) S2 H2 := st2.flat rfl (fun x z => z.1) hc.1
          refine q1 (g2.unz c) H2 kp' st' u ?_
          have hc2 := hc.2
          cases ru with
          | non => exact .non
          | bl b => exact .bl b
          | int b => exact .int b
          | str b => exact .str b
          | lst z s l r =>
            rename_i p xs' ds'
            unfold okB at hc2
            rw [Bool.and_eq_true] at hc2
            have hne : p ≠ c := fun ep => by
              subst ep
              have h3 := kp.kr _ _ h1' nr'
              rw [s] at h3
              cases h3
              exact diffB_ne hc2.2 r (ra'.keepQ ((kq_fz _ _ _).trans kp.q))
            exact .lst ⟨z, hne⟩ s l (r.flat hc2.1)
          | tup s l r =>
            unfold okB D.flat at hc2
            exact .tup s l (r.flat hc2)
          | dct _ _ _ _ _ => unfold okB D.flat at hc2; cases hc2
          | ob _ => unfold okB D.flat at hc2; cases hc2
          | fn b => exact .fn b
          | scr _ _ => unfold okB D.flat at hc2; cases hc2
        · have eb : bChk ls d S2 = .stk := if_neg hc
          rw [eb] at q1
          exact q1.elim
end
theorem seq_ok {F F' : Δ → M Fl} {δ δ1 : Δ} {S S1 : Store} (h : F δ S = .ok (.nx δ1) S1) : fSeq F F' δ S = F' δ1 S1 := by
  unfold fSeq
  rw [M.bind_ok h]
theorem set_ok {i : Nat} {f : Δ → M D} {δ : Δ} {d : D} {S S1 : Store} (h : f δ S = .ok d S1) : fSet i f δ S = .ok (.nx (δ.set i (some (.d d)))) S1 := by
  unfold fSet
  rw [M.bind_ok h]
  rfl
theorem Okw.ok {α : Type} {m : M α} {S S1 : Store} {a : α} {Q : α → Store → Prop} (h : m S = .ok a S1) (q : Q a S1) : Okw m S Q := ⟨a, S1, h, q⟩
end DL

set_option Elab.async false
set_option maxRecDepth 100000
set_option maxHeartbeats 4000000
namespace K06
open PySem PySem.Spec PyProof.Rows L2 DL
-- meanings
def b__law_cells : Δ → M Fl := (fRet (f1 dListRange (f2 dMax (fun _ => M.ret (.int 1)) (f2 dMin (gv 1) (f1 dLen (gv 0))))))
def m__law_cells : List D → M D := fnM 2 2 (b__law_cells)
def b__law_pot : Δ → M Fl := (fSeq (fSet 2 (fIf (tV (f2 dLt (gv 1) (f1 dLen (gv 0)))) (f2 dIx (gv 0) (gv 1)) (f2 dAdd (f2 dAdd (f2 dMod (f1 dInt (f1 dSum (fCut (gv 0) (fun _ => M.ret none) (fI (fun _ => M.ret (.int 1)))))) (fun _ => M.ret (.int 1000003))) (f2 dMul (fun _ => M.ret (.int 2117)) (gv 1))) (fun _ => M.ret (.int 4157)))))
    (fSeq (fSet 3 (f2 dMul (f2 dMod (f1 dInt (f1 dAbs (gv 2))) (f2 dPow (f2 dPow (fun _ => M.ret (.int 10)) (fun _ => M.ret (.int 60))) (fun _ => M.ret (.int 5)))) (f1 dInt (f2 dGe (f1 dAbs (gv 2)) (f2 dPow (fun _ => M.ret (.int 10)) (fun _ => M.ret (.int 18)))))))
    (fSeq (fSet 4 (f2 dMod (f1 dInt (gv 2)) (fun _ => M.ret (.int 2305843009213693951))))
    (fRet (fun δ => M.bind ((fLst (fCons (gv 3) (fCons (f2 dMod (f1 dInt (f2 dAdd (f2 dAdd (f2 dMul (gv 4) (fun _ => M.ret (.int 79449))) (f2 dMul (f2 dMul (fun _ => M.ret (.int 10843)) (gv 1)) (gv 1))) (fun _ => M.ret (.int 1517)))) (fun _ => M.ret (.int 2305843009213693921))) (fCons (fun _ => M.ret (.int 0)) fNil)))) δ) mkOb)))))
def m__law_pot : List D → M D := fnM 2 5 (b__law_pot)
def b__law_lots : Δ → M Fl := (fSeq (fSet 1 (fLst (fCons (fTup fNil) fNil)))
    (fSeq (fFor (iRange1 (gv 0)) (ggName 2)
    (fSet 1 (f2 dCat (gv 1) (fLc (iSeq (gv 1)) (ggName 3) tYesM (f2 dAdd (gv 3) (fTup (fCons (f1 dInt (gv 2)) fNil))) [3]))))
    (fRet (f1 dSortI (gv 1)))))
def m__law_lots : List D → M D := fnM 1 4 (b__law_lots)
def b__law_take : Δ → M Fl := (fSeq (fIfS (tV (f2 dGt (f2 dIx (gv 0) (fun _ => M.ret (.int 0))) (fun _ => M.ret (.int 0))))
    (fSeq (fSet 4 (f2 dMod (f1 dInt (f2 dIx (gv 0) (fun _ => M.ret (.int 0)))) (gv 1)))
    (fSeq (fPutOb (f2 dDiv (f2 dIx (gv 0) (fun _ => M.ret (.int 0))) (gv 1)) (gv 0) (fun _ => M.ret (.int 0)))
    (fRet (gv 4))))
    fNx)
    (fSeq (fPutOb (f2 dAdd (f2 dIx (gv 0) (fun _ => M.ret (.int 2))) (fun _ => M.ret (.int 1))) (gv 0) (fun _ => M.ret (.int 2)))
    (fSeq (fSet 2 (f2 dIx (fLst (fCons (fun _ => M.ret (.int 2147483647)) (fCons (fun _ => M.ret (.int 2147483629)) (fCons (fun _ => M.ret (.int 2147483587)) (fCons (fun _ => M.ret (.int 2147483579)) fNil))))) (f2 dMod (f1 dInt (f2 dIx (gv 0) (fun _ => M.ret (.int 2)))) (fun _ => M.ret (.int 4)))))
    (fSeq (fSet 3 (f2 dMod (f1 dInt (f2 dPow (f1 dInt (f2 dAdd (f2 dAdd (f2 dIx (gv 0) (fun _ => M.ret (.int 1))) (f2 dMul (f2 dMul (fun _ => M.ret (.int 107329)) (f2 dIx (gv 0) (fun _ => M.ret (.int 2)))) (f2 dIx (gv 0) (fun _ => M.ret (.int 2))))) (fun _ => M.ret (.int 2217)))) (fun _ => M.ret (.int 3)))) (gv 2)))
    (fRet (f2 dMod (f1 dInt (f2 dDiv (f2 dMul (gv 3) (f2 dAdd (f2 dMod (f1 dInt (gv 3)) (fun _ => M.ret (.int 10007))) (f2 dMul (fun _ => M.ret (.int 1419)) (f2 dIx (gv 0) (fun _ => M.ret (.int 2)))))) (fun _ => M.ret (.int 307)))) (gv 1)))))))
def m__law_take : List D → M D := fnM 2 5 (b__law_take)
def b__law_worths : Δ → M Fl := (fSeq (fPar2 5 6 false true (fCall m__law_lots 1 (fCons (gv 1) fNil)) (fLst fNil))
    (fSeq (fFor (iRange1 (fCall m__law_take 2 (fCons (gv 0) (fCons (fun _ => M.ret (.int 6)) fNil)))) (ggName 2)
    (fApp 6 (fTup (fCons (fLc (iRange1 (gv 1)) (ggName 10) (tV (f2 dEq (fCall m__law_take 2 (fCons (gv 0) (fCons (fun _ => M.ret (.int 2)) fNil))) (fun _ => M.ret (.int 0)))) (gv 10) [10]) (fCons (f1 dInt (fCall m__law_take 2 (fCons (gv 0) (fCons (fun _ => M.ret (.int 9)) fNil)))) fNil)))))
    (fSeq (fPar2 7 8 false false (f1 dInt (fCall m__law_take 2 (fCons (gv 0) (fCons (fun _ => M.ret (.int 7)) fNil)))) (f1 dInt (fCall m__law_take 2 (fCons (gv 0) (fCons (fun _ => M.ret (.int 4)) fNil)))))
    (fSeq (fOwn 3 (fLst fNil))
    (fSeq (fFor (iSeq (gv 5)) (ggName 4)
    (fFz 6 (fSeq (fSet 9 (f1 dSum (fLc (iSeq (gv 6)) (ggTup 2 (ggCons (ggName 11) (ggCons (ggName 12) ggNil))) (tV (f1 dAny (fLc (iSeq (gv 11)) (ggName 10) tYesM (f2 dIn (gv 10) (gv 4)) [10]))) (gv 12) [11, 12])))
    (fApp 3 (f1 dInt (f2 dAdd (gv 9) (f2 dMin (gv 7) (f2 dMul (gv 8) (f1 dLen (gv 4))))))))))
    (fRet (fTup (fCons (f1 dInt (gv 1)) (fCons (f1 dTup (gb 3)) fNil)))))))))
def m__law_worths : List D → M D := fnM 2 13 (b__law_worths)
def b_is_integer : Δ → M Fl := (fRet (fAnd (f1 (dIsi "int") (gv 0)) (f1 dNot (f1 (dIsi "bool") (gv 0)))))
def m_is_integer : List D → M D := fnM 1 1 (b_is_integer)
def b_is_between : Δ → M Fl := (fRet (fAnd (fCall m_is_integer 1 (fCons (gv 0) fNil)) (fChain dLe dLe (gv 1) (gv 0) (gv 2))))
def m_is_between : List D → M D := fnM 3 3 (b_is_between)
def b_are_between : Δ → M Fl := (fRet (fAnd (f1 (dIsi "tuple") (gv 0)) (f1 dAll (fLc (iSeq (gv 0)) (ggName 3) tYesM (fCall m_is_between 3 (fCons (gv 3) (fCons (gv 1) (fCons (gv 2) fNil)))) [3]))))
def m_are_between : List D → M D := fnM 3 4 (b_are_between)
def b_lots_of : Δ → M Fl := (fSeq (fSet 1 (fLst fNil))
    (fSeq (fFor (iSeq (f1 dRev (gv 0))) (ggName 2)
    (fSet 1 (f2 dCat (fLst (fCons (fTup (fCons (gv 2) fNil)) (fStar (fLc (iSeq (gv 1)) (ggName 3) tYesM (fTup (fCons (gv 2) (fStar (gv 3) fNil))) [3]) fNil))) (gv 1))))
    (fRet (fLst (fCons (fTup fNil) (fStar (gv 1) fNil))))))
def m_lots_of : List D → M D := fnM 1 4 (b_lots_of)
def b_all_of : Δ → M Fl := (fRet (f1 dTup (f1 dListRange (gv 0))))
def m_all_of : List D → M D := fnM 1 1 (b_all_of)
def b_every_of : Δ → M Fl := (fRet (fCall m_lots_of 1 (fCons (fCall m_all_of 1 (fCons (gv 0) fNil)) fNil)))
def m_every_of : List D → M D := fnM 1 1 (b_every_of)
def b_are_worths : Δ → M Fl := (fSeq (fIfS (tOr' (tNt (tV (f1 (dIsi "tuple") (gv 0)))) (tOr' (tV (f2 dNe (f1 dLen (gv 0)) (fun _ => M.ret (.int 2)))) (tNt (tV (fCall m_is_between 3 (fCons (f2 dIx (gv 0) (fun _ => M.ret (.int 0))) (fCons (fun _ => M.ret (.int 1)) (fCons (fun _ => M.ret (.int 7)) fNil))))))))
    (fRet (fun _ => M.ret (.bl false)))
    fNx)
    (fSeq (fIfS (tOr' (tNt (tV (fCall m_are_between 3 (fCons (f2 dIx (gv 0) (fun _ => M.ret (.int 1))) (fCons (f2 dSub (fun _ => M.ret (.int 0)) (fun _ => M.ret (.int 1000000000))) (fCons (fun _ => M.ret (.int 1000000000)) fNil)))))) (tV (f2 dNe (f1 dLen (f2 dIx (gv 0) (fun _ => M.ret (.int 1)))) (f1 dLen (fCall m_every_of 1 (fCons (f2 dIx (gv 0) (fun _ => M.ret (.int 0))) fNil))))))
    (fRet (fun _ => M.ret (.bl false)))
    fNx)
    (fRet (f2 dEq (f2 dIx (f2 dIx (gv 0) (fun _ => M.ret (.int 1))) (fun _ => M.ret (.int 0))) (fun _ => M.ret (.int 0))))))
def m_are_worths : List D → M D := fnM 1 1 (b_are_worths)
def b_check_worths : Δ → M Fl := (fIfS (tNt (tV (fCall m_are_worths 1 (fCons (gv 0) fNil))))
    fNever
    fNx)
def m_check_worths : List D → M D := fnM 1 1 (b_check_worths)
def b_table_of : Δ → M Fl := (fRet (fDc (iZip (fCall m_every_of 1 (fCons (f2 dIx (gv 0) (fun _ => M.ret (.int 0))) fNil)) (f2 dIx (gv 0) (fun _ => M.ret (.int 1)))) (ggTup 2 (ggCons (ggName 1) (ggCons (ggName 2) ggNil))) tYesM (gv 1) (gv 2) [1, 2]))
def m_table_of : List D → M D := fnM 1 3 (b_table_of)
def b_less_of : Δ → M Fl := (fRet (f1 dTup (fLc (iSeq (gv 0)) (ggName 2) (tV (f2 dNotIn (gv 2) (gv 1))) (gv 2) [2])))
def m_less_of : List D → M D := fnM 2 3 (b_less_of)
def b_rest_of : Δ → M Fl := (fRet (fCall m_less_of 2 (fCons (fCall m_all_of 1 (fCons (gv 0) fNil)) (fCons (gv 1) fNil))))
def m_rest_of : List D → M D := fnM 2 2 (b_rest_of)
def b_with_post : Δ → M Fl := (fRet (f1 dTup (f1 dSortI (fTup (fStar (gv 0) (fCons (gv 1) fNil))))))
def m_with_post : List D → M D := fnM 2 2 (b_with_post)
def b_extra : Δ → M Fl := (fSeq (fSet 4 (f2 dAdd (f2 dIx (gv 0) (fCall m_with_post 2 (fCons (fCall m_with_post 2 (fCons (gv 1) (fCons (gv 2) fNil))) (fCons (gv 3) fNil)))) (f2 dIx (gv 0) (gv 1))))
    (fRet (f2 dSub (f2 dSub (gv 4) (f2 dIx (gv 0) (fCall m_with_post 2 (fCons (gv 1) (fCons (gv 2) fNil))))) (f2 dIx (gv 0) (fCall m_with_post 2 (fCons (gv 1) (fCons (gv 3) fNil)))))))
def m_extra : List D → M D := fnM 4 5 (b_extra)
def b_all_extras : Δ → M Fl := (fSeq (fPar2 2 3 false true (fCall m_table_of 1 (fCons (gv 0) fNil)) (fLst fNil))
    (fSeq (fFor (iSeq (fCall m_every_of 1 (fCons (f2 dIx (gv 0) (fun _ => M.ret (.int 0))) fNil))) (ggName 1)
    (fSeq (fSet 4 (fCall m_rest_of 2 (fCons (f2 dIx (gv 0) (fun _ => M.ret (.int 0))) (fCons (gv 1) fNil))))
    (fFor (iEnum (gv 4)) (ggTup 2 (ggCons (ggName 5) (ggCons (ggName 6) ggNil)))
    (fExt 3 (fLc (iSeq (fCut (gv 4) (fI (f2 dAdd (gv 5) (fun _ => M.ret (.int 1)))) (fun _ => M.ret none))) (ggName 7) tYesM (fTup (fCons (fCall m_extra 4 (fCons (gv 2) (fCons (gv 1) (fCons (gv 6) (fCons (gv 7) fNil))))) (fCons (gv 1) (fCons (gv 6) (fCons (gv 7) fNil))))) [7])))))
    (fFz 3 (fRet (gv 3)))))
def m_all_extras : List D → M D := fnM 1 8 (b_all_extras)
def b_is_less : Δ → M Fl := (fRet (f1 dAll (fLc (iSeq (fCall m_all_extras 1 (fCons (gv 0) fNil))) (ggTup 4 (ggCons (ggName 1) (ggCons (ggName 2) (ggCons (ggName 3) (ggCons (ggName 4) ggNil))))) tYesM (f2 dLe (gv 1) (fun _ => M.ret (.int 0))) [1, 2, 3, 4])))
def m_is_less : List D → M D := fnM 1 5 (b_is_less)
def b_all_gains : Δ → M Fl := (fSeq (fPar2 2 3 false true (fCall m_table_of 1 (fCons (gv 0) fNil)) (fLst fNil))
    (fSeq (fFor (iSeq (fCall m_every_of 1 (fCons (f2 dIx (gv 0) (fun _ => M.ret (.int 0))) fNil))) (ggName 1)
    (fExt 3 (fLc (iSeq (fCall m_rest_of 2 (fCons (f2 dIx (gv 0) (fun _ => M.ret (.int 0))) (fCons (gv 1) fNil)))) (ggName 4) tYesM (fTup (fCons (f2 dSub (f2 dIx (gv 2) (fCall m_with_post 2 (fCons (gv 1) (fCons (gv 4) fNil)))) (f2 dIx (gv 2) (gv 1))) (fCons (gv 1) (fCons (gv 4) fNil)))) [4])))
    (fFz 3 (fRet (gv 3)))))
def m_all_gains : List D → M D := fnM 1 5 (b_all_gains)
def b_does_grow : Δ → M Fl := (fRet (f1 dAll (fLc (iSeq (fCall m_all_gains 1 (fCons (gv 0) fNil))) (ggTup 3 (ggCons (ggName 1) (ggCons (ggName 2) (ggCons (ggName 3) ggNil)))) tYesM (f2 dGe (gv 1) (fun _ => M.ret (.int 0))) [1, 2, 3])))
def m_does_grow : List D → M D := fnM 1 4 (b_does_grow)
def b_told_less : Δ → M Fl := (fSeq (fFor (iSeq (fCall m_all_extras 1 (fCons (gv 0) fNil))) (ggTup 4 (ggCons (ggName 1) (ggCons (ggName 2) (ggCons (ggName 3) (ggCons (ggName 4) ggNil)))))
    (fIfS (tV (f2 dGt (gv 1) (fun _ => M.ret (.int 0))))
    (fRet (fTup (fCons (fun _ => M.ret (.str "more")) (fCons (gv 2) (fCons (gv 3) (fCons (gv 4) fNil))))))
    fNx))
    (fRet (fTup (fCons (fun _ => M.ret (.str "less")) fNil))))
def m_told_less : List D → M D := fnM 1 5 (b_told_less)
def b_grows : Δ → M Fl := (fSeq (fExpr (fCall m_check_worths 1 (fCons (gv 0) fNil)))
    (fSeq (fFor (iSeq (fCall m_all_gains 1 (fCons (gv 0) fNil))) (ggTup 3 (ggCons (ggName 1) (ggCons (ggName 2) (ggCons (ggName 3) ggNil))))
    (fIfS (tV (f2 dLt (gv 1) (fun _ => M.ret (.int 0))))
    (fRet (fTup (fCons (fun _ => M.ret (.str "falls")) (fCons (gv 2) (fCons (gv 3) fNil)))))
    fNx))
    (fRet (fTup (fCons (fun _ => M.ret (.str "grows")) fNil)))))
def m_grows : List D → M D := fnM 1 4 (b_grows)
def b_check_less : Δ → M Fl := (fSeq (fExpr (fCall m_check_worths 1 (fCons (gv 0) fNil)))
    (fSeq (fIfS (tNt (tV (fCall m_is_less 1 (fCons (gv 0) fNil))))
    fNever
    fNx)
    (fIfS (tNt (tV (fCall m_does_grow 1 (fCons (gv 0) fNil))))
    fNever
    fNx)))
def m_check_less : List D → M D := fnM 1 1 (b_check_less)
def b_check_nights : Δ → M Fl := (fIfS (tNt (tV (fCall m_is_between 3 (fCons (gv 0) (fCons (fun _ => M.ret (.int 1)) (fCons (fun _ => M.ret (.int 4)) fNil))))))
    fNever
    fNx)
def m_check_nights : List D → M D := fnM 1 1 (b_check_nights)
def b_is_plan : Δ → M Fl := (fRet (fAnd (fCall m_are_between 3 (fCons (gv 2) (fCons (fun _ => M.ret (.int 0)) (fCons (f2 dSub (gv 1) (fun _ => M.ret (.int 1))) fNil)))) (f2 dEq (f1 dLen (gv 2)) (f2 dIx (gv 0) (fun _ => M.ret (.int 0))))))
def m_is_plan : List D → M D := fnM 3 3 (b_is_plan)
def b_check_plan : Δ → M Fl := (fSeq (fExpr (fCall m_check_nights 1 (fCons (gv 1) fNil)))
    (fIfS (tNt (tV (fCall m_is_plan 3 (fCons (gv 0) (fCons (gv 1) (fCons (gv 2) fNil))))))
    fNever
    fNx))
def m_check_plan : List D → M D := fnM 3 3 (b_check_plan)
def b_check_settling : Δ → M Fl := (fSeq (fExpr (fCall m_check_less 1 (fCons (gv 0) fNil)))
    (fSeq (fExpr (fCall m_check_nights 1 (fCons (gv 1) fNil)))
    (fExpr (fCall m_check_plan 3 (fCons (gv 0) (fCons (gv 1) (fCons (gv 2) fNil)))))))
def m_check_settling : List D → M D := fnM 3 3 (b_check_settling)
def b_lots_by : Δ → M Fl := (fRet (fLc (iRange1 (gv 0)) (ggName 2) tYesM (f1 dTup (fLc (iEnum (gv 1)) (ggTup 2 (ggCons (ggName 3) (ggCons (ggName 4) ggNil))) (tV (f2 dEq (gv 4) (gv 2))) (gv 3) [3, 4])) [2]))
def m_lots_by : List D → M D := fnM 2 5 (b_lots_by)
def b_worths_by_night : Δ → M Fl := (fSeq (fSet 3 (fCall m_table_of 1 (fCons (gv 0) fNil)))
    (fRet (fLc (iSeq (fCall m_lots_by 2 (fCons (gv 1) (fCons (gv 2) fNil)))) (ggName 4) tYesM (f2 dIx (gv 3) (gv 4)) [4])))
def m_worths_by_night : List D → M D := fnM 3 5 (b_worths_by_night)
def b_move_done : Δ → M Fl := (fRet (fTup (fStar (fCut (gv 0) (fun _ => M.ret none) (fI (gv 1))) (fCons (gv 2) (fStar (fCut (gv 0) (fI (f2 dAdd (gv 1) (fun _ => M.ret (.int 1)))) (fun _ => M.ret none)) fNil)))))
def m_move_done : List D → M D := fnM 3 3 (b_move_done)
def b_is_better : Δ → M Fl := (fSeq (fSet 5 (f1 dSum (fCall m_worths_by_night 3 (fCons (gv 0) (fCons (gv 1) (fCons (fCall m_move_done 3 (fCons (gv 2) (fCons (gv 3) (fCons (gv 4) fNil)))) fNil))))))
    (fRet (f2 dGt (gv 5) (f1 dSum (fCall m_worths_by_night 3 (fCons (gv 0) (fCons (gv 1) (fCons (gv 2) fNil))))))))
def m_is_better : List D → M D := fnM 5 6 (b_is_better)
def b_better_moves : Δ → M Fl := (fSeq (fOwn 3 (fLst fNil))
    (fSeq (fFor (iRange1 (f2 dIx (gv 0) (fun _ => M.ret (.int 0)))) (ggName 4)
    (fExt 3 (fLc (iRange1 (gv 1)) (ggName 5) (tV (fCall m_is_better 5 (fCons (gv 0) (fCons (gv 1) (fCons (gv 2) (fCons (gv 4) (fCons (gv 5) fNil))))))) (fTup (fCons (gv 4) (fCons (gv 5) fNil))) [5])))
    (fFz 3 (fRet (gv 3)))))
def m_better_moves : List D → M D := fnM 3 6 (b_better_moves)
def b_settling : Δ → M Fl := (fSeq (fExpr (fCall m_check_settling 3 (fCons (gv 0) (fCons (gv 1) (fCons (gv 2) fNil)))))
    (fSeq (fPar2 3 4 true false (fLst fNil) (fCall m_better_moves 3 (fCons (gv 0) (fCons (gv 1) (fCons (gv 2) fNil)))))
    (fSeq (whileM 1000000 (tV (f2 dNe (gv 4) (fLst fNil)))
    (fSeq (fApp 3 (f2 dIx (gv 4) (fun _ => M.ret (.int 0))))
    (fSeq (fSet 2 (fCall m_move_done 3 (fCons (gv 2) (fCons (f2 dIx (f2 dIx (gv 4) (fun _ => M.ret (.int 0))) (fun _ => M.ret (.int 0))) (fCons (f2 dIx (f2 dIx (gv 4) (fun _ => M.ret (.int 0))) (fun _ => M.ret (.int 1))) fNil)))))
    (fSet 4 (fCall m_better_moves 3 (fCons (gv 0) (fCons (gv 1) (fCons (gv 2) fNil))))))))
    (fRet (f1 dTup (gb 3))))))
def m_settling : List D → M D := fnM 3 5 (b_settling)
def b__law_table : Δ → M Fl := (fRet (f2 dDictZip (fCall m__law_lots 1 (fCons (f2 dIx (gv 0) (fun _ => M.ret (.int 0))) fNil)) (f2 dIx (gv 0) (fun _ => M.ret (.int 1)))))
def m__law_table : List D → M D := fnM 1 1 (b__law_table)
def b__law_nights : Δ → M Fl := (fRet (fLc (iRange1 (gv 1)) (ggName 2) tYesM (f1 dTup (fLc (iRange1 (f1 dLen (gv 0))) (ggName 3) (tV (f2 dEq (f2 dIx (gv 0) (gv 3)) (gv 2))) (f1 dInt (gv 3)) [3])) [2]))
def m__law_nights : List D → M D := fnM 2 4 (b__law_nights)
def b__law_each : Δ → M Fl := (fRet (fLc (iSeq (fCall m__law_nights 2 (fCons (gv 1) (fCons (gv 2) fNil)))) (ggName 3) tYesM (f2 dIx (gv 0) (gv 3)) [3]))
def m__law_each : List D → M D := fnM 3 4 (b__law_each)
def b__law_done : Δ → M Fl := (fRet (f2 dAdd (f2 dAdd (fCut (gv 0) (fun _ => M.ret none) (fI (gv 1))) (fTup (fCons (f1 dInt (gv 2)) fNil))) (fCut (gv 0) (fI (f2 dAdd (gv 1) (fun _ => M.ret (.int 1)))) (fun _ => M.ret none))))
def m__law_done : List D → M D := fnM 3 3 (b__law_done)
def b__law_better : Δ → M Fl := (fSeq (fPar2 4 5 false true (f1 dSum (fCall m__law_each 3 (fCons (gv 0) (fCons (gv 1) (fCons (gv 2) fNil))))) (fLst fNil))
    (fSeq (fFor (iRange1 (f1 dLen (gv 1))) (ggName 3)
    (fExt 5 (fLc (iRange1 (gv 2)) (ggName 6) (tV (f2 dGt (f1 dSum (fCall m__law_each 3 (fCons (gv 0) (fCons (fCall m__law_done 3 (fCons (gv 1) (fCons (gv 3) (fCons (gv 6) fNil)))) (fCons (gv 2) fNil))))) (gv 4))) (fTup (fCons (f1 dInt (gv 3)) (fCons (f1 dInt (gv 6)) fNil))) [6])))
    (fFz 5 (fRet (gv 5)))))
def m__law_better : List D → M D := fnM 3 7 (b__law_better)
def b_settled : Δ → M Fl := (fSeq (fExpr (fCall m_check_settling 3 (fCons (gv 0) (fCons (gv 1) (fCons (gv 2) fNil)))))
    (fSeq (fSet 3 (fCall m_better_moves 3 (fCons (gv 0) (fCons (gv 1) (fCons (gv 2) fNil)))))
    (fRet (fIf (tV (f2 dNe (gv 3) (fLst fNil))) (fTup (fCons (fun _ => M.ret (.str "move")) (fStar (f2 dIx (gv 3) (fun _ => M.ret (.int 0))) fNil))) (fTup (fCons (fun _ => M.ret (.str "settled")) fNil))))))
def m_settled : List D → M D := fnM 3 4 (b_settled)
def b__law_is_row : Δ → M Fl := (fSeq (fIfS (tNt (tV (f1 (dIsi "tuple") (gv 3))))
    (fRet (fun _ => M.ret (.bl false)))
    fNx)
    (fSeq (fFor (iSeq (gv 3)) (ggName 4)
    (fSeq (fIfS (tOr' (tNt (tV (f1 (dIsi "tuple") (gv 4)))) (tOr' (tV (f2 dNe (f1 dLen (gv 4)) (fun _ => M.ret (.int 2)))) (tNt (tV (f1 dAll (fLc (iSeq (gv 4)) (ggName 5) tYesM (fAnd (f1 (dIsi "int") (gv 5)) (f1 dNot (f1 (dIsi "bool") (gv 5)))) [5]))))))
    (fRet (fun _ => M.ret (.bl false)))
    fNx)
    (fSeq (fIfS (tV (f2 dNotIn (gv 4) (fCall m__law_better 3 (fCons (gv 0) (fCons (gv 1) (fCons (gv 2) fNil))))))
    (fRet (fun _ => M.ret (.bl false)))
    fNx)
    (fSet 1 (fCall m__law_done 3 (fCons (gv 1) (fCons (f2 dIx (gv 4) (fun _ => M.ret (.int 0))) (fCons (f2 dIx (gv 4) (fun _ => M.ret (.int 1))) fNil))))))))
    (fRet (f2 dEq (fCall m__law_better 3 (fCons (gv 0) (fCons (gv 1) (fCons (gv 2) fNil)))) (fLst fNil)))))
def m__law_is_row : List D → M D := fnM 4 6 (b__law_is_row)
def b_check_post : Δ → M Fl := (fIfS (tNt (tV (fCall m_is_between 3 (fCons (gv 1) (fCons (fun _ => M.ret (.int 0)) (fCons (f2 dSub (gv 0) (fun _ => M.ret (.int 1))) fNil))))))
    fNever
    fNx)
def m_check_post : List D → M D := fnM 2 2 (b_check_post)
def b_moved : Δ → M Fl := (fSeq (fExpr (fCall m_check_worths 1 (fCons (gv 0) fNil)))
    (fSeq (fExpr (fCall m_check_plan 3 (fCons (gv 0) (fCons (gv 1) (fCons (gv 2) fNil)))))
    (fSeq (fExpr (fCall m_check_post 2 (fCons (f2 dIx (gv 0) (fun _ => M.ret (.int 0))) (fCons (gv 3) fNil))))
    (fSeq (fIfS (tNt (tV (fCall m_is_between 3 (fCons (gv 4) (fCons (fun _ => M.ret (.int 0)) (fCons (f2 dSub (gv 1) (fun _ => M.ret (.int 1))) fNil))))))
    fNever
    fNx)
    (fRet (fCall m_move_done 3 (fCons (gv 2) (fCons (gv 3) (fCons (gv 4) fNil)))))))))
def m_moved : List D → M D := fnM 5 5 (b_moved)
def b_shows_settled : Δ → M Fl := (fSeq (fExpr (fCall m_check_settling 3 (fCons (gv 0) (fCons (gv 1) (fCons (gv 2) fNil)))))
    (fSeq (fIfS (tOr' (tNt (tV (f1 (dIsi "tuple") (gv 3)))) (tOr' (tV (f2 dNotIn (f1 dLen (gv 3)) (fTup (fCons (fun _ => M.ret (.int 1)) (fCons (fun _ => M.ret (.int 3)) fNil))))) (tNt (tV (f1 (dIsi "str") (f2 dIx (gv 3) (fun _ => M.ret (.int 0))))))))
    (fRet (fun _ => M.ret (.bl false)))
    fNx)
    (fSeq (fIfS (tV (f2 dEq (f1 dLen (gv 3)) (fun _ => M.ret (.int 1))))
    (fRet (fAnd (f2 dEq (f2 dIx (gv 3) (fun _ => M.ret (.int 0))) (fun _ => M.ret (.str "settled"))) (f2 dEq (fCall m_better_moves 3 (fCons (gv 0) (fCons (gv 1) (fCons (gv 2) fNil)))) (fLst fNil))))
    fNx)
    (fSeq (fIfS (tOr' (tV (f2 dNe (f2 dIx (gv 3) (fun _ => M.ret (.int 0))) (fun _ => M.ret (.str "move")))) (tOr' (tNt (tV (fCall m_is_between 3 (fCons (f2 dIx (gv 3) (fun _ => M.ret (.int 1))) (fCons (fun _ => M.ret (.int 0)) (fCons (f2 dSub (f2 dIx (gv 0) (fun _ => M.ret (.int 0))) (fun _ => M.ret (.int 1))) fNil)))))) (tNt (tV (fCall m_is_between 3 (fCons (f2 dIx (gv 3) (fun _ => M.ret (.int 2))) (fCons (fun _ => M.ret (.int 0)) (fCons (f2 dSub (gv 1) (fun _ => M.ret (.int 1))) fNil))))))))
    (fRet (fun _ => M.ret (.bl false)))
    fNx)
    (fRet (fCall m_is_better 5 (fCons (gv 0) (fCons (gv 1) (fCons (gv 2) (fCons (f2 dIx (gv 3) (fun _ => M.ret (.int 1))) (fCons (f2 dIx (gv 3) (fun _ => M.ret (.int 2))) fNil)))))))))))
def m_shows_settled : List D → M D := fnM 4 4 (b_shows_settled)
def b_is_move : Δ → M Fl := (fSeq (fIfS (tOr' (tNt (tV (fCall m_are_between 3 (fCons (gv 2) (fCons (fun _ => M.ret (.int 0)) (fCons (f2 dSub (f2 dMax (f2 dIx (gv 0) (fun _ => M.ret (.int 0))) (gv 1)) (fun _ => M.ret (.int 1))) fNil)))))) (tV (f2 dNe (f1 dLen (gv 2)) (fun _ => M.ret (.int 2)))))
    (fRet (fun _ => M.ret (.bl false)))
    fNx)
    (fRet (fAnd (f2 dLt (f2 dIx (gv 2) (fun _ => M.ret (.int 0))) (f2 dIx (gv 0) (fun _ => M.ret (.int 0)))) (f2 dLt (f2 dIx (gv 2) (fun _ => M.ret (.int 1))) (gv 1)))))
def m_is_move : List D → M D := fnM 3 3 (b_is_move)
def b_shows_settling : Δ → M Fl := (fSeq (fExpr (fCall m_check_settling 3 (fCons (gv 0) (fCons (gv 1) (fCons (gv 2) fNil)))))
    (fSeq (fIfS (tOr' (tNt (tV (f1 (dIsi "tuple") (gv 3)))) (tNt (tV (f1 dAll (fLc (iSeq (gv 3)) (ggName 6) tYesM (fCall m_is_move 3 (fCons (gv 0) (fCons (gv 1) (fCons (gv 6) fNil)))) [6])))))
    (fRet (fun _ => M.ret (.bl false)))
    fNx)
    (fSeq (fFor (iSeq (gv 3)) (ggTup 2 (ggCons (ggName 4) (ggCons (ggName 5) ggNil)))
    (fSeq (fIfS (tNt (tV (fCall m_is_better 5 (fCons (gv 0) (fCons (gv 1) (fCons (gv 2) (fCons (gv 4) (fCons (gv 5) fNil))))))))
    (fRet (fun _ => M.ret (.bl false)))
    fNx)
    (fSet 2 (fCall m_move_done 3 (fCons (gv 2) (fCons (gv 4) (fCons (gv 5) fNil)))))))
    (fRet (f2 dEq (fCall m_better_moves 3 (fCons (gv 0) (fCons (gv 1) (fCons (gv 2) fNil)))) (fLst fNil))))))
def m_shows_settling : List D → M D := fnM 4 7 (b_shows_settling)
def b_check_asked : Δ → M Fl := (fSeq (fExpr (fCall m_check_less 1 (fCons (gv 0) fNil)))
    (fExpr (fCall m_check_nights 1 (fCons (gv 1) fNil))))
def m_check_asked : List D → M D := fnM 2 2 (b_check_asked)
def b_greedy_plan : Δ → M Fl := (fSeq (fExpr (fCall m_check_asked 2 (fCons (gv 0) (fCons (gv 1) fNil))))
    (fSeq (fPar3 3 4 5 false false true (fCall m_table_of 1 (fCons (gv 0) fNil)) (f2 dRepL (fLst (fCons (fTup fNil) fNil)) (gv 1)) (fLst fNil))
    (fSeq (fFor (iRange1 (f2 dIx (gv 0) (fun _ => M.ret (.int 0)))) (ggName 2)
    (fSeq (fSet 6 (fLc (iEnum (gv 4)) (ggTup 2 (ggCons (ggName 7) (ggCons (ggName 8) ggNil))) tYesM (fTup (fCons (f2 dSub (f2 dIx (gv 3) (gv 8)) (f2 dIx (gv 3) (fCall m_with_post 2 (fCons (gv 8) (fCons (gv 2) fNil))))) (fCons (gv 7) fNil))) [7, 8]))
    (fSeq (fApp 5 (f2 dIx (f1 dMin1 (gv 6)) (fun _ => M.ret (.int 1))))
    (fSet 4 (fCallB m_lots_by 2 5 (fCons (gv 1) (fCons (gb 5) fNil)))))))
    (fRet (f1 dTup (gb 5))))))
def m_greedy_plan : List D → M D := fnM 2 9 (b_greedy_plan)
def b__law_greedy : Δ → M Fl := (fSeq (fSet 3 (fTup fNil))
    (fSeq (fFor (iRange1 (gv 1)) (ggName 4)
    (fSeq (fSet 5 (fLc (iSeq (fCall m__law_nights 2 (fCons (gv 3) (fCons (gv 2) fNil)))) (ggName 6) tYesM (f2 dSub (f2 dIx (gv 0) (f1 dTup (f1 dSortI (f2 dAdd (gv 6) (fTup (fCons (gv 4) fNil)))))) (f2 dIx (gv 0) (gv 6))) [6]))
    (fSet 3 (f2 dAdd (gv 3) (fTup (fCons (f1 dInt (fIndex (gv 5) (f1 dMax1 (gv 5)))) fNil))))))
    (fRet (gv 3))))
def m__law_greedy : List D → M D := fnM 3 7 (b__law_greedy)
def b__law_plans : Δ → M Fl := (fSeq (fSet 2 (fLst (fCons (fTup fNil) fNil)))
    (fSeq (fFor (iRange1 (gv 0)) (ggName 3)
    (fSeq (fOwn 4 (fLst fNil))
    (fSeq (fFor (iSeq (gv 2)) (ggName 5)
    (fExt 4 (fLc (iRange1 (gv 1)) (ggName 6) tYesM (f2 dAdd (gv 5) (fTup (fCons (f1 dInt (gv 6)) fNil))) [6])))
    (fFz 4 (fSet 2 (gv 4))))))
    (fRet (gv 2))))
def m__law_plans : List D → M D := fnM 2 7 (b__law_plans)
def b__law_right : Δ → M Fl := (fSeq (fAsg (fTup (fCons (f2 dAdd (fun _ => M.ret (.int 1)) (fCall m__law_take 2 (fCons (gv 0) (fCons (fun _ => M.ret (.int 5)) fNil)))) (fCons (f1 dInt (f2 dAdd (fun _ => M.ret (.int 1)) (fCall m__law_take 2 (fCons (gv 0) (fCons (fun _ => M.ret (.int 3)) fNil))))) fNil))) (ggTup 2 (ggCons (ggName 8) (ggCons (ggName 9) ggNil))))
    (fSeq (fSet 1 (fCall m__law_worths 2 (fCons (gv 0) (fCons (gv 8) fNil))))
    (fSeq (fAsg (fTup (fCons (fCall m__law_table 1 (fCons (gv 1) fNil)) (fCons (f1 dTup (fLc (iRange1 (gv 8)) (ggName 15) tYesM (f1 dInt (fCall m__law_take 2 (fCons (gv 0) (fCons (gv 9) fNil)))) [15])) fNil))) (ggTup 2 (ggCons (ggName 10) (ggCons (ggName 11) ggNil))))
    (fSeq (fPar2 12 13 false false (fCall m__law_better 3 (fCons (gv 10) (fCons (gv 11) (fCons (gv 9) fNil)))) (fCallK m_settled 3 3 [2, 1, 0] (fCons (gv 11) (fCons (gv 9) (fCons (gv 1) fNil)))))
    (fSeq (fSet 2 (fLst (fCons (gv 13) (fCons (f1 dList (gv 13)) (fCons (fCut (gv 13) (fun _ => M.ret none) (fI (fun _ => M.ret (.int 1)))) (fCons (f2 dAdd (gv 13) (fTup (fCons (fun _ => M.ret (.int 0)) fNil))) (fCons (fun _ => M.ret .non) (fCons (fTup fNil) (fCons (fTup (fCons (fun _ => M.ret (.str "settled")) fNil)) (fCons (fTup (fCons (fun _ => M.ret (.str "move")) (fCons (fun _ => M.ret (.int 0)) (fCons (fun _ => M.ret (.int 0)) fNil)))) (fCons (fTup (fCons (fun _ => M.ret (.str "move")) (fCons (fun _ => M.ret (.int 0)) (fCons (gv 9) fNil)))) (fCons (fTup (fCons (fun _ => M.ret (.str "move")) (fCons (fun _ => M.ret (.bl true)) (fCons (fun _ => M.ret (.int 0)) fNil)))) (fCons (fTup (fCons (fun _ => M.ret (.str "move")) (fCons (gv 8) (fCons (fun _ => M.ret (.int 0)) fNil)))) (fCons (fTup (fCons (fun _ => M.ret (.str "move")) (fCons (f1 dNeg (fun _ => M.ret (.int 1))) (fCons (fun _ => M.ret (.int 0)) fNil)))) fNil))))))))))))))
    (fSeq (fFor (iSeq (f2 dCat (f2 dCat (gv 2) (fLc (iRange1 (gv 8)) (ggName 15) tYesM (fTup (fCons (fun _ => M.ret (.str "move")) (fCons (f1 dInt (gv 15)) (fCons (f1 dInt (fCall m__law_take 2 (fCons (gv 0) (fCons (gv 9) fNil)))) fNil)))) [15])) (fLst (fCons (fTup (fCons (fun _ => M.ret (.str "move")) (fCons (fun _ => M.ret (.int 0)) fNil))) (fCons (fTup (fCons (fun _ => M.ret (.str "moves")) (fCons (fun _ => M.ret (.int 0)) (fCons (fun _ => M.ret (.int 0)) fNil)))) fNil))))) (ggName 3)
    (fSeq (fSet 14 (fAnd (f2 dEq (gv 3) (fTup (fCons (fun _ => M.ret (.str "settled")) fNil))) (f2 dEq (gv 12) (fLst fNil))))
    (fSeq (fIfS (tAn (tV (f1 (dIsi "tuple") (gv 3))) (tAn (tV (f2 dEq (f1 dLen (gv 3)) (fun _ => M.ret (.int 3)))) (tAn (tV (f2 dEq (f2 dIx (gv 3) (fun _ => M.ret (.int 0))) (fun _ => M.ret (.str "move")))) (tNt (tV (f1 (dIsi "bool") (f2 dIx (gv 3) (fun _ => M.ret (.int 1)))))))))
    (fSet 14 (f2 dIn (fCut (gv 3) (fI (fun _ => M.ret (.int 1))) (fun _ => M.ret none)) (gv 12)))
    fNx)
    (fIfS (tV (f2 dNe (f1 dRepr (fCallK m_shows_settled 4 4 [3, 2, 1, 0] (fCons (gv 3) (fCons (gv 11) (fCons (gv 9) (fCons (gv 1) fNil)))))) (f1 dRepr (gv 14))))
    (fRet (fun _ => M.ret (.bl false)))
    fNx))))
    (fSeq (fIfS (tOr' (tV (f2 dNe (f2 dEq (gv 13) (fTup (fCons (fun _ => M.ret (.str "settled")) fNil))) (f2 dEq (gv 12) (fLst fNil)))) (tAn (tV (f2 dNe (gv 12) (fLst fNil))) (tOr' (tV (f2 dNe (f2 dIx (gv 13) (fun _ => M.ret (.int 0))) (fun _ => M.ret (.str "move")))) (tV (f2 dNotIn (fCut (gv 13) (fI (fun _ => M.ret (.int 1))) (fun _ => M.ret none)) (gv 12))))))
    (fRet (fun _ => M.ret (.bl false)))
    fNx)
    (fSeq (fSet 4 (fCallK m_settling 3 3 [2, 1, 0] (fCons (gv 11) (fCons (gv 9) (fCons (gv 1) fNil)))))
    (fSeq (fFor (iSeq (fLst (fCons (gv 4) (fCons (f1 dList (gv 4)) (fCons (fCut (gv 4) (fun _ => M.ret none) (fI (f1 dNeg (fun _ => M.ret (.int 1))))) (fCons (f2 dAdd (gv 4) (fCut (gv 4) (fun _ => M.ret none) (fI (fun _ => M.ret (.int 1))))) (fCons (f1 dRev (gv 4)) (fCons (fun _ => M.ret .non) (fCons (fTup (fCons (fTup (fCons (fun _ => M.ret (.int 0)) (fCons (fun _ => M.ret (.int 0)) fNil))) fNil)) (fCons (f2 dAdd (gv 4) (fTup (fCons (fTup (fCons (fun _ => M.ret (.int 0)) (fCons (fun _ => M.ret (.int 0)) fNil))) fNil))) (fCons (fTup (fCons (fTup (fCons (fun _ => M.ret (.int 0)) fNil)) fNil)) (fCons (fTup (fCons (fun _ => M.ret .non) fNil)) (fCons (fTup (fCons (fTup (fCons (fun _ => M.ret (.bl true)) (fCons (fun _ => M.ret (.int 0)) fNil))) fNil)) fNil))))))))))))) (ggName 3)
    (fIfS (tV (f2 dNe (f1 dRepr (fCallK m_shows_settling 4 4 [3, 2, 1, 0] (fCons (gv 3) (fCons (gv 11) (fCons (gv 9) (fCons (gv 1) fNil)))))) (f1 dRepr (fCall m__law_is_row 4 (fCons (gv 10) (fCons (gv 11) (fCons (gv 9) (fCons (gv 3) fNil))))))))
    (fRet (fun _ => M.ret (.bl false)))
    fNx))
    (fSeq (fIfS (tOr' (tNt (tV (fCall m__law_is_row 4 (fCons (gv 10) (fCons (gv 11) (fCons (gv 9) (fCons (gv 4) fNil))))))) (tV (f2 dNe (f1 dRepr (fCallK m_greedy_plan 2 2 [1, 0] (fCons (gv 9) (fCons (gv 1) fNil)))) (f1 dRepr (fCall m__law_greedy 3 (fCons (gv 10) (fCons (gv 8) (fCons (gv 9) fNil))))))))
    (fRet (fun _ => M.ret (.bl false)))
    fNx)
    (fSeq (fPar2 15 16 false false (f1 dInt (fCall m__law_take 2 (fCons (gv 0) (fCons (gv 8) fNil)))) (f1 dInt (fCall m__law_take 2 (fCons (gv 0) (fCons (gv 9) fNil)))))
    (fSeq (fIfS (tV (f2 dNe (f1 dRepr (fCallK m_moved 5 5 [4, 3, 2, 1, 0] (fCons (gv 16) (fCons (gv 15) (fCons (gv 11) (fCons (gv 9) (fCons (gv 1) fNil))))))) (f1 dRepr (fCall m__law_done 3 (fCons (gv 11) (fCons (gv 15) (fCons (gv 16) fNil)))))))
    (fRet (fun _ => M.ret (.bl false)))
    fNx)
    (fSeq (fSet 5 (f1 dMax1 (fLc (iSeq (fCall m__law_plans 2 (fCons (gv 8) (fCons (gv 9) fNil)))) (ggName 17) tYesM (f1 dSum (fCall m__law_each 3 (fCons (gv 10) (fCons (gv 17) (fCons (gv 9) fNil))))) [17])))
    (fSeq (fSet 6 (gv 11))
    (fSeq (fFor (iSeq (gv 4)) (ggName 7)
    (fSet 6 (fCall m__law_done 3 (fCons (gv 6) (fCons (f2 dIx (gv 7) (fun _ => M.ret (.int 0))) (fCons (f2 dIx (gv 7) (fun _ => M.ret (.int 1))) fNil))))))
    (fRet (fAnd (f2 dGe (f2 dMul (fun _ => M.ret (.int 2)) (f1 dSum (fCall m__law_each 3 (fCons (gv 10) (fCons (gv 6) (fCons (gv 9) fNil)))))) (gv 5)) (f2 dGe (f2 dMul (fun _ => M.ret (.int 2)) (f1 dSum (fCall m__law_each 3 (fCons (gv 10) (fCons (fCall m_greedy_plan 2 (fCons (gv 1) (fCons (gv 9) fNil))) (fCons (gv 9) fNil)))))) (gv 5)))))))))))))))))))
def m__law_right : List D → M D := fnM 1 18 (b__law_right)
def b_law : Δ → M Fl := (fSeq (fFor (iSeq (fCall m__law_cells 2 (fCons (gv 0) (fCons (fun _ => M.ret (.int 3)) fNil)))) (ggName 1)
    (fSeq (fSet 2 (fCall m__law_pot 2 (fCons (gv 0) (fCons (gv 1) fNil))))
    (fIfS (tNt (tV (f1 dAll (fLc (iRange1 (fun _ => M.ret (.int 2))) (ggName 3) tYesM (fCall m__law_right 1 (fCons (gv 2) fNil)) [3]))))
    (fRet (fun _ => M.ret (.bl false)))
    fNx)))
    (fRet (fun _ => M.ret (.bl true))))
def m_law : List D → M D := fnM 1 4 (b_law)
end K06

set_option Elab.async false
set_option maxRecDepth 100000
set_option maxHeartbeats 4000000

set_option Elab.async false
set_option maxRecDepth 100000
set_option maxHeartbeats 4000000
/-! printed by gen.py: the text of the law, what each def gives by data, and that it does -/
namespace K06
open PySem PySem.Spec PyProof.Rows L2 DL
def topS (i : Nat) : Stmt := PySem.Challenge.pw_eachaddsless_k06_whole_posts_moved_till.main.body.getD i (.Pass ⟨0, 0, 0, 0⟩)
abbrev s__law_cells : Stmt := topS 65
theorem sc__law_cells : FnScope ["script", "limit"] ["script", "limit"] (defScope s__law_cells) := ⟨rfl, rfl, rfl, by decide +kernel, rfl, by decide +kernel, by decide +kernel⟩
theorem bd__law_cells {K : PySem.W.Frag} {f : Addr} {fd : FuncData} (F : Fun K "_law_cells" "_law_cells" s__law_cells f fd) : Binds K fd ["script", "limit"] [] := F.binds fun _ _ _ _ _ _ us hl => match us, hl with | [_, _], _ => rfl
abbrev s__law_pot : Stmt := topS 63
theorem sc__law_pot : FnScope ["script", "place", "cell", "own", "small"] ["script", "place"] (defScope s__law_pot) := ⟨rfl, rfl, rfl, by decide +kernel, rfl, by decide +kernel, by decide +kernel⟩
theorem bd__law_pot {K : PySem.W.Frag} {f : Addr} {fd : FuncData} (F : Fun K "_law_pot" "_law_pot" s__law_pot f fd) : Binds K fd ["script", "place"] [] := F.binds fun _ _ _ _ _ _ us hl => match us, hl with | [_, _], _ => rfl
abbrev s__law_lots : Stmt := topS 66
theorem sc__law_lots : FnScope ["many", "rows", "post", "row"] ["many"] (defScope s__law_lots) := ⟨rfl, rfl, rfl, by decide +kernel, rfl, by decide +kernel, by decide +kernel⟩
theorem bd__law_lots {K : PySem.W.Frag} {f : Addr} {fd : FuncData} (F : Fun K "_law_lots" "_law_lots" s__law_lots f fd) : Binds K fd ["many"] [] := F.binds fun _ _ _ _ _ _ us hl => match us, hl with | [_], _ => rfl
abbrev s__law_take : Stmt := topS 64
theorem sc__law_take : FnScope ["pot", "upto", "prime", "blend", "digit"] ["pot", "upto"] (defScope s__law_take) := ⟨rfl, rfl, rfl, by decide +kernel, rfl, by decide +kernel, by decide +kernel⟩
theorem bd__law_take {K : PySem.W.Frag} {f : Addr} {fd : FuncData} (F : Fun K "_law_take" "_law_take" s__law_take f fd) : Binds K fd ["pot", "upto"] [] := F.binds fun _ _ _ _ _ _ us hl => match us, hl with | [_, _], _ => rfl
abbrev s__law_worths : Stmt := topS 67
theorem sc__law_worths : FnScope ["pot", "many", "lap", "values", "lot", "lots", "fields", "top", "each", "seen", "post", "field", "worth"] ["pot", "many"] (defScope s__law_worths) := ⟨rfl, rfl, rfl, by decide +kernel, rfl, by decide +kernel, by decide +kernel⟩
theorem bd__law_worths {K : PySem.W.Frag} {f : Addr} {fd : FuncData} (F : Fun K "_law_worths" "_law_worths" s__law_worths f fd) : Binds K fd ["pot", "many"] [] := F.binds fun _ _ _ _ _ _ us hl => match us, hl with | [_, _], _ => rfl
abbrev s_is_integer : Stmt := topS 9
theorem sc_is_integer : FnScope ["value"] ["value"] (defScope s_is_integer) := ⟨rfl, rfl, rfl, by decide +kernel, rfl, by decide +kernel, by decide +kernel⟩
theorem bd_is_integer {K : PySem.W.Frag} {f : Addr} {fd : FuncData} (F : Fun K "is_integer" "is_integer" s_is_integer f fd) : Binds K fd ["value"] [] := F.binds fun _ _ _ _ _ _ us hl => match us, hl with | [_], _ => rfl
abbrev s_is_between : Stmt := topS 10
theorem sc_is_between : FnScope ["value", "low", "high"] ["value", "low", "high"] (defScope s_is_between) := ⟨rfl, rfl, rfl, by decide +kernel, rfl, by decide +kernel, by decide +kernel⟩
theorem bd_is_between {K : PySem.W.Frag} {f : Addr} {fd : FuncData} (F : Fun K "is_between" "is_between" s_is_between f fd) : Binds K fd ["value", "low", "high"] [] := F.binds fun _ _ _ _ _ _ us hl => match us, hl with | [_, _, _], _ => rfl
abbrev s_are_between : Stmt := topS 11
theorem sc_are_between : FnScope ["value", "low", "high", "one"] ["value", "low", "high"] (defScope s_are_between) := ⟨rfl, rfl, rfl, by decide +kernel, rfl, by decide +kernel, by decide +kernel⟩
theorem bd_are_between {K : PySem.W.Frag} {f : Addr} {fd : FuncData} (F : Fun K "are_between" "are_between" s_are_between f fd) : Binds K fd ["value", "low", "high"] [] := F.binds fun _ _ _ _ _ _ us hl => match us, hl with | [_, _, _], _ => rfl
abbrev s_lots_of : Stmt := topS 15
theorem sc_lots_of : FnScope ["posts", "found", "post", "lot"] ["posts"] (defScope s_lots_of) := ⟨rfl, rfl, rfl, by decide +kernel, rfl, by decide +kernel, by decide +kernel⟩
theorem bd_lots_of {K : PySem.W.Frag} {f : Addr} {fd : FuncData} (F : Fun K "lots_of" "lots_of" s_lots_of f fd) : Binds K fd ["posts"] [] := F.binds fun _ _ _ _ _ _ us hl => match us, hl with | [_], _ => rfl
abbrev s_all_of : Stmt := topS 16
theorem sc_all_of : FnScope ["many"] ["many"] (defScope s_all_of) := ⟨rfl, rfl, rfl, by decide +kernel, rfl, by decide +kernel, by decide +kernel⟩
theorem bd_all_of {K : PySem.W.Frag} {f : Addr} {fd : FuncData} (F : Fun K "all_of" "all_of" s_all_of f fd) : Binds K fd ["many"] [] := F.binds fun _ _ _ _ _ _ us hl => match us, hl with | [_], _ => rfl
abbrev s_every_of : Stmt := topS 17
theorem sc_every_of : FnScope ["many"] ["many"] (defScope s_every_of) := ⟨rfl, rfl, rfl, by decide +kernel, rfl, by decide +kernel, by decide +kernel⟩
theorem bd_every_of {K : PySem.W.Frag} {f : Addr} {fd : FuncData} (F : Fun K "every_of" "every_of" s_every_of f fd) : Binds K fd ["many"] [] := F.binds fun _ _ _ _ _ _ us hl => match us, hl with | [_], _ => rfl
abbrev s_are_worths : Stmt := topS 23
theorem sc_are_worths : FnScope ["value"] ["value"] (defScope s_are_worths) := ⟨rfl, rfl, rfl, by decide +kernel, rfl, by decide +kernel, by decide +kernel⟩
theorem bd_are_worths {K : PySem.W.Frag} {f : Addr} {fd : FuncData} (F : Fun K "are_worths" "are_worths" s_are_worths f fd) : Binds K fd ["value"] [] := F.binds fun _ _ _ _ _ _ us hl => match us, hl with | [_], _ => rfl
abbrev s_check_worths : Stmt := topS 24
theorem sc_check_worths : FnScope ["value"] ["value"] (defScope s_check_worths) := ⟨rfl, rfl, rfl, by decide +kernel, rfl, by decide +kernel, by decide +kernel⟩
theorem bd_check_worths {K : PySem.W.Frag} {f : Addr} {fd : FuncData} (F : Fun K "check_worths" "check_worths" s_check_worths f fd) : Binds K fd ["value"] [] := F.binds fun _ _ _ _ _ _ us hl => match us, hl with | [_], _ => rfl
abbrev s_table_of : Stmt := topS 25
theorem sc_table_of : FnScope ["worths", "lot", "value"] ["worths"] (defScope s_table_of) := ⟨rfl, rfl, rfl, by decide +kernel, rfl, by decide +kernel, by decide +kernel⟩
theorem bd_table_of {K : PySem.W.Frag} {f : Addr} {fd : FuncData} (F : Fun K "table_of" "table_of" s_table_of f fd) : Binds K fd ["worths"] [] := F.binds fun _ _ _ _ _ _ us hl => match us, hl with | [_], _ => rfl
abbrev s_less_of : Stmt := topS 18
theorem sc_less_of : FnScope ["one", "other", "post"] ["one", "other"] (defScope s_less_of) := ⟨rfl, rfl, rfl, by decide +kernel, rfl, by decide +kernel, by decide +kernel⟩
theorem bd_less_of {K : PySem.W.Frag} {f : Addr} {fd : FuncData} (F : Fun K "less_of" "less_of" s_less_of f fd) : Binds K fd ["one", "other"] [] := F.binds fun _ _ _ _ _ _ us hl => match us, hl with | [_, _], _ => rfl
abbrev s_rest_of : Stmt := topS 19
theorem sc_rest_of : FnScope ["many", "lot"] ["many", "lot"] (defScope s_rest_of) := ⟨rfl, rfl, rfl, by decide +kernel, rfl, by decide +kernel, by decide +kernel⟩
theorem bd_rest_of {K : PySem.W.Frag} {f : Addr} {fd : FuncData} (F : Fun K "rest_of" "rest_of" s_rest_of f fd) : Binds K fd ["many", "lot"] [] := F.binds fun _ _ _ _ _ _ us hl => match us, hl with | [_, _], _ => rfl
abbrev s_with_post : Stmt := topS 20
theorem sc_with_post : FnScope ["lot", "post"] ["lot", "post"] (defScope s_with_post) := ⟨rfl, rfl, rfl, by decide +kernel, rfl, by decide +kernel, by decide +kernel⟩
theorem bd_with_post {K : PySem.W.Frag} {f : Addr} {fd : FuncData} (F : Fun K "with_post" "with_post" s_with_post f fd) : Binds K fd ["lot", "post"] [] := F.binds fun _ _ _ _ _ _ us hl => match us, hl with | [_, _], _ => rfl
abbrev s_extra : Stmt := topS 31
theorem sc_extra : FnScope ["table", "lot", "one", "other", "both"] ["table", "lot", "one", "other"] (defScope s_extra) := ⟨rfl, rfl, rfl, by decide +kernel, rfl, by decide +kernel, by decide +kernel⟩
theorem bd_extra {K : PySem.W.Frag} {f : Addr} {fd : FuncData} (F : Fun K "extra" "extra" s_extra f fd) : Binds K fd ["table", "lot", "one", "other"] [] := F.binds fun _ _ _ _ _ _ us hl => match us, hl with | [_, _, _, _], _ => rfl
abbrev s_all_extras : Stmt := topS 32
theorem sc_all_extras : FnScope ["worths", "lot", "table", "found", "rest", "place", "one", "other"] ["worths"] (defScope s_all_extras) := ⟨rfl, rfl, rfl, by decide +kernel, rfl, by decide +kernel, by decide +kernel⟩
theorem bd_all_extras {K : PySem.W.Frag} {f : Addr} {fd : FuncData} (F : Fun K "all_extras" "all_extras" s_all_extras f fd) : Binds K fd ["worths"] [] := F.binds fun _ _ _ _ _ _ us hl => match us, hl with | [_], _ => rfl
abbrev s_is_less : Stmt := topS 34
theorem sc_is_less : FnScope ["worths", "amount", "lot", "one", "other"] ["worths"] (defScope s_is_less) := ⟨rfl, rfl, rfl, by decide +kernel, rfl, by decide +kernel, by decide +kernel⟩
theorem bd_is_less {K : PySem.W.Frag} {f : Addr} {fd : FuncData} (F : Fun K "is_less" "is_less" s_is_less f fd) : Binds K fd ["worths"] [] := F.binds fun _ _ _ _ _ _ us hl => match us, hl with | [_], _ => rfl
abbrev s_all_gains : Stmt := topS 35
theorem sc_all_gains : FnScope ["worths", "lot", "table", "found", "post"] ["worths"] (defScope s_all_gains) := ⟨rfl, rfl, rfl, by decide +kernel, rfl, by decide +kernel, by decide +kernel⟩
theorem bd_all_gains {K : PySem.W.Frag} {f : Addr} {fd : FuncData} (F : Fun K "all_gains" "all_gains" s_all_gains f fd) : Binds K fd ["worths"] [] := F.binds fun _ _ _ _ _ _ us hl => match us, hl with | [_], _ => rfl
abbrev s_does_grow : Stmt := topS 36
theorem sc_does_grow : FnScope ["worths", "amount", "lot", "post"] ["worths"] (defScope s_does_grow) := ⟨rfl, rfl, rfl, by decide +kernel, rfl, by decide +kernel, by decide +kernel⟩
theorem bd_does_grow {K : PySem.W.Frag} {f : Addr} {fd : FuncData} (F : Fun K "does_grow" "does_grow" s_does_grow f fd) : Binds K fd ["worths"] [] := F.binds fun _ _ _ _ _ _ us hl => match us, hl with | [_], _ => rfl
abbrev s_told_less : Stmt := topS 33
theorem sc_told_less : FnScope ["worths", "amount", "lot", "one", "other"] ["worths"] (defScope s_told_less) := ⟨rfl, rfl, rfl, by decide +kernel, rfl, by decide +kernel, by decide +kernel⟩
theorem bd_told_less {K : PySem.W.Frag} {f : Addr} {fd : FuncData} (F : Fun K "told_less" "told_less" s_told_less f fd) : Binds K fd ["worths"] [] := F.binds fun _ _ _ _ _ _ us hl => match us, hl with | [_], _ => rfl
abbrev s_grows : Stmt := topS 37
theorem sc_grows : FnScope ["worths", "amount", "lot", "post"] ["worths"] (defScope s_grows) := ⟨rfl, rfl, rfl, by decide +kernel, rfl, by decide +kernel, by decide +kernel⟩
theorem bd_grows {K : PySem.W.Frag} {f : Addr} {fd : FuncData} (F : Fun K "grows" "grows" s_grows f fd) : Binds K fd ["worths"] [] := F.binds fun _ _ _ _ _ _ us hl => match us, hl with | [_], _ => rfl
abbrev s_check_less : Stmt := topS 40
theorem sc_check_less : FnScope ["worths"] ["worths"] (defScope s_check_less) := ⟨rfl, rfl, rfl, by decide +kernel, rfl, by decide +kernel, by decide +kernel⟩
theorem bd_check_less {K : PySem.W.Frag} {f : Addr} {fd : FuncData} (F : Fun K "check_less" "check_less" s_check_less f fd) : Binds K fd ["worths"] [] := F.binds fun _ _ _ _ _ _ us hl => match us, hl with | [_], _ => rfl
abbrev s_check_nights : Stmt := topS 41
theorem sc_check_nights : FnScope ["value"] ["value"] (defScope s_check_nights) := ⟨rfl, rfl, rfl, by decide +kernel, rfl, by decide +kernel, by decide +kernel⟩
theorem bd_check_nights {K : PySem.W.Frag} {f : Addr} {fd : FuncData} (F : Fun K "check_nights" "check_nights" s_check_nights f fd) : Binds K fd ["value"] [] := F.binds fun _ _ _ _ _ _ us hl => match us, hl with | [_], _ => rfl
abbrev s_is_plan : Stmt := topS 42
theorem sc_is_plan : FnScope ["worths", "nights", "value"] ["worths", "nights", "value"] (defScope s_is_plan) := ⟨rfl, rfl, rfl, by decide +kernel, rfl, by decide +kernel, by decide +kernel⟩
theorem bd_is_plan {K : PySem.W.Frag} {f : Addr} {fd : FuncData} (F : Fun K "is_plan" "is_plan" s_is_plan f fd) : Binds K fd ["worths", "nights", "value"] [] := F.binds fun _ _ _ _ _ _ us hl => match us, hl with | [_, _, _], _ => rfl
abbrev s_check_plan : Stmt := topS 43
theorem sc_check_plan : FnScope ["worths", "nights", "plan"] ["worths", "nights", "plan"] (defScope s_check_plan) := ⟨rfl, rfl, rfl, by decide +kernel, rfl, by decide +kernel, by decide +kernel⟩
theorem bd_check_plan {K : PySem.W.Frag} {f : Addr} {fd : FuncData} (F : Fun K "check_plan" "check_plan" s_check_plan f fd) : Binds K fd ["worths", "nights", "plan"] [] := F.binds fun _ _ _ _ _ _ us hl => match us, hl with | [_, _, _], _ => rfl
abbrev s_check_settling : Stmt := topS 56
theorem sc_check_settling : FnScope ["worths", "nights", "plan"] ["worths", "nights", "plan"] (defScope s_check_settling) := ⟨rfl, rfl, rfl, by decide +kernel, rfl, by decide +kernel, by decide +kernel⟩
theorem bd_check_settling {K : PySem.W.Frag} {f : Addr} {fd : FuncData} (F : Fun K "check_settling" "check_settling" s_check_settling f fd) : Binds K fd ["worths", "nights", "plan"] [] := F.binds fun _ _ _ _ _ _ us hl => match us, hl with | [_, _, _], _ => rfl
abbrev s_lots_by : Stmt := topS 44
theorem sc_lots_by : FnScope ["nights", "plan", "night", "post", "here"] ["nights", "plan"] (defScope s_lots_by) := ⟨rfl, rfl, rfl, by decide +kernel, rfl, by decide +kernel, by decide +kernel⟩
theorem bd_lots_by {K : PySem.W.Frag} {f : Addr} {fd : FuncData} (F : Fun K "lots_by" "lots_by" s_lots_by f fd) : Binds K fd ["nights", "plan"] [] := F.binds fun _ _ _ _ _ _ us hl => match us, hl with | [_, _], _ => rfl
abbrev s_worths_by_night : Stmt := topS 45
theorem sc_worths_by_night : FnScope ["worths", "nights", "plan", "table", "lot"] ["worths", "nights", "plan"] (defScope s_worths_by_night) := ⟨rfl, rfl, rfl, by decide +kernel, rfl, by decide +kernel, by decide +kernel⟩
theorem bd_worths_by_night {K : PySem.W.Frag} {f : Addr} {fd : FuncData} (F : Fun K "worths_by_night" "worths_by_night" s_worths_by_night f fd) : Binds K fd ["worths", "nights", "plan"] [] := F.binds fun _ _ _ _ _ _ us hl => match us, hl with | [_, _, _], _ => rfl
abbrev s_move_done : Stmt := topS 52
theorem sc_move_done : FnScope ["plan", "post", "night"] ["plan", "post", "night"] (defScope s_move_done) := ⟨rfl, rfl, rfl, by decide +kernel, rfl, by decide +kernel, by decide +kernel⟩
theorem bd_move_done {K : PySem.W.Frag} {f : Addr} {fd : FuncData} (F : Fun K "move_done" "move_done" s_move_done f fd) : Binds K fd ["plan", "post", "night"] [] := F.binds fun _ _ _ _ _ _ us hl => match us, hl with | [_, _, _], _ => rfl
abbrev s_is_better : Stmt := topS 54
theorem sc_is_better : FnScope ["worths", "nights", "plan", "post", "night", "later"] ["worths", "nights", "plan", "post", "night"] (defScope s_is_better) := ⟨rfl, rfl, rfl, by decide +kernel, rfl, by decide +kernel, by decide +kernel⟩
theorem bd_is_better {K : PySem.W.Frag} {f : Addr} {fd : FuncData} (F : Fun K "is_better" "is_better" s_is_better f fd) : Binds K fd ["worths", "nights", "plan", "post", "night"] [] := F.binds fun _ _ _ _ _ _ us hl => match us, hl with | [_, _, _, _, _], _ => rfl
abbrev s_better_moves : Stmt := topS 55
theorem sc_better_moves : FnScope ["worths", "nights", "plan", "found", "post", "night"] ["worths", "nights", "plan"] (defScope s_better_moves) := ⟨rfl, rfl, rfl, by decide +kernel, rfl, by decide +kernel, by decide +kernel⟩
theorem bd_better_moves {K : PySem.W.Frag} {f : Addr} {fd : FuncData} (F : Fun K "better_moves" "better_moves" s_better_moves f fd) : Binds K fd ["worths", "nights", "plan"] [] := F.binds fun _ _ _ _ _ _ us hl => match us, hl with | [_, _, _], _ => rfl
abbrev s_settling : Stmt := topS 59
theorem sc_settling : FnScope ["worths", "nights", "plan", "found", "moves"] ["worths", "nights", "plan"] (defScope s_settling) := ⟨rfl, rfl, rfl, by decide +kernel, rfl, by decide +kernel, by decide +kernel⟩
theorem bd_settling {K : PySem.W.Frag} {f : Addr} {fd : FuncData} (F : Fun K "settling" "settling" s_settling f fd) : Binds K fd ["worths", "nights", "plan"] [] := F.binds fun _ _ _ _ _ _ us hl => match us, hl with | [_, _, _], _ => rfl
abbrev s__law_table : Stmt := topS 68
theorem sc__law_table : FnScope ["worths"] ["worths"] (defScope s__law_table) := ⟨rfl, rfl, rfl, by decide +kernel, rfl, by decide +kernel, by decide +kernel⟩
theorem bd__law_table {K : PySem.W.Frag} {f : Addr} {fd : FuncData} (F : Fun K "_law_table" "_law_table" s__law_table f fd) : Binds K fd ["worths"] [] := F.binds fun _ _ _ _ _ _ us hl => match us, hl with | [_], _ => rfl
abbrev s__law_nights : Stmt := topS 70
theorem sc__law_nights : FnScope ["plan", "nights", "night", "post"] ["plan", "nights"] (defScope s__law_nights) := ⟨rfl, rfl, rfl, by decide +kernel, rfl, by decide +kernel, by decide +kernel⟩
theorem bd__law_nights {K : PySem.W.Frag} {f : Addr} {fd : FuncData} (F : Fun K "_law_nights" "_law_nights" s__law_nights f fd) : Binds K fd ["plan", "nights"] [] := F.binds fun _ _ _ _ _ _ us hl => match us, hl with | [_, _], _ => rfl
abbrev s__law_each : Stmt := topS 71
theorem sc__law_each : FnScope ["table", "plan", "nights", "lot"] ["table", "plan", "nights"] (defScope s__law_each) := ⟨rfl, rfl, rfl, by decide +kernel, rfl, by decide +kernel, by decide +kernel⟩
theorem bd__law_each {K : PySem.W.Frag} {f : Addr} {fd : FuncData} (F : Fun K "_law_each" "_law_each" s__law_each f fd) : Binds K fd ["table", "plan", "nights"] [] := F.binds fun _ _ _ _ _ _ us hl => match us, hl with | [_, _, _], _ => rfl
abbrev s__law_done : Stmt := topS 72
theorem sc__law_done : FnScope ["plan", "post", "night"] ["plan", "post", "night"] (defScope s__law_done) := ⟨rfl, rfl, rfl, by decide +kernel, rfl, by decide +kernel, by decide +kernel⟩
theorem bd__law_done {K : PySem.W.Frag} {f : Addr} {fd : FuncData} (F : Fun K "_law_done" "_law_done" s__law_done f fd) : Binds K fd ["plan", "post", "night"] [] := F.binds fun _ _ _ _ _ _ us hl => match us, hl with | [_, _, _], _ => rfl
abbrev s__law_better : Stmt := topS 73
theorem sc__law_better : FnScope ["table", "plan", "nights", "post", "here", "found", "night"] ["table", "plan", "nights"] (defScope s__law_better) := ⟨rfl, rfl, rfl, by decide +kernel, rfl, by decide +kernel, by decide +kernel⟩
theorem bd__law_better {K : PySem.W.Frag} {f : Addr} {fd : FuncData} (F : Fun K "_law_better" "_law_better" s__law_better f fd) : Binds K fd ["table", "plan", "nights"] [] := F.binds fun _ _ _ _ _ _ us hl => match us, hl with | [_, _, _], _ => rfl
abbrev s_settled : Stmt := topS 57
theorem sc_settled : FnScope ["worths", "nights", "plan", "moves"] ["worths", "nights", "plan"] (defScope s_settled) := ⟨rfl, rfl, rfl, by decide +kernel, rfl, by decide +kernel, by decide +kernel⟩
theorem bd_settled {K : PySem.W.Frag} {f : Addr} {fd : FuncData} (F : Fun K "settled" "settled" s_settled f fd) : Binds K fd ["worths", "nights", "plan"] [] := F.binds fun _ _ _ _ _ _ us hl => match us, hl with | [_, _, _], _ => rfl
abbrev s__law_is_row : Stmt := topS 75
theorem sc__law_is_row : FnScope ["table", "plan", "nights", "value", "move", "one"] ["table", "plan", "nights", "value"] (defScope s__law_is_row) := ⟨rfl, rfl, rfl, by decide +kernel, rfl, by decide +kernel, by decide +kernel⟩
theorem bd__law_is_row {K : PySem.W.Frag} {f : Addr} {fd : FuncData} (F : Fun K "_law_is_row" "_law_is_row" s__law_is_row f fd) : Binds K fd ["table", "plan", "nights", "value"] [] := F.binds fun _ _ _ _ _ _ us hl => match us, hl with | [_, _, _, _], _ => rfl
abbrev s_check_post : Stmt := topS 14
theorem sc_check_post : FnScope ["many", "value"] ["many", "value"] (defScope s_check_post) := ⟨rfl, rfl, rfl, by decide +kernel, rfl, by decide +kernel, by decide +kernel⟩
theorem bd_check_post {K : PySem.W.Frag} {f : Addr} {fd : FuncData} (F : Fun K "check_post" "check_post" s_check_post f fd) : Binds K fd ["many", "value"] [] := F.binds fun _ _ _ _ _ _ us hl => match us, hl with | [_, _], _ => rfl
abbrev s_moved : Stmt := topS 53
theorem sc_moved : FnScope ["worths", "nights", "plan", "post", "night"] ["worths", "nights", "plan", "post", "night"] (defScope s_moved) := ⟨rfl, rfl, rfl, by decide +kernel, rfl, by decide +kernel, by decide +kernel⟩
theorem bd_moved {K : PySem.W.Frag} {f : Addr} {fd : FuncData} (F : Fun K "moved" "moved" s_moved f fd) : Binds K fd ["worths", "nights", "plan", "post", "night"] [] := F.binds fun _ _ _ _ _ _ us hl => match us, hl with | [_, _, _, _, _], _ => rfl
abbrev s_shows_settled : Stmt := topS 58
theorem sc_shows_settled : FnScope ["worths", "nights", "plan", "value"] ["worths", "nights", "plan", "value"] (defScope s_shows_settled) := ⟨rfl, rfl, rfl, by decide +kernel, rfl, by decide +kernel, by decide +kernel⟩
theorem bd_shows_settled {K : PySem.W.Frag} {f : Addr} {fd : FuncData} (F : Fun K "shows_settled" "shows_settled" s_shows_settled f fd) : Binds K fd ["worths", "nights", "plan", "value"] [] := F.binds fun _ _ _ _ _ _ us hl => match us, hl with | [_, _, _, _], _ => rfl
abbrev s_is_move : Stmt := topS 60
theorem sc_is_move : FnScope ["worths", "nights", "value"] ["worths", "nights", "value"] (defScope s_is_move) := ⟨rfl, rfl, rfl, by decide +kernel, rfl, by decide +kernel, by decide +kernel⟩
theorem bd_is_move {K : PySem.W.Frag} {f : Addr} {fd : FuncData} (F : Fun K "is_move" "is_move" s_is_move f fd) : Binds K fd ["worths", "nights", "value"] [] := F.binds fun _ _ _ _ _ _ us hl => match us, hl with | [_, _, _], _ => rfl
abbrev s_shows_settling : Stmt := topS 61
theorem sc_shows_settling : FnScope ["worths", "nights", "plan", "value", "post", "night", "move"] ["worths", "nights", "plan", "value"] (defScope s_shows_settling) := ⟨rfl, rfl, rfl, by decide +kernel, rfl, by decide +kernel, by decide +kernel⟩
theorem bd_shows_settling {K : PySem.W.Frag} {f : Addr} {fd : FuncData} (F : Fun K "shows_settling" "shows_settling" s_shows_settling f fd) : Binds K fd ["worths", "nights", "plan", "value"] [] := F.binds fun _ _ _ _ _ _ us hl => match us, hl with | [_, _, _, _], _ => rfl
abbrev s_check_asked : Stmt := topS 46
theorem sc_check_asked : FnScope ["worths", "nights"] ["worths", "nights"] (defScope s_check_asked) := ⟨rfl, rfl, rfl, by decide +kernel, rfl, by decide +kernel, by decide +kernel⟩
theorem bd_check_asked {K : PySem.W.Frag} {f : Addr} {fd : FuncData} (F : Fun K "check_asked" "check_asked" s_check_asked f fd) : Binds K fd ["worths", "nights"] [] := F.binds fun _ _ _ _ _ _ us hl => match us, hl with | [_, _], _ => rfl
abbrev s_greedy_plan : Stmt := topS 51
theorem sc_greedy_plan : FnScope ["worths", "nights", "post", "table", "lots", "plan", "rows", "night", "lot"] ["worths", "nights"] (defScope s_greedy_plan) := ⟨rfl, rfl, rfl, by decide +kernel, rfl, by decide +kernel, by decide +kernel⟩
theorem bd_greedy_plan {K : PySem.W.Frag} {f : Addr} {fd : FuncData} (F : Fun K "greedy_plan" "greedy_plan" s_greedy_plan f fd) : Binds K fd ["worths", "nights"] [] := F.binds fun _ _ _ _ _ _ us hl => match us, hl with | [_, _], _ => rfl
abbrev s__law_greedy : Stmt := topS 74
theorem sc__law_greedy : FnScope ["table", "many", "nights", "plan", "post", "gains", "lot"] ["table", "many", "nights"] (defScope s__law_greedy) := ⟨rfl, rfl, rfl, by decide +kernel, rfl, by decide +kernel, by decide +kernel⟩
theorem bd__law_greedy {K : PySem.W.Frag} {f : Addr} {fd : FuncData} (F : Fun K "_law_greedy" "_law_greedy" s__law_greedy f fd) : Binds K fd ["table", "many", "nights"] [] := F.binds fun _ _ _ _ _ _ us hl => match us, hl with | [_, _, _], _ => rfl
abbrev s__law_plans : Stmt := topS 69
theorem sc__law_plans : FnScope ["many", "nights", "rows", "post", "later", "row", "night"] ["many", "nights"] (defScope s__law_plans) := ⟨rfl, rfl, rfl, by decide +kernel, rfl, by decide +kernel, by decide +kernel⟩
theorem bd__law_plans {K : PySem.W.Frag} {f : Addr} {fd : FuncData} (F : Fun K "_law_plans" "_law_plans" s__law_plans f fd) : Binds K fd ["many", "nights"] [] := F.binds fun _ _ _ _ _ _ us hl => match us, hl with | [_, _], _ => rfl
abbrev s__law_right : Stmt := topS 76
theorem sc__law_right : FnScope ["pot", "worths", "some", "value", "row", "best", "last", "move", "many", "nights", "table", "plan", "better", "told", "is_due", "post", "night", "one"] ["pot"] (defScope s__law_right) := ⟨rfl, rfl, rfl, by decide +kernel, rfl, by decide +kernel, by decide +kernel⟩
theorem bd__law_right {K : PySem.W.Frag} {f : Addr} {fd : FuncData} (F : Fun K "_law_right" "_law_right" s__law_right f fd) : Binds K fd ["pot"] [] := F.binds fun _ _ _ _ _ _ us hl => match us, hl with | [_], _ => rfl
abbrev s_law : Stmt := topS 77
theorem sc_law : FnScope ["script", "place", "pot", "lap"] ["script"] (defScope s_law) := ⟨rfl, rfl, rfl, by decide +kernel, rfl, by decide +kernel, by decide +kernel⟩
theorem bd_law {K : PySem.W.Frag} {f : Addr} {fd : FuncData} (F : Fun K "law" "law" s_law f fd) : Binds K fd ["script"] [] := F.binds fun _ _ _ _ _ _ us hl => match us, hl with | [_], _ => rfl
theorem kb_greedy_plan_10 {K : PySem.W.Frag} {f : Addr} {fd : FuncData} (F : Fun K "greedy_plan" "greedy_plan" s_greedy_plan f fd) : ∀ (s : Shared) (ws : List Value), ws.length = (["nights", "worths"] : List Str).length → BindsTo s fd ⟨[], (["nights", "worths"] : List Str).zip ws⟩ ((["worths", "nights"] : List Str).zip (pick [1, 0] ws)) := F.kws fun _ _ _ _ _ _ ws hl => match ws, hl with | [_, _], _ => rfl
theorem kb_moved_43210 {K : PySem.W.Frag} {f : Addr} {fd : FuncData} (F : Fun K "moved" "moved" s_moved f fd) : ∀ (s : Shared) (ws : List Value), ws.length = (["night", "post", "plan", "nights", "worths"] : List Str).length → BindsTo s fd ⟨[], (["night", "post", "plan", "nights", "worths"] : List Str).zip ws⟩ ((["worths", "nights", "plan", "post", "night"] : List Str).zip (pick [4, 3, 2, 1, 0] ws)) := F.kws fun _ _ _ _ _ _ ws hl => match ws, hl with | [_, _, _, _, _], _ => rfl
theorem kb_settled_210 {K : PySem.W.Frag} {f : Addr} {fd : FuncData} (F : Fun K "settled" "settled" s_settled f fd) : ∀ (s : Shared) (ws : List Value), ws.length = (["plan", "nights", "worths"] : List Str).length → BindsTo s fd ⟨[], (["plan", "nights", "worths"] : List Str).zip ws⟩ ((["worths", "nights", "plan"] : List Str).zip (pick [2, 1, 0] ws)) := F.kws fun _ _ _ _ _ _ ws hl => match ws, hl with | [_, _, _], _ => rfl
theorem kb_settling_210 {K : PySem.W.Frag} {f : Addr} {fd : FuncData} (F : Fun K "settling" "settling" s_settling f fd) : ∀ (s : Shared) (ws : List Value), ws.length = (["plan", "nights", "worths"] : List Str).length → BindsTo s fd ⟨[], (["plan", "nights", "worths"] : List Str).zip ws⟩ ((["worths", "nights", "plan"] : List Str).zip (pick [2, 1, 0] ws)) := F.kws fun _ _ _ _ _ _ ws hl => match ws, hl with | [_, _, _], _ => rfl
theorem kb_shows_settled_3210 {K : PySem.W.Frag} {f : Addr} {fd : FuncData} (F : Fun K "shows_settled" "shows_settled" s_shows_settled f fd) : ∀ (s : Shared) (ws : List Value), ws.length = (["value", "plan", "nights", "worths"] : List Str).length → BindsTo s fd ⟨[], (["value", "plan", "nights", "worths"] : List Str).zip ws⟩ ((["worths", "nights", "plan", "value"] : List Str).zip (pick [3, 2, 1, 0] ws)) := F.kws fun _ _ _ _ _ _ ws hl => match ws, hl with | [_, _, _, _], _ => rfl
theorem kb_shows_settling_3210 {K : PySem.W.Frag} {f : Addr} {fd : FuncData} (F : Fun K "shows_settling" "shows_settling" s_shows_settling f fd) : ∀ (s : Shared) (ws : List Value), ws.length = (["value", "plan", "nights", "worths"] : List Str).length → BindsTo s fd ⟨[], (["value", "plan", "nights", "worths"] : List Str).zip ws⟩ ((["worths", "nights", "plan", "value"] : List Str).zip (pick [3, 2, 1, 0] ws)) := F.kws fun _ _ _ _ _ _ ws hl => match ws, hl with | [_, _, _, _], _ => rfl
-- the top
structure Tops (K : PySem.W.Frag) (mg : Str → Option Value) where
  c_FALLS : ∃ t, mg "FALLS" = some (.str "falls" t)
  c_GROWS : ∃ t, mg "GROWS" = some (.str "grows" t)
  c_LESS : ∃ t, mg "LESS" = some (.str "less" t)
  c_MORE : ∃ t, mg "MORE" = some (.str "more" t)
  c_MOST_NIGHTS : ∃ t, mg "MOST_NIGHTS" = some (.int 4 t)
  c_MOST_POSTS : ∃ t, mg "MOST_POSTS" = some (.int 7 t)
  c_MOST_WORTH : ∃ t, mg "MOST_WORTH" = some (.int 1000000000 t)
  c_MOVE : ∃ t, mg "MOVE" = some (.str "move" t)
  c_SETTLED : ∃ t, mg "SETTLED" = some (.str "settled" t)
  c_THREE : ∃ t, mg "THREE" = some (.int 3 t)
  b_abs : mg "abs" = none
  b_all : mg "all" = none
  b_any : mg "any" = none
  b_bool : mg "bool" = none
  b_dict : mg "dict" = none
  b_enumerate : mg "enumerate" = none
  b_int : mg "int" = none
  b_isinstance : mg "isinstance" = none
  b_len : mg "len" = none
  b_list : mg "list" = none
  b_max : mg "max" = none
  b_min : mg "min" = none
  b_range : mg "range" = none
  b_repr : mg "repr" = none
  b_sorted : mg "sorted" = none
  b_str : mg "str" = none
  b_sum : mg "sum" = none
  b_tuple : mg "tuple" = none
  b_zip : mg "zip" = none
  f__law_cells : TopFn K mg "_law_cells" s__law_cells
  f__law_pot : TopFn K mg "_law_pot" s__law_pot
  f__law_lots : TopFn K mg "_law_lots" s__law_lots
  f__law_take : TopFn K mg "_law_take" s__law_take
  f__law_worths : TopFn K mg "_law_worths" s__law_worths
  f_is_integer : TopFn K mg "is_integer" s_is_integer
  f_is_between : TopFn K mg "is_between" s_is_between
  f_are_between : TopFn K mg "are_between" s_are_between
  f_lots_of : TopFn K mg "lots_of" s_lots_of
  f_all_of : TopFn K mg "all_of" s_all_of
  f_every_of : TopFn K mg "every_of" s_every_of
  f_are_worths : TopFn K mg "are_worths" s_are_worths
  f_check_worths : TopFn K mg "check_worths" s_check_worths
  f_table_of : TopFn K mg "table_of" s_table_of
  f_less_of : TopFn K mg "less_of" s_less_of
  f_rest_of : TopFn K mg "rest_of" s_rest_of
  f_with_post : TopFn K mg "with_post" s_with_post
  f_extra : TopFn K mg "extra" s_extra
  f_all_extras : TopFn K mg "all_extras" s_all_extras
  f_is_less : TopFn K mg "is_less" s_is_less
  f_all_gains : TopFn K mg "all_gains" s_all_gains
  f_does_grow : TopFn K mg "does_grow" s_does_grow
  f_told_less : TopFn K mg "told_less" s_told_less
  f_grows : TopFn K mg "grows" s_grows
  f_check_less : TopFn K mg "check_less" s_check_less
  f_check_nights : TopFn K mg "check_nights" s_check_nights
  f_is_plan : TopFn K mg "is_plan" s_is_plan
  f_check_plan : TopFn K mg "check_plan" s_check_plan
  f_check_settling : TopFn K mg "check_settling" s_check_settling
  f_lots_by : TopFn K mg "lots_by" s_lots_by
  f_worths_by_night : TopFn K mg "worths_by_night" s_worths_by_night
  f_move_done : TopFn K mg "move_done" s_move_done
  f_is_better : TopFn K mg "is_better" s_is_better
  f_better_moves : TopFn K mg "better_moves" s_better_moves
  f_settling : TopFn K mg "settling" s_settling
  f__law_table : TopFn K mg "_law_table" s__law_table
  f__law_nights : TopFn K mg "_law_nights" s__law_nights
  f__law_each : TopFn K mg "_law_each" s__law_each
  f__law_done : TopFn K mg "_law_done" s__law_done
  f__law_better : TopFn K mg "_law_better" s__law_better
  f_settled : TopFn K mg "settled" s_settled
  f__law_is_row : TopFn K mg "_law_is_row" s__law_is_row
  f_check_post : TopFn K mg "check_post" s_check_post
  f_moved : TopFn K mg "moved" s_moved
  f_shows_settled : TopFn K mg "shows_settled" s_shows_settled
  f_is_move : TopFn K mg "is_move" s_is_move
  f_shows_settling : TopFn K mg "shows_settling" s_shows_settling
  f_check_asked : TopFn K mg "check_asked" s_check_asked
  f_greedy_plan : TopFn K mg "greedy_plan" s_greedy_plan
  f__law_greedy : TopFn K mg "_law_greedy" s__law_greedy
  f__law_plans : TopFn K mg "_law_plans" s__law_plans
  f__law_right : TopFn K mg "_law_right" s__law_right
  f_law : TopFn K mg "law" s_law
def Tops.fa {K : PySem.W.Frag} {mg : Str → Option Value} (T : Tops K mg) : Nat → Addr
  | _ => T.f_law.a
section
variable {P : Program} {w : World} {K : PySem.W.Frag} {mg : Str → Option Value} {base : Heap}
abbrev NN (K : PySem.W.Frag) : Nv := ⟨K, fun _ => none⟩
theorem ok__law_cells (T : Tops K mg) : FnG P w K mg base CX0 1 T.f__law_cells.a T.f__law_cells.fd ["script", "limit"] (spD (NN K) 2 (m__law_cells)) := fn_okG T.f__law_cells.F sc__law_cells rfl rfl fun cdv A outer s H E hr =>
    (dss_one (ds_ret (DE.fz (de_listRange rfl (by rfl) T.b_list (by rfl) T.b_range (de_max2 rfl (by rfl) T.b_max (by decide +kernel) de_int (de_min2 rfl (by rfl) T.b_min (by decide +kernel) (de_var 1 (pv 1)) (de_len (by rfl) T.b_len (by decide +kernel) (de_var 0 (pv 0)))))))))
theorem ok__law_pot (T : Tops K mg) : FnG P w K mg base CX0 1 T.f__law_pot.a T.f__law_pot.fd ["script", "place"] (spD (NN K) 2 (m__law_pot)) := fn_okG T.f__law_pot.F sc__law_pot rfl rfl fun cdv A outer s H E hr =>
    (dss_cons (ds_set (i := 2) sc__law_pot.nd rfl (by first | exact Or.inl rfl | exact Or.inr rfl) (de_if (dt_lt (de_var 1 (pv 1)) (de_len (by rfl) T.b_len (by decide +kernel) (de_var 0 (pv 0)))) (de_ix (hu_of hr.r) (de_var 0 (pv 0)) (de_var 1 (pv 1)) (fun _ _ => rfl)) (de_add (de_add (de_mod (de_toInt (by rfl) T.b_int (by decide +kernel) (de_sum rfl (by rfl) T.b_sum (by decide +kernel) (de_cut (de_var 0 (pv 0)) do_none (do_some de_int)))) de_int) (de_mul de_int (de_var 1 (pv 1)))) de_int)))
    (dss_cons (ds_set (i := 3) sc__law_pot.nd rfl (by first | exact Or.inl rfl | exact Or.inr rfl) (de_mul (de_mod (de_toInt (by rfl) T.b_int (by decide +kernel) (de_abs (by rfl) T.b_abs (by decide +kernel) (de_var 2 (pv 2)))) (de_pow (de_pow de_int de_int) de_int)) (de_toInt (by rfl) T.b_int (by decide +kernel) (de_ge (de_abs (by rfl) T.b_abs (by decide +kernel) (de_var 2 (pv 2))) (de_pow de_int de_int)))))
    (dss_cons (ds_set (i := 4) sc__law_pot.nd rfl (by first | exact Or.inl rfl | exact Or.inr rfl) (de_mod (de_toInt (by rfl) T.b_int (by decide +kernel) (de_var 2 (pv 2))) de_int))
    (dss_one (ds_ret (DE.ob (de_lst (da_cons (de_var 3 (pv 3)) (da_cons (de_mod (de_toInt (by rfl) T.b_int (by decide +kernel) (de_add (de_add (de_mul (de_var 4 (pv 4)) de_int) (de_mul (de_mul de_int (de_var 1 (pv 1))) (de_var 1 (pv 1)))) de_int)) de_int) (da_cons de_int da_nil))))))))))
theorem ok__law_lots (T : Tops K mg) : FnG P w K mg base CX0 1 T.f__law_lots.a T.f__law_lots.fd ["many"] (spD (NN K) 1 (m__law_lots)) := fn_okG T.f__law_lots.F sc__law_lots rfl rfl fun cdv A outer s H E hr =>
    (dss_cons (ds_set (i := 1) sc__law_lots.nd rfl (by first | exact Or.inl rfl | exact Or.inr rfl) (DE.fz (de_lst (da_cons (de_tup da_nil) da_nil))))
    (dss_cons (ds_for PassesOwn.never rfl (di_range1 (by rfl) T.b_range (de_var 0 (pv 0))) (dg_name (i := 2) sc__law_lots.nd rfl (by first | exact Or.inl rfl | exact Or.inr rfl))
    (dss_one (ds_set (i := 1) sc__law_lots.nd rfl (by first | exact Or.inl rfl | exact Or.inr rfl) (DE.fz (de_cat (de_var 1 (pv 1)) (de_lc (own := [("row", 3)]) (me := .fz) rfl sc__law_lots.nd (di_seq (de_var 1 (pv 1))) (blkOk_by (by first | decide +kernel | rfl)) (fun _ _ _ _ _ => (dg_name (i := 3) sc__law_lots.nd rfl (by first | exact Or.inl rfl | exact Or.inr rfl))) (fun _ _ _ _ _ => dts_nil) (fun _ _ _ _ _ => (de_add (de_var 3 (pv 3)) (de_tup (da_cons (de_toInt (by rfl) T.b_int (by decide +kernel) (de_var 2 (pv 2))) da_nil))))))))))
    (dss_one (ds_ret (DE.fz (de_sortedI (huG hr) (by rfl) T.b_sorted (by decide +kernel) (de_var 1 (pv 1))))))))
theorem ok__law_take (T : Tops K mg) : FnG P w K mg base CX0 1 T.f__law_take.a T.f__law_take.fd ["pot", "upto"] (spD (NN K) 2 (m__law_take)) := fn_okG T.f__law_take.F sc__law_take rfl rfl fun cdv A outer s H E hr =>
    (dss_cons (ds_if (dt_gt (de_ix (hu_of hr.r) (de_var 0 (pv 0)) de_int (fun _ _ => rfl)) de_int)
    (dss_cons (ds_set (i := 4) sc__law_take.nd rfl (by first | exact Or.inl rfl | exact Or.inr rfl) (de_mod (de_toInt (by rfl) T.b_int (by decide +kernel) (de_ix (hu_of hr.r) (de_var 0 (pv 0)) de_int (fun _ _ => rfl))) (de_var 1 (pv 1))))
    (dss_cons (ds_putOb (de_div (de_ix (hu_of hr.r) (de_var 0 (pv 0)) de_int (fun _ _ => rfl)) (de_var 1 (pv 1))) (de_var 0 (pv 0)) de_int)
    (dss_one (ds_ret (de_var 4 (pv 4))))))
    dss_nil)
    (dss_cons (ds_putOb (de_add (de_ix (hu_of hr.r) (de_var 0 (pv 0)) de_int (fun _ _ => rfl)) de_int) (de_var 0 (pv 0)) de_int)
    (dss_cons (ds_set (i := 2) sc__law_take.nd rfl (by first | exact Or.inl rfl | exact Or.inr rfl) (de_ix (hu_of hr.r) (de_lst (da_cons de_int (da_cons de_int (da_cons de_int (da_cons de_int da_nil))))) (de_mod (de_toInt (by rfl) T.b_int (by decide +kernel) (de_ix (hu_of hr.r) (de_var 0 (pv 0)) de_int (fun _ _ => rfl))) de_int) (fun _ _ => rfl)))
    (dss_cons (ds_set (i := 3) sc__law_take.nd rfl (by first | exact Or.inl rfl | exact Or.inr rfl) (de_mod (de_toInt (by rfl) T.b_int (by decide +kernel) (de_pow (de_toInt (by rfl) T.b_int (by decide +kernel) (de_add (de_add (de_ix (hu_of hr.r) (de_var 0 (pv 0)) de_int (fun _ _ => rfl)) (de_mul (de_mul de_int (de_ix (hu_of hr.r) (de_var 0 (pv 0)) de_int (fun _ _ => rfl))) (de_ix (hu_of hr.r) (de_var 0 (pv 0)) de_int (fun _ _ => rfl)))) de_int)) de_int)) (de_var 2 (pv 2))))
    (dss_one (ds_ret (de_mod (de_toInt (by rfl) T.b_int (by decide +kernel) (de_div (de_mul (de_var 3 (pv 3)) (de_add (de_mod (de_toInt (by rfl) T.b_int (by decide +kernel) (de_var 3 (pv 3))) de_int) (de_mul de_int (de_ix (hu_of hr.r) (de_var 0 (pv 0)) de_int (fun _ _ => rfl))))) de_int)) (de_var 1 (pv 1)))))))))
theorem ok__law_worths (T : Tops K mg) : FnG P w K mg base CX0 2 T.f__law_worths.a T.f__law_worths.fd ["pot", "many"] (spD (NN K) 2 (m__law_worths)) := fn_okG T.f__law_worths.F sc__law_worths rfl rfl fun cdv A outer s H E hr =>
    (dss_cons (ds_par2 (o1 := false) (o2 := true) (i := 5) (j := 6) rfl sc__law_worths.nd (de_callG (ok__law_lots T) (hr.mono (by decide)) (by rfl) T.f__law_lots.g T.f__law_lots.F.kp (bd__law_lots T.f__law_lots.F) (da_cons (de_var 1 (pv 1)) da_nil)) (de_lst da_nil))
    (dss_cons (ds_for PassesOwn.never rfl (di_range1 (by rfl) T.b_range (de_callG (ok__law_take T) (hr.mono (by decide)) (by rfl) T.f__law_take.g T.f__law_take.F.kp (bd__law_take T.f__law_take.F) (da_cons (de_var 0 (pv 0)) (da_cons de_int da_nil)))) (dg_name (i := 2) sc__law_worths.nd rfl (by first | exact Or.inl rfl | exact Or.inr rfl))
    (dss_one (ds_app (pv 6) (de_tup (da_cons (DE.fz (de_lc (own := [("post", 10)]) (me := .fz) rfl sc__law_worths.nd (di_range1 (by rfl) T.b_range (de_var 1 (pv 1))) (blkOk_by (by first | decide +kernel | rfl)) (fun _ _ _ _ _ => (dg_name (i := 10) sc__law_worths.nd rfl (by first | exact Or.inl rfl | exact Or.inr rfl))) (fun _ _ _ _ _ => (dts_one (dt_eq hr.r.units (de_callG (ok__law_take T) (hr.mono (by decide)) (by rfl) T.f__law_take.g T.f__law_take.F.kp (bd__law_take T.f__law_take.F) (da_cons (de_var 0 (pv 0)) (da_cons de_int da_nil))) de_int))) (fun _ _ _ _ _ => (de_var 10 (pv 10))))) (da_cons (de_toInt (by rfl) T.b_int (by decide +kernel) (de_callG (ok__law_take T) (hr.mono (by decide)) (by rfl) T.f__law_take.g T.f__law_take.F.kp (bd__law_take T.f__law_take.F) (da_cons (de_var 0 (pv 0)) (da_cons de_int da_nil)))) da_nil))))))
    (dss_cons (ds_par2 (o1 := false) (o2 := false) (i := 7) (j := 8) rfl sc__law_worths.nd (de_toInt (by rfl) T.b_int (by decide +kernel) (de_callG (ok__law_take T) (hr.mono (by decide)) (by rfl) T.f__law_take.g T.f__law_take.F.kp (bd__law_take T.f__law_take.F) (da_cons (de_var 0 (pv 0)) (da_cons de_int da_nil)))) (de_toInt (by rfl) T.b_int (by decide +kernel) (de_callG (ok__law_take T) (hr.mono (by decide)) (by rfl) T.f__law_take.g T.f__law_take.F.kp (bd__law_take T.f__law_take.F) (da_cons (de_var 0 (pv 0)) (da_cons de_int da_nil)))))
    (dss_cons (ds_own (i := 3) sc__law_worths.nd rfl (by first | exact Or.inl rfl | exact Or.inr rfl) (de_lst da_nil))
    (dss_cons (ds_for PassesOwn.never rfl (di_seq (de_var 5 (pv 5))) (dg_name (i := 4) sc__law_worths.nd rfl (by first | exact Or.inl rfl | exact Or.inr rfl))
    (dss_fz 6 (dss_cons (ds_set (i := 9) sc__law_worths.nd rfl (by first | exact Or.inl rfl | exact Or.inr rfl) (de_sum rfl (by rfl) T.b_sum (by decide +kernel) (de_lc (own := [("field", 11), ("worth", 12)]) (me := .fz) rfl sc__law_worths.nd (di_seq (de_var 6 (pv 6))) (blkOk_by (by first | decide +kernel | rfl)) (fun _ _ _ _ _ => (dg_tup rfl (dgs_cons (dg_name (i := 11) sc__law_worths.nd rfl (by first | exact Or.inl rfl | exact Or.inr rfl)) (dgs_cons (dg_name (i := 12) sc__law_worths.nd rfl (by first | exact Or.inl rfl | exact Or.inr rfl)) dgs_nil)))) (fun _ _ _ _ _ => (dts_one (dt_val (de_any rfl (by rfl) T.b_any (by decide +kernel) (de_lc (own := [("post", 10)]) (me := .fz) rfl sc__law_worths.nd (di_seq (de_var 11 (pv 11))) (blkOk_by (by first | decide +kernel | rfl)) (fun _ _ _ _ _ => (dg_name (i := 10) sc__law_worths.nd rfl (by first | exact Or.inl rfl | exact Or.inr rfl))) (fun _ _ _ _ _ => dts_nil) (fun _ _ _ _ _ => (de_in (huG hr) (de_var 10 (pv 10)) (de_var 4 (pv 4))))))))) (fun _ _ _ _ _ => (de_var 12 (pv 12))))))
    (dss_one (ds_app (pv 3) (de_toInt (by rfl) T.b_int (by decide +kernel) (de_add (de_var 9 (pv 9)) (de_min2 rfl (by rfl) T.b_min (by decide +kernel) (de_var 7 (pv 7)) (de_mul (de_var 8 (pv 8)) (de_len (by rfl) T.b_len (by decide +kernel) (de_var 4 (pv 4))))))))))))
    (dss_one (ds_ret (de_tup (da_cons (de_toInt (by rfl) T.b_int (by decide +kernel) (de_var 1 (pv 1))) (da_cons (de_toTup (by rfl) T.b_tuple (by decide +kernel) (de_varB 3 (pv 3))) da_nil))))))))))
theorem ok_is_integer (T : Tops K mg) : FnG P w K mg base CX0 1 T.f_is_integer.a T.f_is_integer.fd ["value"] (spD (NN K) 1 (m_is_integer)) := fn_okG T.f_is_integer.F sc_is_integer rfl rfl fun cdv A outer s H E hr =>
    (dss_one (ds_ret (de_and (de_isi (b := "int") (by rfl) T.b_isinstance (by rfl) T.b_int (by decide +kernel) (de_var 0 (pv 0))) (de_one (de_not (de_isi (b := "bool") (by rfl) T.b_isinstance (by rfl) T.b_bool (by decide +kernel) (de_var 0 (pv 0))))))))
theorem ok_is_between (T : Tops K mg) : FnG P w K mg base CX0 2 T.f_is_between.a T.f_is_between.fd ["value", "low", "high"] (spD (NN K) 3 (m_is_between)) := fn_okG T.f_is_between.F sc_is_between rfl rfl fun cdv A outer s H E hr =>
    (dss_one (ds_ret (de_and (de_callG (ok_is_integer T) (hr.mono (by decide)) (by rfl) T.f_is_integer.g T.f_is_integer.F.kp (bd_is_integer T.f_is_integer.F) (da_cons (de_var 0 (pv 0)) da_nil)) (de_one (de_chain op_le opD_bl op_le opD_bl (de_var 1 (pv 1)) (de_var 0 (pv 0)) (de_var 2 (pv 2)))))))
theorem ok_are_between (T : Tops K mg) : FnG P w K mg base CX0 3 T.f_are_between.a T.f_are_between.fd ["value", "low", "high"] (spD (NN K) 3 (m_are_between)) := fn_okG T.f_are_between.F sc_are_between rfl rfl fun cdv A outer s H E hr =>
    (dss_one (ds_ret (de_and (de_isi (b := "tuple") (by rfl) T.b_isinstance (by rfl) T.b_tuple (by decide +kernel) (de_var 0 (pv 0))) (de_one (de_all rfl (by rfl) T.b_all (by decide +kernel) (de_lc (own := [("one", 3)]) (me := .fz) rfl sc_are_between.nd (di_seq (de_var 0 (pv 0))) (blkOk_by (by first | decide +kernel | rfl)) (fun _ _ _ _ _ => (dg_name (i := 3) sc_are_between.nd rfl (by first | exact Or.inl rfl | exact Or.inr rfl))) (fun _ _ _ _ _ => dts_nil) (fun _ _ _ _ _ => (de_callG (ok_is_between T) (hr.mono (by decide)) (by rfl) T.f_is_between.g T.f_is_between.F.kp (bd_is_between T.f_is_between.F) (da_cons (de_var 3 (pv 3)) (da_cons (de_var 1 (pv 1)) (da_cons (de_var 2 (pv 2)) da_nil)))))))))))
theorem ok_lots_of (T : Tops K mg) : FnG P w K mg base CX0 1 T.f_lots_of.a T.f_lots_of.fd ["posts"] (spD (NN K) 1 (m_lots_of)) := fn_okG T.f_lots_of.F sc_lots_of rfl rfl fun cdv A outer s H E hr =>
    (dss_cons (ds_set (i := 1) sc_lots_of.nd rfl (by first | exact Or.inl rfl | exact Or.inr rfl) (DE.fz (de_lst da_nil)))
    (dss_cons (ds_for PassesOwn.never rfl (di_seq (de_rev (de_var 0 (pv 0)))) (dg_name (i := 2) sc_lots_of.nd rfl (by first | exact Or.inl rfl | exact Or.inr rfl))
    (dss_one (ds_set (i := 1) sc_lots_of.nd rfl (by first | exact Or.inl rfl | exact Or.inr rfl) (DE.fz (de_cat (de_lst (da_cons (de_tup (da_cons (de_var 2 (pv 2)) da_nil)) (da_star (de_lc (own := [("lot", 3)]) (me := .fz) rfl sc_lots_of.nd (di_seq (de_var 1 (pv 1))) (blkOk_by (by first | decide +kernel | rfl)) (fun _ _ _ _ _ => (dg_name (i := 3) sc_lots_of.nd rfl (by first | exact Or.inl rfl | exact Or.inr rfl))) (fun _ _ _ _ _ => dts_nil) (fun _ _ _ _ _ => (de_tup (da_cons (de_var 2 (pv 2)) (da_star (de_var 3 (pv 3)) da_nil))))) da_nil))) (de_var 1 (pv 1)))))))
    (dss_one (ds_ret (DE.fz (de_lst (da_cons (de_tup da_nil) (da_star (de_var 1 (pv 1)) da_nil))))))))
theorem ok_all_of (T : Tops K mg) : FnG P w K mg base CX0 1 T.f_all_of.a T.f_all_of.fd ["many"] (spD (NN K) 1 (m_all_of)) := fn_okG T.f_all_of.F sc_all_of rfl rfl fun cdv A outer s H E hr =>
    (dss_one (ds_ret (de_toTup (by rfl) T.b_tuple (by decide +kernel) (de_listRange rfl (by rfl) T.b_list (by rfl) T.b_range (de_var 0 (pv 0))))))
theorem ok_every_of (T : Tops K mg) : FnG P w K mg base CX0 2 T.f_every_of.a T.f_every_of.fd ["many"] (spD (NN K) 1 (m_every_of)) := fn_okG T.f_every_of.F sc_every_of rfl rfl fun cdv A outer s H E hr =>
    (dss_one (ds_ret (de_callG (ok_lots_of T) (hr.mono (by decide)) (by rfl) T.f_lots_of.g T.f_lots_of.F.kp (bd_lots_of T.f_lots_of.F) (da_cons (de_callG (ok_all_of T) (hr.mono (by decide)) (by rfl) T.f_all_of.g T.f_all_of.F.kp (bd_all_of T.f_all_of.F) (da_cons (de_var 0 (pv 0)) da_nil)) da_nil))))
theorem ok_are_worths (T : Tops K mg) : FnG P w K mg base CX0 4 T.f_are_worths.a T.f_are_worths.fd ["value"] (spD (NN K) 1 (m_are_worths)) := fn_okG T.f_are_worths.F sc_are_worths rfl rfl fun cdv A outer s H E hr =>
    (dss_cons (ds_if (dt_w (dw_or (dt_not (dt_val (de_isi (b := "tuple") (by rfl) T.b_isinstance (by rfl) T.b_tuple (by decide +kernel) (de_var 0 (pv 0))))) (dw_or (dt_ne hr.r.units (de_len (by rfl) T.b_len (by decide +kernel) (de_var 0 (pv 0))) de_int) (dw_or1 (dt_not (dt_val (de_callG (ok_is_between T) (hr.mono (by decide)) (by rfl) T.f_is_between.g T.f_is_between.F.kp (bd_is_between T.f_is_between.F) (da_cons (de_ix (hu_of hr.r) (de_var 0 (pv 0)) de_int (fun _ _ => rfl)) (da_cons de_int (da_cons (de_gintE (by rfl) T.c_MOST_POSTS) da_nil))))))))))
    (dss_one (ds_ret de_bl))
    dss_nil)
    (dss_cons (ds_if (dt_w (dw_or (dt_not (dt_val (de_callG (ok_are_between T) (hr.mono (by decide)) (by rfl) T.f_are_between.g T.f_are_between.F.kp (bd_are_between T.f_are_between.F) (da_cons (de_ix (hu_of hr.r) (de_var 0 (pv 0)) de_int (fun _ _ => rfl)) (da_cons (de_sub de_int (de_gintE (by rfl) T.c_MOST_WORTH)) (da_cons (de_gintE (by rfl) T.c_MOST_WORTH) da_nil)))))) (dw_or1 (dt_ne hr.r.units (de_len (by rfl) T.b_len (by decide +kernel) (de_ix (hu_of hr.r) (de_var 0 (pv 0)) de_int (fun _ _ => rfl))) (de_len (by rfl) T.b_len (by decide +kernel) (de_callG (ok_every_of T) (hr.mono (by decide)) (by rfl) T.f_every_of.g T.f_every_of.F.kp (bd_every_of T.f_every_of.F) (da_cons (de_ix (hu_of hr.r) (de_var 0 (pv 0)) de_int (fun _ _ => rfl)) da_nil)))))))
    (dss_one (ds_ret de_bl))
    dss_nil)
    (dss_one (ds_ret (de_eq hr.r.units (de_ix (hu_of hr.r) (de_ix (hu_of hr.r) (de_var 0 (pv 0)) de_int (fun _ _ => rfl)) de_int (fun _ _ => rfl)) de_int)))))
theorem ok_check_worths (T : Tops K mg) : FnG P w K mg base CX0 5 T.f_check_worths.a T.f_check_worths.fd ["value"] (spD (NN K) 1 (m_check_worths)) := fn_okG T.f_check_worths.F sc_check_worths rfl rfl fun cdv A outer s H E hr =>
    (dss_one (ds_if (dt_not (dt_val (de_callG (ok_are_worths T) (hr.mono (by decide)) (by rfl) T.f_are_worths.g T.f_are_worths.F.kp (bd_are_worths T.f_are_worths.F) (da_cons (de_var 0 (pv 0)) da_nil))))
    (dss_one ds_never)
    dss_nil))
theorem ok_table_of (T : Tops K mg) : FnG P w K mg base CX0 3 T.f_table_of.a T.f_table_of.fd ["worths"] (spD (NN K) 1 (m_table_of)) := fn_okG T.f_table_of.F sc_table_of rfl rfl fun cdv A outer s H E hr =>
    (dss_one (ds_ret (de_dc (own := [("lot", 1), ("value", 2)]) (huG hr) rfl sc_table_of.nd (di_zip (by rfl) T.b_zip (de_callG (ok_every_of T) (hr.mono (by decide)) (by rfl) T.f_every_of.g T.f_every_of.F.kp (bd_every_of T.f_every_of.F) (da_cons (de_ix (hu_of hr.r) (de_var 0 (pv 0)) de_int (fun _ _ => rfl)) da_nil)) (de_ix (hu_of hr.r) (de_var 0 (pv 0)) de_int (fun _ _ => rfl))) (blkOk_by (by first | decide +kernel | rfl)) (fun _ _ _ _ _ => (dg_tup rfl (dgs_cons (dg_name (i := 1) sc_table_of.nd rfl (by first | exact Or.inl rfl | exact Or.inr rfl)) (dgs_cons (dg_name (i := 2) sc_table_of.nd rfl (by first | exact Or.inl rfl | exact Or.inr rfl)) dgs_nil)))) (fun _ _ _ _ _ => dts_nil) (fun _ _ _ _ _ => (de_var 1 (pv 1))) (fun _ _ _ _ _ => (de_var 2 (pv 2))))))
theorem ok_less_of (T : Tops K mg) : FnG P w K mg base CX0 1 T.f_less_of.a T.f_less_of.fd ["one", "other"] (spD (NN K) 2 (m_less_of)) := fn_okG T.f_less_of.F sc_less_of rfl rfl fun cdv A outer s H E hr =>
    (dss_one (ds_ret (de_toTup (by rfl) T.b_tuple (by decide +kernel) (de_lc (own := [("post", 2)]) (me := .fz) rfl sc_less_of.nd (di_seq (de_var 0 (pv 0))) (blkOk_by (by first | decide +kernel | rfl)) (fun _ _ _ _ _ => (dg_name (i := 2) sc_less_of.nd rfl (by first | exact Or.inl rfl | exact Or.inr rfl))) (fun _ _ _ _ _ => (dts_one (dt_notIn (huG hr) (de_var 2 (pv 2)) (de_var 1 (pv 1))))) (fun _ _ _ _ _ => (de_var 2 (pv 2)))))))
theorem ok_rest_of (T : Tops K mg) : FnG P w K mg base CX0 2 T.f_rest_of.a T.f_rest_of.fd ["many", "lot"] (spD (NN K) 2 (m_rest_of)) := fn_okG T.f_rest_of.F sc_rest_of rfl rfl fun cdv A outer s H E hr =>
    (dss_one (ds_ret (de_callG (ok_less_of T) (hr.mono (by decide)) (by rfl) T.f_less_of.g T.f_less_of.F.kp (bd_less_of T.f_less_of.F) (da_cons (de_callG (ok_all_of T) (hr.mono (by decide)) (by rfl) T.f_all_of.g T.f_all_of.F.kp (bd_all_of T.f_all_of.F) (da_cons (de_var 0 (pv 0)) da_nil)) (da_cons (de_var 1 (pv 1)) da_nil)))))
theorem ok_with_post (T : Tops K mg) : FnG P w K mg base CX0 1 T.f_with_post.a T.f_with_post.fd ["lot", "post"] (spD (NN K) 2 (m_with_post)) := fn_okG T.f_with_post.F sc_with_post rfl rfl fun cdv A outer s H E hr =>
    (dss_one (ds_ret (de_toTup (by rfl) T.b_tuple (by decide +kernel) (de_sortedI (huG hr) (by rfl) T.b_sorted (by decide +kernel) (de_tup (da_star (de_var 0 (pv 0)) (da_cons (de_var 1 (pv 1)) da_nil)))))))
theorem ok_extra (T : Tops K mg) : FnG P w K mg base CX0 2 T.f_extra.a T.f_extra.fd ["table", "lot", "one", "other"] (spD (NN K) 4 (m_extra)) := fn_okG T.f_extra.F sc_extra rfl rfl fun cdv A outer s H E hr =>
    (dss_cons (ds_set (i := 4) sc_extra.nd rfl (by first | exact Or.inl rfl | exact Or.inr rfl) (de_add (de_ix (hu_of hr.r) (de_var 0 (pv 0)) (de_callG (ok_with_post T) (hr.mono (by decide)) (by rfl) T.f_with_post.g T.f_with_post.F.kp (bd_with_post T.f_with_post.F) (da_cons (de_callG (ok_with_post T) (hr.mono (by decide)) (by rfl) T.f_with_post.g T.f_with_post.F.kp (bd_with_post T.f_with_post.F) (da_cons (de_var 1 (pv 1)) (da_cons (de_var 2 (pv 2)) da_nil))) (da_cons (de_var 3 (pv 3)) da_nil))) (fun _ _ => rfl)) (de_ix (hu_of hr.r) (de_var 0 (pv 0)) (de_var 1 (pv 1)) (fun _ _ => rfl))))
    (dss_one (ds_ret (de_sub (de_sub (de_var 4 (pv 4)) (de_ix (hu_of hr.r) (de_var 0 (pv 0)) (de_callG (ok_with_post T) (hr.mono (by decide)) (by rfl) T.f_with_post.g T.f_with_post.F.kp (bd_with_post T.f_with_post.F) (da_cons (de_var 1 (pv 1)) (da_cons (de_var 2 (pv 2)) da_nil))) (fun _ _ => rfl))) (de_ix (hu_of hr.r) (de_var 0 (pv 0)) (de_callG (ok_with_post T) (hr.mono (by decide)) (by rfl) T.f_with_post.g T.f_with_post.F.kp (bd_with_post T.f_with_post.F) (da_cons (de_var 1 (pv 1)) (da_cons (de_var 3 (pv 3)) da_nil))) (fun _ _ => rfl))))))
theorem ok_all_extras (T : Tops K mg) : FnG P w K mg base CX0 4 T.f_all_extras.a T.f_all_extras.fd ["worths"] (spD (NN K) 1 (m_all_extras)) := fn_okG T.f_all_extras.F sc_all_extras rfl rfl fun cdv A outer s H E hr =>
    (dss_cons (ds_tup2 (o1 := false) (o2 := true) (i := 2) (j := 3) rfl sc_all_extras.nd (de_callG (ok_table_of T) (hr.mono (by decide)) (by rfl) T.f_table_of.g T.f_table_of.F.kp (bd_table_of T.f_table_of.F) (da_cons (de_var 0 (pv 0)) da_nil)) (de_lst da_nil))
    (dss_cons (ds_for PassesOwn.never rfl (di_seq (de_callG (ok_every_of T) (hr.mono (by decide)) (by rfl) T.f_every_of.g T.f_every_of.F.kp (bd_every_of T.f_every_of.F) (da_cons (de_ix (hu_of hr.r) (de_var 0 (pv 0)) de_int (fun _ _ => rfl)) da_nil))) (dg_name (i := 1) sc_all_extras.nd rfl (by first | exact Or.inl rfl | exact Or.inr rfl))
    (dss_cons (ds_set (i := 4) sc_all_extras.nd rfl (by first | exact Or.inl rfl | exact Or.inr rfl) (de_callG (ok_rest_of T) (hr.mono (by decide)) (by rfl) T.f_rest_of.g T.f_rest_of.F.kp (bd_rest_of T.f_rest_of.F) (da_cons (de_ix (hu_of hr.r) (de_var 0 (pv 0)) de_int (fun _ _ => rfl)) (da_cons (de_var 1 (pv 1)) da_nil))))
    (dss_one (ds_for PassesOwn.never rfl (di_enum (by rfl) T.b_enumerate (de_var 4 (pv 4))) (dg_tup rfl (dgs_cons (dg_name (i := 5) sc_all_extras.nd rfl (by first | exact Or.inl rfl | exact Or.inr rfl)) (dgs_cons (dg_name (i := 6) sc_all_extras.nd rfl (by first | exact Or.inl rfl | exact Or.inr rfl)) dgs_nil)))
    (dss_one (ds_ext (pv 3) (DE.fz (de_lc (own := [("other", 7)]) (me := .fz) rfl sc_all_extras.nd (di_seq (de_cut (de_var 4 (pv 4)) (do_some (de_add (de_var 5 (pv 5)) de_int)) do_none)) (blkOk_by (by first | decide +kernel | rfl)) (fun _ _ _ _ _ => (dg_name (i := 7) sc_all_extras.nd rfl (by first | exact Or.inl rfl | exact Or.inr rfl))) (fun _ _ _ _ _ => dts_nil) (fun _ _ _ _ _ => (de_tup (da_cons (de_callG (ok_extra T) (hr.mono (by decide)) (by rfl) T.f_extra.g T.f_extra.F.kp (bd_extra T.f_extra.F) (da_cons (de_var 2 (pv 2)) (da_cons (de_var 1 (pv 1)) (da_cons (de_var 6 (pv 6)) (da_cons (de_var 7 (pv 7)) da_nil))))) (da_cons (de_var 1 (pv 1)) (da_cons (de_var 6 (pv 6)) (da_cons (de_var 7 (pv 7)) da_nil))))))))))))))
    (dss_fz 3 (dss_one (ds_ret (de_var 3 (pv 3)))))))
theorem ok_is_less (T : Tops K mg) : FnG P w K mg base CX0 5 T.f_is_less.a T.f_is_less.fd ["worths"] (spD (NN K) 1 (m_is_less)) := fn_okG T.f_is_less.F sc_is_less rfl rfl fun cdv A outer s H E hr =>
    (dss_one (ds_ret (de_all rfl (by rfl) T.b_all (by decide +kernel) (de_lc (own := [("amount", 1), ("lot", 2), ("one", 3), ("other", 4)]) (me := .fz) rfl sc_is_less.nd (di_seq (de_callG (ok_all_extras T) (hr.mono (by decide)) (by rfl) T.f_all_extras.g T.f_all_extras.F.kp (bd_all_extras T.f_all_extras.F) (da_cons (de_var 0 (pv 0)) da_nil))) (blkOk_by (by first | decide +kernel | rfl)) (fun _ _ _ _ _ => (dg_tup rfl (dgs_cons (dg_name (i := 1) sc_is_less.nd rfl (by first | exact Or.inl rfl | exact Or.inr rfl)) (dgs_cons (dg_name (i := 2) sc_is_less.nd rfl (by first | exact Or.inl rfl | exact Or.inr rfl)) (dgs_cons (dg_name (i := 3) sc_is_less.nd rfl (by first | exact Or.inl rfl | exact Or.inr rfl)) (dgs_cons (dg_name (i := 4) sc_is_less.nd rfl (by first | exact Or.inl rfl | exact Or.inr rfl)) dgs_nil)))))) (fun _ _ _ _ _ => dts_nil) (fun _ _ _ _ _ => (de_le (de_var 1 (pv 1)) de_int))))))
theorem ok_all_gains (T : Tops K mg) : FnG P w K mg base CX0 4 T.f_all_gains.a T.f_all_gains.fd ["worths"] (spD (NN K) 1 (m_all_gains)) := fn_okG T.f_all_gains.F sc_all_gains rfl rfl fun cdv A outer s H E hr =>
    (dss_cons (ds_tup2 (o1 := false) (o2 := true) (i := 2) (j := 3) rfl sc_all_gains.nd (de_callG (ok_table_of T) (hr.mono (by decide)) (by rfl) T.f_table_of.g T.f_table_of.F.kp (bd_table_of T.f_table_of.F) (da_cons (de_var 0 (pv 0)) da_nil)) (de_lst da_nil))
    (dss_cons (ds_for PassesOwn.never rfl (di_seq (de_callG (ok_every_of T) (hr.mono (by decide)) (by rfl) T.f_every_of.g T.f_every_of.F.kp (bd_every_of T.f_every_of.F) (da_cons (de_ix (hu_of hr.r) (de_var 0 (pv 0)) de_int (fun _ _ => rfl)) da_nil))) (dg_name (i := 1) sc_all_gains.nd rfl (by first | exact Or.inl rfl | exact Or.inr rfl))
    (dss_one (ds_ext (pv 3) (DE.fz (de_lc (own := [("post", 4)]) (me := .fz) rfl sc_all_gains.nd (di_seq (de_callG (ok_rest_of T) (hr.mono (by decide)) (by rfl) T.f_rest_of.g T.f_rest_of.F.kp (bd_rest_of T.f_rest_of.F) (da_cons (de_ix (hu_of hr.r) (de_var 0 (pv 0)) de_int (fun _ _ => rfl)) (da_cons (de_var 1 (pv 1)) da_nil)))) (blkOk_by (by first | decide +kernel | rfl)) (fun _ _ _ _ _ => (dg_name (i := 4) sc_all_gains.nd rfl (by first | exact Or.inl rfl | exact Or.inr rfl))) (fun _ _ _ _ _ => dts_nil) (fun _ _ _ _ _ => (de_tup (da_cons (de_sub (de_ix (hu_of hr.r) (de_var 2 (pv 2)) (de_callG (ok_with_post T) (hr.mono (by decide)) (by rfl) T.f_with_post.g T.f_with_post.F.kp (bd_with_post T.f_with_post.F) (da_cons (de_var 1 (pv 1)) (da_cons (de_var 4 (pv 4)) da_nil))) (fun _ _ => rfl)) (de_ix (hu_of hr.r) (de_var 2 (pv 2)) (de_var 1 (pv 1)) (fun _ _ => rfl))) (da_cons (de_var 1 (pv 1)) (da_cons (de_var 4 (pv 4)) da_nil))))))))))
    (dss_fz 3 (dss_one (ds_ret (de_var 3 (pv 3)))))))
theorem ok_does_grow (T : Tops K mg) : FnG P w K mg base CX0 5 T.f_does_grow.a T.f_does_grow.fd ["worths"] (spD (NN K) 1 (m_does_grow)) := fn_okG T.f_does_grow.F sc_does_grow rfl rfl fun cdv A outer s H E hr =>
    (dss_one (ds_ret (de_all rfl (by rfl) T.b_all (by decide +kernel) (de_lc (own := [("amount", 1), ("lot", 2), ("post", 3)]) (me := .fz) rfl sc_does_grow.nd (di_seq (de_callG (ok_all_gains T) (hr.mono (by decide)) (by rfl) T.f_all_gains.g T.f_all_gains.F.kp (bd_all_gains T.f_all_gains.F) (da_cons (de_var 0 (pv 0)) da_nil))) (blkOk_by (by first | decide +kernel | rfl)) (fun _ _ _ _ _ => (dg_tup rfl (dgs_cons (dg_name (i := 1) sc_does_grow.nd rfl (by first | exact Or.inl rfl | exact Or.inr rfl)) (dgs_cons (dg_name (i := 2) sc_does_grow.nd rfl (by first | exact Or.inl rfl | exact Or.inr rfl)) (dgs_cons (dg_name (i := 3) sc_does_grow.nd rfl (by first | exact Or.inl rfl | exact Or.inr rfl)) dgs_nil))))) (fun _ _ _ _ _ => dts_nil) (fun _ _ _ _ _ => (de_ge (de_var 1 (pv 1)) de_int))))))
theorem ok_told_less (T : Tops K mg) : FnG P w K mg base CX0 5 T.f_told_less.a T.f_told_less.fd ["worths"] (spD (NN K) 1 (m_told_less)) := fn_okG T.f_told_less.F sc_told_less rfl rfl fun cdv A outer s H E hr =>
    (dss_cons (ds_for PassesOwn.never rfl (di_seq (de_callG (ok_all_extras T) (hr.mono (by decide)) (by rfl) T.f_all_extras.g T.f_all_extras.F.kp (bd_all_extras T.f_all_extras.F) (da_cons (de_var 0 (pv 0)) da_nil))) (dg_tup rfl (dgs_cons (dg_name (i := 1) sc_told_less.nd rfl (by first | exact Or.inl rfl | exact Or.inr rfl)) (dgs_cons (dg_name (i := 2) sc_told_less.nd rfl (by first | exact Or.inl rfl | exact Or.inr rfl)) (dgs_cons (dg_name (i := 3) sc_told_less.nd rfl (by first | exact Or.inl rfl | exact Or.inr rfl)) (dgs_cons (dg_name (i := 4) sc_told_less.nd rfl (by first | exact Or.inl rfl | exact Or.inr rfl)) dgs_nil)))))
    (dss_one (ds_if (dt_gt (de_var 1 (pv 1)) de_int)
    (dss_one (ds_ret (de_tup (da_cons (de_gstrE (by rfl) T.c_MORE) (da_cons (de_var 2 (pv 2)) (da_cons (de_var 3 (pv 3)) (da_cons (de_var 4 (pv 4)) da_nil)))))))
    dss_nil)))
    (dss_one (ds_ret (de_tup (da_cons (de_gstrE (by rfl) T.c_LESS) da_nil)))))
theorem ok_grows (T : Tops K mg) : FnG P w K mg base CX0 6 T.f_grows.a T.f_grows.fd ["worths"] (spD (NN K) 1 (m_grows)) := fn_okG T.f_grows.F sc_grows rfl rfl fun cdv A outer s H E hr =>
    (dss_cons (ds_expr (de_callG (ok_check_worths T) (hr.mono (by decide)) (by rfl) T.f_check_worths.g T.f_check_worths.F.kp (bd_check_worths T.f_check_worths.F) (da_cons (de_var 0 (pv 0)) da_nil)))
    (dss_cons (ds_for PassesOwn.never rfl (di_seq (de_callG (ok_all_gains T) (hr.mono (by decide)) (by rfl) T.f_all_gains.g T.f_all_gains.F.kp (bd_all_gains T.f_all_gains.F) (da_cons (de_var 0 (pv 0)) da_nil))) (dg_tup rfl (dgs_cons (dg_name (i := 1) sc_grows.nd rfl (by first | exact Or.inl rfl | exact Or.inr rfl)) (dgs_cons (dg_name (i := 2) sc_grows.nd rfl (by first | exact Or.inl rfl | exact Or.inr rfl)) (dgs_cons (dg_name (i := 3) sc_grows.nd rfl (by first | exact Or.inl rfl | exact Or.inr rfl)) dgs_nil))))
    (dss_one (ds_if (dt_lt (de_var 1 (pv 1)) de_int)
    (dss_one (ds_ret (de_tup (da_cons (de_gstrE (by rfl) T.c_FALLS) (da_cons (de_var 2 (pv 2)) (da_cons (de_var 3 (pv 3)) da_nil))))))
    dss_nil)))
    (dss_one (ds_ret (de_tup (da_cons (de_gstrE (by rfl) T.c_GROWS) da_nil))))))
theorem ok_check_less (T : Tops K mg) : FnG P w K mg base CX0 7 T.f_check_less.a T.f_check_less.fd ["worths"] (spD (NN K) 1 (m_check_less)) := fn_okG T.f_check_less.F sc_check_less rfl rfl fun cdv A outer s H E hr =>
    (dss_cons (ds_expr (de_callG (ok_check_worths T) (hr.mono (by decide)) (by rfl) T.f_check_worths.g T.f_check_worths.F.kp (bd_check_worths T.f_check_worths.F) (da_cons (de_var 0 (pv 0)) da_nil)))
    (dss_cons (ds_if (dt_not (dt_val (de_callG (ok_is_less T) (hr.mono (by decide)) (by rfl) T.f_is_less.g T.f_is_less.F.kp (bd_is_less T.f_is_less.F) (da_cons (de_var 0 (pv 0)) da_nil))))
    (dss_one ds_never)
    dss_nil)
    (dss_one (ds_if (dt_not (dt_val (de_callG (ok_does_grow T) (hr.mono (by decide)) (by rfl) T.f_does_grow.g T.f_does_grow.F.kp (bd_does_grow T.f_does_grow.F) (da_cons (de_var 0 (pv 0)) da_nil))))
    (dss_one ds_never)
    dss_nil))))
theorem ok_check_nights (T : Tops K mg) : FnG P w K mg base CX0 3 T.f_check_nights.a T.f_check_nights.fd ["value"] (spD (NN K) 1 (m_check_nights)) := fn_okG T.f_check_nights.F sc_check_nights rfl rfl fun cdv A outer s H E hr =>
    (dss_one (ds_if (dt_not (dt_val (de_callG (ok_is_between T) (hr.mono (by decide)) (by rfl) T.f_is_between.g T.f_is_between.F.kp (bd_is_between T.f_is_between.F) (da_cons (de_var 0 (pv 0)) (da_cons de_int (da_cons (de_gintE (by rfl) T.c_MOST_NIGHTS) da_nil))))))
    (dss_one ds_never)
    dss_nil))
theorem ok_is_plan (T : Tops K mg) : FnG P w K mg base CX0 4 T.f_is_plan.a T.f_is_plan.fd ["worths", "nights", "value"] (spD (NN K) 3 (m_is_plan)) := fn_okG T.f_is_plan.F sc_is_plan rfl rfl fun cdv A outer s H E hr =>
    (dss_one (ds_ret (de_and (de_callG (ok_are_between T) (hr.mono (by decide)) (by rfl) T.f_are_between.g T.f_are_between.F.kp (bd_are_between T.f_are_between.F) (da_cons (de_var 2 (pv 2)) (da_cons de_int (da_cons (de_sub (de_var 1 (pv 1)) de_int) da_nil)))) (de_one (de_eq hr.r.units (de_len (by rfl) T.b_len (by decide +kernel) (de_var 2 (pv 2))) (de_ix (hu_of hr.r) (de_var 0 (pv 0)) de_int (fun _ _ => rfl)))))))
theorem ok_check_plan (T : Tops K mg) : FnG P w K mg base CX0 5 T.f_check_plan.a T.f_check_plan.fd ["worths", "nights", "plan"] (spD (NN K) 3 (m_check_plan)) := fn_okG T.f_check_plan.F sc_check_plan rfl rfl fun cdv A outer s H E hr =>
    (dss_cons (ds_expr (de_callG (ok_check_nights T) (hr.mono (by decide)) (by rfl) T.f_check_nights.g T.f_check_nights.F.kp (bd_check_nights T.f_check_nights.F) (da_cons (de_var 1 (pv 1)) da_nil)))
    (dss_one (ds_if (dt_not (dt_val (de_callG (ok_is_plan T) (hr.mono (by decide)) (by rfl) T.f_is_plan.g T.f_is_plan.F.kp (bd_is_plan T.f_is_plan.F) (da_cons (de_var 0 (pv 0)) (da_cons (de_var 1 (pv 1)) (da_cons (de_var 2 (pv 2)) da_nil))))))
    (dss_one ds_never)
    dss_nil)))
theorem ok_check_settling (T : Tops K mg) : FnG P w K mg base CX0 8 T.f_check_settling.a T.f_check_settling.fd ["worths", "nights", "plan"] (spD (NN K) 3 (m_check_settling)) := fn_okG T.f_check_settling.F sc_check_settling rfl rfl fun cdv A outer s H E hr =>
    (dss_cons (ds_expr (de_callG (ok_check_less T) (hr.mono (by decide)) (by rfl) T.f_check_less.g T.f_check_less.F.kp (bd_check_less T.f_check_less.F) (da_cons (de_var 0 (pv 0)) da_nil)))
    (dss_cons (ds_expr (de_callG (ok_check_nights T) (hr.mono (by decide)) (by rfl) T.f_check_nights.g T.f_check_nights.F.kp (bd_check_nights T.f_check_nights.F) (da_cons (de_var 1 (pv 1)) da_nil)))
    (dss_one (ds_expr (de_callG (ok_check_plan T) (hr.mono (by decide)) (by rfl) T.f_check_plan.g T.f_check_plan.F.kp (bd_check_plan T.f_check_plan.F) (da_cons (de_var 0 (pv 0)) (da_cons (de_var 1 (pv 1)) (da_cons (de_var 2 (pv 2)) da_nil))))))))
theorem ok_lots_by (T : Tops K mg) : FnG P w K mg base CX0 1 T.f_lots_by.a T.f_lots_by.fd ["nights", "plan"] (spD (NN K) 2 (m_lots_by)) := fn_okG T.f_lots_by.F sc_lots_by rfl rfl fun cdv A outer s H E hr =>
    (dss_one (ds_ret (DE.fz (de_lc (own := [("night", 2)]) (me := .fz) rfl sc_lots_by.nd (di_range1 (by rfl) T.b_range (de_var 0 (pv 0))) (blkOk_by (by first | decide +kernel | rfl)) (fun _ _ _ _ _ => (dg_name (i := 2) sc_lots_by.nd rfl (by first | exact Or.inl rfl | exact Or.inr rfl))) (fun _ _ _ _ _ => dts_nil) (fun _ _ _ _ _ => (de_toTup (by rfl) T.b_tuple (by decide +kernel) (de_lc (own := [("post", 3), ("here", 4)]) (me := .fz) rfl sc_lots_by.nd (di_enum (by rfl) T.b_enumerate (de_var 1 (pv 1))) (blkOk_by (by first | decide +kernel | rfl)) (fun _ _ _ _ _ => (dg_tup rfl (dgs_cons (dg_name (i := 3) sc_lots_by.nd rfl (by first | exact Or.inl rfl | exact Or.inr rfl)) (dgs_cons (dg_name (i := 4) sc_lots_by.nd rfl (by first | exact Or.inl rfl | exact Or.inr rfl)) dgs_nil)))) (fun _ _ _ _ _ => (dts_one (dt_eq hr.r.units (de_var 4 (pv 4)) (de_var 2 (pv 2))))) (fun _ _ _ _ _ => (de_var 3 (pv 3))))))))))
theorem ok_worths_by_night (T : Tops K mg) : FnG P w K mg base CX0 4 T.f_worths_by_night.a T.f_worths_by_night.fd ["worths", "nights", "plan"] (spD (NN K) 3 (m_worths_by_night)) := fn_okG T.f_worths_by_night.F sc_worths_by_night rfl rfl fun cdv A outer s H E hr =>
    (dss_cons (ds_set (i := 3) sc_worths_by_night.nd rfl (by first | exact Or.inl rfl | exact Or.inr rfl) (de_callG (ok_table_of T) (hr.mono (by decide)) (by rfl) T.f_table_of.g T.f_table_of.F.kp (bd_table_of T.f_table_of.F) (da_cons (de_var 0 (pv 0)) da_nil)))
    (dss_one (ds_ret (DE.fz (de_lc (own := [("lot", 4)]) (me := .fz) rfl sc_worths_by_night.nd (di_seq (de_callG (ok_lots_by T) (hr.mono (by decide)) (by rfl) T.f_lots_by.g T.f_lots_by.F.kp (bd_lots_by T.f_lots_by.F) (da_cons (de_var 1 (pv 1)) (da_cons (de_var 2 (pv 2)) da_nil)))) (blkOk_by (by first | decide +kernel | rfl)) (fun _ _ _ _ _ => (dg_name (i := 4) sc_worths_by_night.nd rfl (by first | exact Or.inl rfl | exact Or.inr rfl))) (fun _ _ _ _ _ => dts_nil) (fun _ _ _ _ _ => (de_ix (hu_of hr.r) (de_var 3 (pv 3)) (de_var 4 (pv 4)) (fun _ _ => rfl))))))))
theorem ok_move_done (T : Tops K mg) : FnG P w K mg base CX0 1 T.f_move_done.a T.f_move_done.fd ["plan", "post", "night"] (spD (NN K) 3 (m_move_done)) := fn_okG T.f_move_done.F sc_move_done rfl rfl fun cdv A outer s H E hr =>
    (dss_one (ds_ret (de_tup (da_star (de_cut (de_var 0 (pv 0)) do_none (do_some (de_var 1 (pv 1)))) (da_cons (de_var 2 (pv 2)) (da_star (de_cut (de_var 0 (pv 0)) (do_some (de_add (de_var 1 (pv 1)) de_int)) do_none) da_nil))))))
theorem ok_is_better (T : Tops K mg) : FnG P w K mg base CX0 5 T.f_is_better.a T.f_is_better.fd ["worths", "nights", "plan", "post", "night"] (spD (NN K) 5 (m_is_better)) := fn_okG T.f_is_better.F sc_is_better rfl rfl fun cdv A outer s H E hr =>
    (dss_cons (ds_set (i := 5) sc_is_better.nd rfl (by first | exact Or.inl rfl | exact Or.inr rfl) (de_sum rfl (by rfl) T.b_sum (by decide +kernel) (de_callG (ok_worths_by_night T) (hr.mono (by decide)) (by rfl) T.f_worths_by_night.g T.f_worths_by_night.F.kp (bd_worths_by_night T.f_worths_by_night.F) (da_cons (de_var 0 (pv 0)) (da_cons (de_var 1 (pv 1)) (da_cons (de_callG (ok_move_done T) (hr.mono (by decide)) (by rfl) T.f_move_done.g T.f_move_done.F.kp (bd_move_done T.f_move_done.F) (da_cons (de_var 2 (pv 2)) (da_cons (de_var 3 (pv 3)) (da_cons (de_var 4 (pv 4)) da_nil)))) da_nil))))))
    (dss_one (ds_ret (de_gt (de_var 5 (pv 5)) (de_sum rfl (by rfl) T.b_sum (by decide +kernel) (de_callG (ok_worths_by_night T) (hr.mono (by decide)) (by rfl) T.f_worths_by_night.g T.f_worths_by_night.F.kp (bd_worths_by_night T.f_worths_by_night.F) (da_cons (de_var 0 (pv 0)) (da_cons (de_var 1 (pv 1)) (da_cons (de_var 2 (pv 2)) da_nil)))))))))
theorem ok_better_moves (T : Tops K mg) : FnG P w K mg base CX0 6 T.f_better_moves.a T.f_better_moves.fd ["worths", "nights", "plan"] (spD (NN K) 3 (m_better_moves)) := fn_okG T.f_better_moves.F sc_better_moves rfl rfl fun cdv A outer s H E hr =>
    (dss_cons (ds_own (i := 3) sc_better_moves.nd rfl (by first | exact Or.inl rfl | exact Or.inr rfl) (de_lst da_nil))
    (dss_cons (ds_for PassesOwn.never rfl (di_range1 (by rfl) T.b_range (de_ix (hu_of hr.r) (de_var 0 (pv 0)) de_int (fun _ _ => rfl))) (dg_name (i := 4) sc_better_moves.nd rfl (by first | exact Or.inl rfl | exact Or.inr rfl))
    (dss_one (ds_ext (pv 3) (DE.fz (de_lc (own := [("night", 5)]) (me := .fz) rfl sc_better_moves.nd (di_range1 (by rfl) T.b_range (de_var 1 (pv 1))) (blkOk_by (by first | decide +kernel | rfl)) (fun _ _ _ _ _ => (dg_name (i := 5) sc_better_moves.nd rfl (by first | exact Or.inl rfl | exact Or.inr rfl))) (fun _ _ _ _ _ => (dts_one (dt_val (de_callG (ok_is_better T) (hr.mono (by decide)) (by rfl) T.f_is_better.g T.f_is_better.F.kp (bd_is_better T.f_is_better.F) (da_cons (de_var 0 (pv 0)) (da_cons (de_var 1 (pv 1)) (da_cons (de_var 2 (pv 2)) (da_cons (de_var 4 (pv 4)) (da_cons (de_var 5 (pv 5)) da_nil))))))))) (fun _ _ _ _ _ => (de_tup (da_cons (de_var 4 (pv 4)) (da_cons (de_var 5 (pv 5)) da_nil)))))))))
    (dss_fz 3 (dss_one (ds_ret (de_var 3 (pv 3)))))))
theorem ok_settling (T : Tops K mg) : FnG P w K mg base CX0 9 T.f_settling.a T.f_settling.fd ["worths", "nights", "plan"] (spD (NN K) 3 (m_settling)) := fn_okG T.f_settling.F sc_settling rfl rfl fun cdv A outer s H E hr =>
    (dss_cons (ds_expr (de_callG (ok_check_settling T) (hr.mono (by decide)) (by rfl) T.f_check_settling.g T.f_check_settling.F.kp (bd_check_settling T.f_check_settling.F) (da_cons (de_var 0 (pv 0)) (da_cons (de_var 1 (pv 1)) (da_cons (de_var 2 (pv 2)) da_nil)))))
    (dss_cons (ds_par2 (o1 := true) (o2 := false) (i := 3) (j := 4) rfl sc_settling.nd (de_lst da_nil) (de_callG (ok_better_moves T) (hr.mono (by decide)) (by rfl) T.f_better_moves.g T.f_better_moves.F.kp (bd_better_moves T.f_better_moves.F) (da_cons (de_var 0 (pv 0)) (da_cons (de_var 1 (pv 1)) (da_cons (de_var 2 (pv 2)) da_nil)))))
    (dss_cons (ds_while 1000000 PassesOwn.never (dt_ne hr.r.units (de_var 4 (pv 4)) (de_lst da_nil))
    (dss_cons (ds_app (pv 3) (de_ix (hu_of hr.r) (de_var 4 (pv 4)) de_int (fun _ _ => rfl)))
    (dss_cons (ds_set (i := 2) sc_settling.nd rfl (by first | exact Or.inl rfl | exact Or.inr rfl) (de_callG (ok_move_done T) (hr.mono (by decide)) (by rfl) T.f_move_done.g T.f_move_done.F.kp (bd_move_done T.f_move_done.F) (da_cons (de_var 2 (pv 2)) (da_cons (de_ix (hu_of hr.r) (de_ix (hu_of hr.r) (de_var 4 (pv 4)) de_int (fun _ _ => rfl)) de_int (fun _ _ => rfl)) (da_cons (de_ix (hu_of hr.r) (de_ix (hu_of hr.r) (de_var 4 (pv 4)) de_int (fun _ _ => rfl)) de_int (fun _ _ => rfl)) da_nil)))))
    (dss_one (ds_set (i := 4) sc_settling.nd rfl (by first | exact Or.inl rfl | exact Or.inr rfl) (de_callG (ok_better_moves T) (hr.mono (by decide)) (by rfl) T.f_better_moves.g T.f_better_moves.F.kp (bd_better_moves T.f_better_moves.F) (da_cons (de_var 0 (pv 0)) (da_cons (de_var 1 (pv 1)) (da_cons (de_var 2 (pv 2)) da_nil)))))))))
    (dss_one (ds_ret (de_toTup (by rfl) T.b_tuple (by decide +kernel) (de_varB 3 (pv 3))))))))
theorem ok__law_table (T : Tops K mg) : FnG P w K mg base CX0 2 T.f__law_table.a T.f__law_table.fd ["worths"] (spD (NN K) 1 (m__law_table)) := fn_okG T.f__law_table.F sc__law_table rfl rfl fun cdv A outer s H E hr =>
    (dss_one (ds_ret (de_dictZip (ma := .fz) (mb := .fz) (huG hr) rfl (by rfl) T.b_dict (by rfl) T.b_list (by rfl) T.b_zip (de_callG (ok__law_lots T) (hr.mono (by decide)) (by rfl) T.f__law_lots.g T.f__law_lots.F.kp (bd__law_lots T.f__law_lots.F) (da_cons (de_ix (hu_of hr.r) (de_var 0 (pv 0)) de_int (fun _ _ => rfl)) da_nil)) (de_ix (hu_of hr.r) (de_var 0 (pv 0)) de_int (fun _ _ => rfl)))))
theorem ok__law_nights (T : Tops K mg) : FnG P w K mg base CX0 1 T.f__law_nights.a T.f__law_nights.fd ["plan", "nights"] (spD (NN K) 2 (m__law_nights)) := fn_okG T.f__law_nights.F sc__law_nights rfl rfl fun cdv A outer s H E hr =>
    (dss_one (ds_ret (DE.fz (de_lc (own := [("night", 2)]) (me := .fz) rfl sc__law_nights.nd (di_range1 (by rfl) T.b_range (de_var 1 (pv 1))) (blkOk_by (by first | decide +kernel | rfl)) (fun _ _ _ _ _ => (dg_name (i := 2) sc__law_nights.nd rfl (by first | exact Or.inl rfl | exact Or.inr rfl))) (fun _ _ _ _ _ => dts_nil) (fun _ _ _ _ _ => (de_toTup (by rfl) T.b_tuple (by decide +kernel) (de_lc (own := [("post", 3)]) (me := .fz) rfl sc__law_nights.nd (di_range1 (by rfl) T.b_range (de_len (by rfl) T.b_len (by decide +kernel) (de_var 0 (pv 0)))) (blkOk_by (by first | decide +kernel | rfl)) (fun _ _ _ _ _ => (dg_name (i := 3) sc__law_nights.nd rfl (by first | exact Or.inl rfl | exact Or.inr rfl))) (fun _ _ _ _ _ => (dts_one (dt_eq hr.r.units (de_ix (hu_of hr.r) (de_var 0 (pv 0)) (de_var 3 (pv 3)) (fun _ _ => rfl)) (de_var 2 (pv 2))))) (fun _ _ _ _ _ => (de_toInt (by rfl) T.b_int (by decide +kernel) (de_var 3 (pv 3)))))))))))
theorem ok__law_each (T : Tops K mg) : FnG P w K mg base CX0 2 T.f__law_each.a T.f__law_each.fd ["table", "plan", "nights"] (spD (NN K) 3 (m__law_each)) := fn_okG T.f__law_each.F sc__law_each rfl rfl fun cdv A outer s H E hr =>
    (dss_one (ds_ret (DE.fz (de_lc (own := [("lot", 3)]) (me := .fz) rfl sc__law_each.nd (di_seq (de_callG (ok__law_nights T) (hr.mono (by decide)) (by rfl) T.f__law_nights.g T.f__law_nights.F.kp (bd__law_nights T.f__law_nights.F) (da_cons (de_var 1 (pv 1)) (da_cons (de_var 2 (pv 2)) da_nil)))) (blkOk_by (by first | decide +kernel | rfl)) (fun _ _ _ _ _ => (dg_name (i := 3) sc__law_each.nd rfl (by first | exact Or.inl rfl | exact Or.inr rfl))) (fun _ _ _ _ _ => dts_nil) (fun _ _ _ _ _ => (de_ix (hu_of hr.r) (de_var 0 (pv 0)) (de_var 3 (pv 3)) (fun _ _ => rfl)))))))
theorem ok__law_done (T : Tops K mg) : FnG P w K mg base CX0 1 T.f__law_done.a T.f__law_done.fd ["plan", "post", "night"] (spD (NN K) 3 (m__law_done)) := fn_okG T.f__law_done.F sc__law_done rfl rfl fun cdv A outer s H E hr =>
    (dss_one (ds_ret (de_add (de_add (de_cut (de_var 0 (pv 0)) do_none (do_some (de_var 1 (pv 1)))) (de_tup (da_cons (de_toInt (by rfl) T.b_int (by decide +kernel) (de_var 2 (pv 2))) da_nil))) (de_cut (de_var 0 (pv 0)) (do_some (de_add (de_var 1 (pv 1)) de_int)) do_none))))
theorem ok__law_better (T : Tops K mg) : FnG P w K mg base CX0 3 T.f__law_better.a T.f__law_better.fd ["table", "plan", "nights"] (spD (NN K) 3 (m__law_better)) := fn_okG T.f__law_better.F sc__law_better rfl rfl fun cdv A outer s H E hr =>
    (dss_cons (ds_tup2 (o1 := false) (o2 := true) (i := 4) (j := 5) rfl sc__law_better.nd (de_sum rfl (by rfl) T.b_sum (by decide +kernel) (de_callG (ok__law_each T) (hr.mono (by decide)) (by rfl) T.f__law_each.g T.f__law_each.F.kp (bd__law_each T.f__law_each.F) (da_cons (de_var 0 (pv 0)) (da_cons (de_var 1 (pv 1)) (da_cons (de_var 2 (pv 2)) da_nil))))) (de_lst da_nil))
    (dss_cons (ds_for PassesOwn.never rfl (di_range1 (by rfl) T.b_range (de_len (by rfl) T.b_len (by decide +kernel) (de_var 1 (pv 1)))) (dg_name (i := 3) sc__law_better.nd rfl (by first | exact Or.inl rfl | exact Or.inr rfl))
    (dss_one (ds_ext (pv 5) (DE.fz (de_lc (own := [("night", 6)]) (me := .fz) rfl sc__law_better.nd (di_range1 (by rfl) T.b_range (de_var 2 (pv 2))) (blkOk_by (by first | decide +kernel | rfl)) (fun _ _ _ _ _ => (dg_name (i := 6) sc__law_better.nd rfl (by first | exact Or.inl rfl | exact Or.inr rfl))) (fun _ _ _ _ _ => (dts_one (dt_gt (de_sum rfl (by rfl) T.b_sum (by decide +kernel) (de_callG (ok__law_each T) (hr.mono (by decide)) (by rfl) T.f__law_each.g T.f__law_each.F.kp (bd__law_each T.f__law_each.F) (da_cons (de_var 0 (pv 0)) (da_cons (de_callG (ok__law_done T) (hr.mono (by decide)) (by rfl) T.f__law_done.g T.f__law_done.F.kp (bd__law_done T.f__law_done.F) (da_cons (de_var 1 (pv 1)) (da_cons (de_var 3 (pv 3)) (da_cons (de_var 6 (pv 6)) da_nil)))) (da_cons (de_var 2 (pv 2)) da_nil))))) (de_var 4 (pv 4))))) (fun _ _ _ _ _ => (de_tup (da_cons (de_toInt (by rfl) T.b_int (by decide +kernel) (de_var 3 (pv 3))) (da_cons (de_toInt (by rfl) T.b_int (by decide +kernel) (de_var 6 (pv 6))) da_nil)))))))))
    (dss_fz 5 (dss_one (ds_ret (de_var 5 (pv 5)))))))
theorem ok_settled (T : Tops K mg) : FnG P w K mg base CX0 9 T.f_settled.a T.f_settled.fd ["worths", "nights", "plan"] (spD (NN K) 3 (m_settled)) := fn_okG T.f_settled.F sc_settled rfl rfl fun cdv A outer s H E hr =>
    (dss_cons (ds_expr (de_callG (ok_check_settling T) (hr.mono (by decide)) (by rfl) T.f_check_settling.g T.f_check_settling.F.kp (bd_check_settling T.f_check_settling.F) (da_cons (de_var 0 (pv 0)) (da_cons (de_var 1 (pv 1)) (da_cons (de_var 2 (pv 2)) da_nil)))))
    (dss_cons (ds_set (i := 3) sc_settled.nd rfl (by first | exact Or.inl rfl | exact Or.inr rfl) (de_callG (ok_better_moves T) (hr.mono (by decide)) (by rfl) T.f_better_moves.g T.f_better_moves.F.kp (bd_better_moves T.f_better_moves.F) (da_cons (de_var 0 (pv 0)) (da_cons (de_var 1 (pv 1)) (da_cons (de_var 2 (pv 2)) da_nil)))))
    (dss_one (ds_ret (de_if (dt_ne hr.r.units (de_var 3 (pv 3)) (de_lst da_nil)) (de_tup (da_cons (de_gstrE (by rfl) T.c_MOVE) (da_star (de_ix (hu_of hr.r) (de_var 3 (pv 3)) de_int (fun _ _ => rfl)) da_nil))) (de_tup (da_cons (de_gstrE (by rfl) T.c_SETTLED) da_nil)))))))
theorem ok__law_is_row (T : Tops K mg) : FnG P w K mg base CX0 4 T.f__law_is_row.a T.f__law_is_row.fd ["table", "plan", "nights", "value"] (spD (NN K) 4 (m__law_is_row)) := fn_okG T.f__law_is_row.F sc__law_is_row rfl rfl fun cdv A outer s H E hr =>
    (dss_cons (ds_if (dt_not (dt_val (de_isi (b := "tuple") (by rfl) T.b_isinstance (by rfl) T.b_tuple (by decide +kernel) (de_var 3 (pv 3)))))
    (dss_one (ds_ret de_bl))
    dss_nil)
    (dss_cons (ds_for PassesOwn.never rfl (di_seq (de_var 3 (pv 3))) (dg_name (i := 4) sc__law_is_row.nd rfl (by first | exact Or.inl rfl | exact Or.inr rfl))
    (dss_cons (ds_if (dt_w (dw_or (dt_not (dt_val (de_isi (b := "tuple") (by rfl) T.b_isinstance (by rfl) T.b_tuple (by decide +kernel) (de_var 4 (pv 4))))) (dw_or (dt_ne hr.r.units (de_len (by rfl) T.b_len (by decide +kernel) (de_var 4 (pv 4))) de_int) (dw_or1 (dt_not (dt_val (de_all rfl (by rfl) T.b_all (by decide +kernel) (de_lc (own := [("one", 5)]) (me := .fz) rfl sc__law_is_row.nd (di_seq (de_var 4 (pv 4))) (blkOk_by (by first | decide +kernel | rfl)) (fun _ _ _ _ _ => (dg_name (i := 5) sc__law_is_row.nd rfl (by first | exact Or.inl rfl | exact Or.inr rfl))) (fun _ _ _ _ _ => dts_nil) (fun _ _ _ _ _ => (de_and (de_isi (b := "int") (by rfl) T.b_isinstance (by rfl) T.b_int (by decide +kernel) (de_var 5 (pv 5))) (de_one (de_not (de_isi (b := "bool") (by rfl) T.b_isinstance (by rfl) T.b_bool (by decide +kernel) (de_var 5 (pv 5)))))))))))))))
    (dss_one (ds_ret de_bl))
    dss_nil)
    (dss_cons (ds_if (dt_notIn (huG hr) (de_var 4 (pv 4)) (de_callG (ok__law_better T) (hr.mono (by decide)) (by rfl) T.f__law_better.g T.f__law_better.F.kp (bd__law_better T.f__law_better.F) (da_cons (de_var 0 (pv 0)) (da_cons (de_var 1 (pv 1)) (da_cons (de_var 2 (pv 2)) da_nil)))))
    (dss_one (ds_ret de_bl))
    dss_nil)
    (dss_one (ds_set (i := 1) sc__law_is_row.nd rfl (by first | exact Or.inl rfl | exact Or.inr rfl) (de_callG (ok__law_done T) (hr.mono (by decide)) (by rfl) T.f__law_done.g T.f__law_done.F.kp (bd__law_done T.f__law_done.F) (da_cons (de_var 1 (pv 1)) (da_cons (de_ix (hu_of hr.r) (de_var 4 (pv 4)) de_int (fun _ _ => rfl)) (da_cons (de_ix (hu_of hr.r) (de_var 4 (pv 4)) de_int (fun _ _ => rfl)) da_nil)))))))))
    (dss_one (ds_ret (de_eq hr.r.units (de_callG (ok__law_better T) (hr.mono (by decide)) (by rfl) T.f__law_better.g T.f__law_better.F.kp (bd__law_better T.f__law_better.F) (da_cons (de_var 0 (pv 0)) (da_cons (de_var 1 (pv 1)) (da_cons (de_var 2 (pv 2)) da_nil)))) (de_lst da_nil))))))
theorem ok_check_post (T : Tops K mg) : FnG P w K mg base CX0 3 T.f_check_post.a T.f_check_post.fd ["many", "value"] (spD (NN K) 2 (m_check_post)) := fn_okG T.f_check_post.F sc_check_post rfl rfl fun cdv A outer s H E hr =>
    (dss_one (ds_if (dt_not (dt_val (de_callG (ok_is_between T) (hr.mono (by decide)) (by rfl) T.f_is_between.g T.f_is_between.F.kp (bd_is_between T.f_is_between.F) (da_cons (de_var 1 (pv 1)) (da_cons de_int (da_cons (de_sub (de_var 0 (pv 0)) de_int) da_nil))))))
    (dss_one ds_never)
    dss_nil))
theorem ok_moved (T : Tops K mg) : FnG P w K mg base CX0 6 T.f_moved.a T.f_moved.fd ["worths", "nights", "plan", "post", "night"] (spD (NN K) 5 (m_moved)) := fn_okG T.f_moved.F sc_moved rfl rfl fun cdv A outer s H E hr =>
    (dss_cons (ds_expr (de_callG (ok_check_worths T) (hr.mono (by decide)) (by rfl) T.f_check_worths.g T.f_check_worths.F.kp (bd_check_worths T.f_check_worths.F) (da_cons (de_var 0 (pv 0)) da_nil)))
    (dss_cons (ds_expr (de_callG (ok_check_plan T) (hr.mono (by decide)) (by rfl) T.f_check_plan.g T.f_check_plan.F.kp (bd_check_plan T.f_check_plan.F) (da_cons (de_var 0 (pv 0)) (da_cons (de_var 1 (pv 1)) (da_cons (de_var 2 (pv 2)) da_nil)))))
    (dss_cons (ds_expr (de_callG (ok_check_post T) (hr.mono (by decide)) (by rfl) T.f_check_post.g T.f_check_post.F.kp (bd_check_post T.f_check_post.F) (da_cons (de_ix (hu_of hr.r) (de_var 0 (pv 0)) de_int (fun _ _ => rfl)) (da_cons (de_var 3 (pv 3)) da_nil))))
    (dss_cons (ds_if (dt_not (dt_val (de_callG (ok_is_between T) (hr.mono (by decide)) (by rfl) T.f_is_between.g T.f_is_between.F.kp (bd_is_between T.f_is_between.F) (da_cons (de_var 4 (pv 4)) (da_cons de_int (da_cons (de_sub (de_var 1 (pv 1)) de_int) da_nil))))))
    (dss_one ds_never)
    dss_nil)
    (dss_one (ds_ret (de_callG (ok_move_done T) (hr.mono (by decide)) (by rfl) T.f_move_done.g T.f_move_done.F.kp (bd_move_done T.f_move_done.F) (da_cons (de_var 2 (pv 2)) (da_cons (de_var 3 (pv 3)) (da_cons (de_var 4 (pv 4)) da_nil))))))))))
theorem ok_shows_settled (T : Tops K mg) : FnG P w K mg base CX0 9 T.f_shows_settled.a T.f_shows_settled.fd ["worths", "nights", "plan", "value"] (spD (NN K) 4 (m_shows_settled)) := fn_okG T.f_shows_settled.F sc_shows_settled rfl rfl fun cdv A outer s H E hr =>
    (dss_cons (ds_expr (de_callG (ok_check_settling T) (hr.mono (by decide)) (by rfl) T.f_check_settling.g T.f_check_settling.F.kp (bd_check_settling T.f_check_settling.F) (da_cons (de_var 0 (pv 0)) (da_cons (de_var 1 (pv 1)) (da_cons (de_var 2 (pv 2)) da_nil)))))
    (dss_cons (ds_if (dt_w (dw_or (dt_not (dt_val (de_isi (b := "tuple") (by rfl) T.b_isinstance (by rfl) T.b_tuple (by decide +kernel) (de_var 3 (pv 3))))) (dw_or (dt_notIn (huG hr) (de_len (by rfl) T.b_len (by decide +kernel) (de_var 3 (pv 3))) (de_tup (da_cons de_int (da_cons (de_gintE (by rfl) T.c_THREE) da_nil)))) (dw_or1 (dt_not (dt_val (de_isi (b := "str") (by rfl) T.b_isinstance (by rfl) T.b_str (by decide +kernel) (de_ix (hu_of hr.r) (de_var 3 (pv 3)) de_int (fun _ _ => rfl)))))))))
    (dss_one (ds_ret de_bl))
    dss_nil)
    (dss_cons (ds_if (dt_eq hr.r.units (de_len (by rfl) T.b_len (by decide +kernel) (de_var 3 (pv 3))) de_int)
    (dss_one (ds_ret (de_and (de_eq hr.r.units (de_ix (hu_of hr.r) (de_var 3 (pv 3)) de_int (fun _ _ => rfl)) (de_gstrE (by rfl) T.c_SETTLED)) (de_one (de_eq hr.r.units (de_callG (ok_better_moves T) (hr.mono (by decide)) (by rfl) T.f_better_moves.g T.f_better_moves.F.kp (bd_better_moves T.f_better_moves.F) (da_cons (de_var 0 (pv 0)) (da_cons (de_var 1 (pv 1)) (da_cons (de_var 2 (pv 2)) da_nil)))) (de_lst da_nil))))))
    dss_nil)
    (dss_cons (ds_if (dt_w (dw_or (dt_ne hr.r.units (de_ix (hu_of hr.r) (de_var 3 (pv 3)) de_int (fun _ _ => rfl)) (de_gstrE (by rfl) T.c_MOVE)) (dw_or (dt_not (dt_val (de_callG (ok_is_between T) (hr.mono (by decide)) (by rfl) T.f_is_between.g T.f_is_between.F.kp (bd_is_between T.f_is_between.F) (da_cons (de_ix (hu_of hr.r) (de_var 3 (pv 3)) de_int (fun _ _ => rfl)) (da_cons de_int (da_cons (de_sub (de_ix (hu_of hr.r) (de_var 0 (pv 0)) de_int (fun _ _ => rfl)) de_int) da_nil)))))) (dw_or1 (dt_not (dt_val (de_callG (ok_is_between T) (hr.mono (by decide)) (by rfl) T.f_is_between.g T.f_is_between.F.kp (bd_is_between T.f_is_between.F) (da_cons (de_ix (hu_of hr.r) (de_var 3 (pv 3)) de_int (fun _ _ => rfl)) (da_cons de_int (da_cons (de_sub (de_var 1 (pv 1)) de_int) da_nil))))))))))
    (dss_one (ds_ret de_bl))
    dss_nil)
    (dss_one (ds_ret (de_callG (ok_is_better T) (hr.mono (by decide)) (by rfl) T.f_is_better.g T.f_is_better.F.kp (bd_is_better T.f_is_better.F) (da_cons (de_var 0 (pv 0)) (da_cons (de_var 1 (pv 1)) (da_cons (de_var 2 (pv 2)) (da_cons (de_ix (hu_of hr.r) (de_var 3 (pv 3)) de_int (fun _ _ => rfl)) (da_cons (de_ix (hu_of hr.r) (de_var 3 (pv 3)) de_int (fun _ _ => rfl)) da_nil))))))))))))
theorem ok_is_move (T : Tops K mg) : FnG P w K mg base CX0 4 T.f_is_move.a T.f_is_move.fd ["worths", "nights", "value"] (spD (NN K) 3 (m_is_move)) := fn_okG T.f_is_move.F sc_is_move rfl rfl fun cdv A outer s H E hr =>
    (dss_cons (ds_if (dt_w (dw_or (dt_not (dt_val (de_callG (ok_are_between T) (hr.mono (by decide)) (by rfl) T.f_are_between.g T.f_are_between.F.kp (bd_are_between T.f_are_between.F) (da_cons (de_var 2 (pv 2)) (da_cons de_int (da_cons (de_sub (de_max2 rfl (by rfl) T.b_max (by decide +kernel) (de_ix (hu_of hr.r) (de_var 0 (pv 0)) de_int (fun _ _ => rfl)) (de_var 1 (pv 1))) de_int) da_nil)))))) (dw_or1 (dt_ne hr.r.units (de_len (by rfl) T.b_len (by decide +kernel) (de_var 2 (pv 2))) de_int))))
    (dss_one (ds_ret de_bl))
    dss_nil)
    (dss_one (ds_ret (de_and (de_lt (de_ix (hu_of hr.r) (de_var 2 (pv 2)) de_int (fun _ _ => rfl)) (de_ix (hu_of hr.r) (de_var 0 (pv 0)) de_int (fun _ _ => rfl))) (de_one (de_lt (de_ix (hu_of hr.r) (de_var 2 (pv 2)) de_int (fun _ _ => rfl)) (de_var 1 (pv 1))))))))
theorem ok_shows_settling (T : Tops K mg) : FnG P w K mg base CX0 9 T.f_shows_settling.a T.f_shows_settling.fd ["worths", "nights", "plan", "value"] (spD (NN K) 4 (m_shows_settling)) := fn_okG T.f_shows_settling.F sc_shows_settling rfl rfl fun cdv A outer s H E hr =>
    (dss_cons (ds_expr (de_callG (ok_check_settling T) (hr.mono (by decide)) (by rfl) T.f_check_settling.g T.f_check_settling.F.kp (bd_check_settling T.f_check_settling.F) (da_cons (de_var 0 (pv 0)) (da_cons (de_var 1 (pv 1)) (da_cons (de_var 2 (pv 2)) da_nil)))))
    (dss_cons (ds_if (dt_w (dw_or (dt_not (dt_val (de_isi (b := "tuple") (by rfl) T.b_isinstance (by rfl) T.b_tuple (by decide +kernel) (de_var 3 (pv 3))))) (dw_or1 (dt_not (dt_val (de_all rfl (by rfl) T.b_all (by decide +kernel) (de_lc (own := [("move", 6)]) (me := .fz) rfl sc_shows_settling.nd (di_seq (de_var 3 (pv 3))) (blkOk_by (by first | decide +kernel | rfl)) (fun _ _ _ _ _ => (dg_name (i := 6) sc_shows_settling.nd rfl (by first | exact Or.inl rfl | exact Or.inr rfl))) (fun _ _ _ _ _ => dts_nil) (fun _ _ _ _ _ => (de_callG (ok_is_move T) (hr.mono (by decide)) (by rfl) T.f_is_move.g T.f_is_move.F.kp (bd_is_move T.f_is_move.F) (da_cons (de_var 0 (pv 0)) (da_cons (de_var 1 (pv 1)) (da_cons (de_var 6 (pv 6)) da_nil))))))))))))
    (dss_one (ds_ret de_bl))
    dss_nil)
    (dss_cons (ds_for PassesOwn.never rfl (di_seq (de_var 3 (pv 3))) (dg_tup rfl (dgs_cons (dg_name (i := 4) sc_shows_settling.nd rfl (by first | exact Or.inl rfl | exact Or.inr rfl)) (dgs_cons (dg_name (i := 5) sc_shows_settling.nd rfl (by first | exact Or.inl rfl | exact Or.inr rfl)) dgs_nil)))
    (dss_cons (ds_if (dt_not (dt_val (de_callG (ok_is_better T) (hr.mono (by decide)) (by rfl) T.f_is_better.g T.f_is_better.F.kp (bd_is_better T.f_is_better.F) (da_cons (de_var 0 (pv 0)) (da_cons (de_var 1 (pv 1)) (da_cons (de_var 2 (pv 2)) (da_cons (de_var 4 (pv 4)) (da_cons (de_var 5 (pv 5)) da_nil))))))))
    (dss_one (ds_ret de_bl))
    dss_nil)
    (dss_one (ds_set (i := 2) sc_shows_settling.nd rfl (by first | exact Or.inl rfl | exact Or.inr rfl) (de_callG (ok_move_done T) (hr.mono (by decide)) (by rfl) T.f_move_done.g T.f_move_done.F.kp (bd_move_done T.f_move_done.F) (da_cons (de_var 2 (pv 2)) (da_cons (de_var 4 (pv 4)) (da_cons (de_var 5 (pv 5)) da_nil))))))))
    (dss_one (ds_ret (de_eq hr.r.units (de_callG (ok_better_moves T) (hr.mono (by decide)) (by rfl) T.f_better_moves.g T.f_better_moves.F.kp (bd_better_moves T.f_better_moves.F) (da_cons (de_var 0 (pv 0)) (da_cons (de_var 1 (pv 1)) (da_cons (de_var 2 (pv 2)) da_nil)))) (de_lst da_nil)))))))
theorem ok_check_asked (T : Tops K mg) : FnG P w K mg base CX0 8 T.f_check_asked.a T.f_check_asked.fd ["worths", "nights"] (spD (NN K) 2 (m_check_asked)) := fn_okG T.f_check_asked.F sc_check_asked rfl rfl fun cdv A outer s H E hr =>
    (dss_cons (ds_expr (de_callG (ok_check_less T) (hr.mono (by decide)) (by rfl) T.f_check_less.g T.f_check_less.F.kp (bd_check_less T.f_check_less.F) (da_cons (de_var 0 (pv 0)) da_nil)))
    (dss_one (ds_expr (de_callG (ok_check_nights T) (hr.mono (by decide)) (by rfl) T.f_check_nights.g T.f_check_nights.F.kp (bd_check_nights T.f_check_nights.F) (da_cons (de_var 1 (pv 1)) da_nil)))))
theorem ok_greedy_plan (T : Tops K mg) : FnG P w K mg base CX0 9 T.f_greedy_plan.a T.f_greedy_plan.fd ["worths", "nights"] (spD (NN K) 2 (m_greedy_plan)) := fn_okG T.f_greedy_plan.F sc_greedy_plan rfl rfl fun cdv A outer s H E hr =>
    (dss_cons (ds_expr (de_callG (ok_check_asked T) (hr.mono (by decide)) (by rfl) T.f_check_asked.g T.f_check_asked.F.kp (bd_check_asked T.f_check_asked.F) (da_cons (de_var 0 (pv 0)) (da_cons (de_var 1 (pv 1)) da_nil))))
    (dss_cons (ds_tup3 (o1 := false) (o2 := false) (o3 := true) (i := 3) (j := 4) (l := 5) rfl sc_greedy_plan.nd (de_callG (ok_table_of T) (hr.mono (by decide)) (by rfl) T.f_table_of.g T.f_table_of.F.kp (bd_table_of T.f_table_of.F) (da_cons (de_var 0 (pv 0)) da_nil)) (DE.fz (de_repL (de_lst (da_cons (de_tup da_nil) da_nil)) (de_var 1 (pv 1)))) (de_lst da_nil))
    (dss_cons (ds_for PassesOwn.never rfl (di_range1 (by rfl) T.b_range (de_ix (hu_of hr.r) (de_var 0 (pv 0)) de_int (fun _ _ => rfl))) (dg_name (i := 2) sc_greedy_plan.nd rfl (by first | exact Or.inl rfl | exact Or.inr rfl))
    (dss_cons (ds_setLc (i := 6) (own := [("night", 7), ("lot", 8)]) rfl sc_greedy_plan.nd rfl rfl (sw_true rfl rfl rfl (by decide +kernel)) (di_enum (by rfl) T.b_enumerate (de_var 4 (pv 4))) (blkOk_by (by first | decide +kernel | rfl)) (fun _ _ _ _ _ => (dg_tup rfl (dgs_cons (dg_name (i := 7) sc_greedy_plan.nd rfl (by first | exact Or.inl rfl | exact Or.inr rfl)) (dgs_cons (dg_name (i := 8) sc_greedy_plan.nd rfl (by first | exact Or.inl rfl | exact Or.inr rfl)) dgs_nil)))) (fun _ _ _ _ _ => dts_nil) (fun _ _ _ _ _ => (de_tup (da_cons (de_sub (de_ix (hu_of hr.r) (de_var 3 (pv 3)) (de_var 8 (pv 8)) (fun _ _ => rfl)) (de_ix (hu_of hr.r) (de_var 3 (pv 3)) (de_callG (ok_with_post T) (hr.mono (by decide)) (by rfl) T.f_with_post.g T.f_with_post.F.kp (bd_with_post T.f_with_post.F) (da_cons (de_var 8 (pv 8)) (da_cons (de_var 2 (pv 2)) da_nil))) (fun _ _ => rfl))) (da_cons (de_var 7 (pv 7)) da_nil)))))
    (dss_cons (ds_app (pv 5) (de_ix (hu_of hr.r) (de_min1 (huG hr) rfl (by rfl) T.b_min (by decide +kernel) (de_var 6 (pv 6))) de_int (fun _ _ => rfl)))
    (dss_one (ds_set (i := 4) sc_greedy_plan.nd rfl (by first | exact Or.inl rfl | exact Or.inr rfl) (de_callB (i := 5) (ok_lots_by T) (hr.mono (by decide)) (by rfl) T.f_lots_by.g T.f_lots_by.F.kp (bd_lots_by T.f_lots_by.F) (dab_cons (de_var 1 (pv 1)) (dab_own (pv 5) dab_nil))))))))
    (dss_one (ds_ret (de_toTup (by rfl) T.b_tuple (by decide +kernel) (de_varB 5 (pv 5))))))))
theorem ok__law_greedy (T : Tops K mg) : FnG P w K mg base CX0 2 T.f__law_greedy.a T.f__law_greedy.fd ["table", "many", "nights"] (spD (NN K) 3 (m__law_greedy)) := fn_okG T.f__law_greedy.F sc__law_greedy rfl rfl fun cdv A outer s H E hr =>
    (dss_cons (ds_set (i := 3) sc__law_greedy.nd rfl (by first | exact Or.inl rfl | exact Or.inr rfl) (de_tup da_nil))
    (dss_cons (ds_for PassesOwn.never rfl (di_range1 (by rfl) T.b_range (de_var 1 (pv 1))) (dg_name (i := 4) sc__law_greedy.nd rfl (by first | exact Or.inl rfl | exact Or.inr rfl))
    (dss_cons (ds_setLc (i := 5) (own := [("lot", 6)]) rfl sc__law_greedy.nd rfl rfl (sw_true rfl rfl rfl (by decide +kernel)) (di_seq (de_callG (ok__law_nights T) (hr.mono (by decide)) (by rfl) T.f__law_nights.g T.f__law_nights.F.kp (bd__law_nights T.f__law_nights.F) (da_cons (de_var 3 (pv 3)) (da_cons (de_var 2 (pv 2)) da_nil)))) (blkOk_by (by first | decide +kernel | rfl)) (fun _ _ _ _ _ => (dg_name (i := 6) sc__law_greedy.nd rfl (by first | exact Or.inl rfl | exact Or.inr rfl))) (fun _ _ _ _ _ => dts_nil) (fun _ _ _ _ _ => (de_sub (de_ix (hu_of hr.r) (de_var 0 (pv 0)) (de_toTup (by rfl) T.b_tuple (by decide +kernel) (de_sortedI (huG hr) (by rfl) T.b_sorted (by decide +kernel) (de_add (de_var 6 (pv 6)) (de_tup (da_cons (de_var 4 (pv 4)) da_nil))))) (fun _ _ => rfl)) (de_ix (hu_of hr.r) (de_var 0 (pv 0)) (de_var 6 (pv 6)) (fun _ _ => rfl)))))
    (dss_one (ds_set (i := 3) sc__law_greedy.nd rfl (by first | exact Or.inl rfl | exact Or.inr rfl) (de_add (de_var 3 (pv 3)) (de_tup (da_cons (de_toInt (by rfl) T.b_int (by decide +kernel) (de_index (huG hr) (de_var 5 (pv 5)) (de_max1 (huG hr) rfl (by rfl) T.b_max (by decide +kernel) (de_var 5 (pv 5))))) da_nil)))))))
    (dss_one (ds_ret (de_var 3 (pv 3))))))
theorem ok__law_plans (T : Tops K mg) : FnG P w K mg base CX0 1 T.f__law_plans.a T.f__law_plans.fd ["many", "nights"] (spD (NN K) 2 (m__law_plans)) := fn_okG T.f__law_plans.F sc__law_plans rfl rfl fun cdv A outer s H E hr =>
    (dss_cons (ds_set (i := 2) sc__law_plans.nd rfl (by first | exact Or.inl rfl | exact Or.inr rfl) (DE.fz (de_lst (da_cons (de_tup da_nil) da_nil))))
    (dss_cons (ds_for PassesOwn.never rfl (di_range1 (by rfl) T.b_range (de_var 0 (pv 0))) (dg_name (i := 3) sc__law_plans.nd rfl (by first | exact Or.inl rfl | exact Or.inr rfl))
    (dss_cons (ds_own (i := 4) sc__law_plans.nd rfl (by first | exact Or.inl rfl | exact Or.inr rfl) (de_lst da_nil))
    (dss_cons (ds_for PassesOwn.never rfl (di_seq (de_var 2 (pv 2))) (dg_name (i := 5) sc__law_plans.nd rfl (by first | exact Or.inl rfl | exact Or.inr rfl))
    (dss_one (ds_ext (pv 4) (DE.fz (de_lc (own := [("night", 6)]) (me := .fz) rfl sc__law_plans.nd (di_range1 (by rfl) T.b_range (de_var 1 (pv 1))) (blkOk_by (by first | decide +kernel | rfl)) (fun _ _ _ _ _ => (dg_name (i := 6) sc__law_plans.nd rfl (by first | exact Or.inl rfl | exact Or.inr rfl))) (fun _ _ _ _ _ => dts_nil) (fun _ _ _ _ _ => (de_add (de_var 5 (pv 5)) (de_tup (da_cons (de_toInt (by rfl) T.b_int (by decide +kernel) (de_var 6 (pv 6))) da_nil)))))))))
    (dss_fz 4 (dss_one (ds_set (i := 2) sc__law_plans.nd rfl (by first | exact Or.inl rfl | exact Or.inr rfl) (de_var 4 (pv 4))))))))
    (dss_one (ds_ret (de_var 2 (pv 2))))))
theorem ok__law_right (T : Tops K mg) : FnG P w K mg base CX0 10 T.f__law_right.a T.f__law_right.fd ["pot"] (spD (NN K) 1 (m__law_right)) := fn_okG T.f__law_right.F sc__law_right rfl rfl fun cdv A outer s H E hr =>
    (dss_cons (ds_asg (de_tup (da_cons (de_add de_int (de_callG (ok__law_take T) (hr.mono (by decide)) (by rfl) T.f__law_take.g T.f__law_take.F.kp (bd__law_take T.f__law_take.F) (da_cons (de_var 0 (pv 0)) (da_cons de_int da_nil)))) (da_cons (de_toInt (by rfl) T.b_int (by decide +kernel) (de_add de_int (de_callG (ok__law_take T) (hr.mono (by decide)) (by rfl) T.f__law_take.g T.f__law_take.F.kp (bd__law_take T.f__law_take.F) (da_cons (de_var 0 (pv 0)) (da_cons de_int da_nil))))) da_nil))) (dg_tup rfl (dgs_cons (dg_name (i := 8) sc__law_right.nd rfl (by first | exact Or.inl rfl | exact Or.inr rfl)) (dgs_cons (dg_name (i := 9) sc__law_right.nd rfl (by first | exact Or.inl rfl | exact Or.inr rfl)) dgs_nil))))
    (dss_cons (ds_set (i := 1) sc__law_right.nd rfl (by first | exact Or.inl rfl | exact Or.inr rfl) (de_callG (ok__law_worths T) (hr.mono (by decide)) (by rfl) T.f__law_worths.g T.f__law_worths.F.kp (bd__law_worths T.f__law_worths.F) (da_cons (de_var 0 (pv 0)) (da_cons (de_var 8 (pv 8)) da_nil))))
    (dss_cons (ds_asg (de_tup (da_cons (de_callG (ok__law_table T) (hr.mono (by decide)) (by rfl) T.f__law_table.g T.f__law_table.F.kp (bd__law_table T.f__law_table.F) (da_cons (de_var 1 (pv 1)) da_nil)) (da_cons (de_toTup (by rfl) T.b_tuple (by decide +kernel) (de_lc (own := [("post", 15)]) (me := .fz) rfl sc__law_right.nd (di_range1 (by rfl) T.b_range (de_var 8 (pv 8))) (blkOk_by (by first | decide +kernel | rfl)) (fun _ _ _ _ _ => (dg_name (i := 15) sc__law_right.nd rfl (by first | exact Or.inl rfl | exact Or.inr rfl))) (fun _ _ _ _ _ => dts_nil) (fun _ _ _ _ _ => (de_toInt (by rfl) T.b_int (by decide +kernel) (de_callG (ok__law_take T) (hr.mono (by decide)) (by rfl) T.f__law_take.g T.f__law_take.F.kp (bd__law_take T.f__law_take.F) (da_cons (de_var 0 (pv 0)) (da_cons (de_var 9 (pv 9)) da_nil))))))) da_nil))) (dg_tup rfl (dgs_cons (dg_name (i := 10) sc__law_right.nd rfl (by first | exact Or.inl rfl | exact Or.inr rfl)) (dgs_cons (dg_name (i := 11) sc__law_right.nd rfl (by first | exact Or.inl rfl | exact Or.inr rfl)) dgs_nil))))
    (dss_cons (ds_par2 (o1 := false) (o2 := false) (i := 12) (j := 13) rfl sc__law_right.nd (de_callG (ok__law_better T) (hr.mono (by decide)) (by rfl) T.f__law_better.g T.f__law_better.F.kp (bd__law_better T.f__law_better.F) (da_cons (de_var 10 (pv 10)) (da_cons (de_var 11 (pv 11)) (da_cons (de_var 9 (pv 9)) da_nil)))) (de_callK [2, 1, 0] (ok_settled T) (hr.mono (by decide)) (by rfl) T.f_settled.g T.f_settled.F.kp (kb_settled_210 T.f_settled.F) (dk_cons (de_var 11 (pv 11)) (dk_cons (de_var 9 (pv 9)) (dk_cons (de_var 1 (pv 1)) dk_nil)))))
    (dss_cons (ds_set (i := 2) sc__law_right.nd rfl (by first | exact Or.inl rfl | exact Or.inr rfl) (DE.fz (de_lst (da_cons (de_var 13 (pv 13)) (da_cons (DE.fz (de_toList (by rfl) T.b_list (by decide +kernel) (de_var 13 (pv 13)))) (da_cons (de_cut (de_var 13 (pv 13)) do_none (do_some de_int)) (da_cons (de_add (de_var 13 (pv 13)) (de_tup (da_cons de_int da_nil))) (da_cons de_non (da_cons (de_tup da_nil) (da_cons (de_tup (da_cons de_str da_nil)) (da_cons (de_tup (da_cons de_str (da_cons de_int (da_cons de_int da_nil)))) (da_cons (de_tup (da_cons de_str (da_cons de_int (da_cons (de_var 9 (pv 9)) da_nil)))) (da_cons (de_tup (da_cons de_str (da_cons de_bl (da_cons de_int da_nil)))) (da_cons (de_tup (da_cons de_str (da_cons (de_var 8 (pv 8)) (da_cons de_int da_nil)))) (da_cons (de_tup (da_cons de_str (da_cons (de_neg de_int) (da_cons de_int da_nil)))) da_nil)))))))))))))))
    (dss_cons (ds_for PassesOwn.never rfl (di_seq (DE.fz (de_cat (de_cat (de_var 2 (pv 2)) (de_lc (own := [("post", 15)]) (me := .fz) rfl sc__law_right.nd (di_range1 (by rfl) T.b_range (de_var 8 (pv 8))) (blkOk_by (by first | decide +kernel | rfl)) (fun _ _ _ _ _ => (dg_name (i := 15) sc__law_right.nd rfl (by first | exact Or.inl rfl | exact Or.inr rfl))) (fun _ _ _ _ _ => dts_nil) (fun _ _ _ _ _ => (de_tup (da_cons de_str (da_cons (de_toInt (by rfl) T.b_int (by decide +kernel) (de_var 15 (pv 15))) (da_cons (de_toInt (by rfl) T.b_int (by decide +kernel) (de_callG (ok__law_take T) (hr.mono (by decide)) (by rfl) T.f__law_take.g T.f__law_take.F.kp (bd__law_take T.f__law_take.F) (da_cons (de_var 0 (pv 0)) (da_cons (de_var 9 (pv 9)) da_nil)))) da_nil))))))) (de_lst (da_cons (de_tup (da_cons de_str (da_cons de_int da_nil))) (da_cons (de_tup (da_cons de_str (da_cons de_int (da_cons de_int da_nil)))) da_nil)))))) (dg_name (i := 3) sc__law_right.nd rfl (by first | exact Or.inl rfl | exact Or.inr rfl))
    (dss_cons (ds_set (i := 14) sc__law_right.nd rfl (by first | exact Or.inl rfl | exact Or.inr rfl) (de_and (de_eq hr.r.units (de_var 3 (pv 3)) (de_tup (da_cons de_str da_nil))) (de_one (de_eq hr.r.units (de_var 12 (pv 12)) (de_lst da_nil)))))
    (dss_cons (ds_if (dt_w (dw_and (dt_val (de_isi (b := "tuple") (by rfl) T.b_isinstance (by rfl) T.b_tuple (by decide +kernel) (de_var 3 (pv 3)))) (dw_and (dt_eq hr.r.units (de_len (by rfl) T.b_len (by decide +kernel) (de_var 3 (pv 3))) de_int) (dw_and (dt_eq hr.r.units (de_ix (hu_of hr.r) (de_var 3 (pv 3)) de_int (fun _ _ => rfl)) de_str) (dw_and1 (dt_not (dt_val (de_isi (b := "bool") (by rfl) T.b_isinstance (by rfl) T.b_bool (by decide +kernel) (de_ix (hu_of hr.r) (de_var 3 (pv 3)) de_int (fun _ _ => rfl))))))))))
    (dss_one (ds_set (i := 14) sc__law_right.nd rfl (by first | exact Or.inl rfl | exact Or.inr rfl) (de_in (huG hr) (de_cut (de_var 3 (pv 3)) (do_some de_int) do_none) (de_var 12 (pv 12)))))
    dss_nil)
    (dss_one (ds_if (dt_ne hr.r.units (de_repr (huG hr) hr.g (by rfl) T.b_repr (by decide +kernel) (de_callK [3, 2, 1, 0] (ok_shows_settled T) (hr.mono (by decide)) (by rfl) T.f_shows_settled.g T.f_shows_settled.F.kp (kb_shows_settled_3210 T.f_shows_settled.F) (dk_cons (de_var 3 (pv 3)) (dk_cons (de_var 11 (pv 11)) (dk_cons (de_var 9 (pv 9)) (dk_cons (de_var 1 (pv 1)) dk_nil)))))) (de_repr (huG hr) hr.g (by rfl) T.b_repr (by decide +kernel) (de_var 14 (pv 14))))
    (dss_one (ds_ret de_bl))
    dss_nil)))))
    (dss_cons (ds_if (dt_w (dw_or (dt_ne hr.r.units (de_eq hr.r.units (de_var 13 (pv 13)) (de_tup (da_cons de_str da_nil))) (de_eq hr.r.units (de_var 12 (pv 12)) (de_lst da_nil))) (dw_or1 (dt_w (dw_and (dt_ne hr.r.units (de_var 12 (pv 12)) (de_lst da_nil)) (dw_and1 (dt_w (dw_or (dt_ne hr.r.units (de_ix (hu_of hr.r) (de_var 13 (pv 13)) de_int (fun _ _ => rfl)) de_str) (dw_or1 (dt_notIn (huG hr) (de_cut (de_var 13 (pv 13)) (do_some de_int) do_none) (de_var 12 (pv 12))))))))))))
    (dss_one (ds_ret de_bl))
    dss_nil)
    (dss_cons (ds_set (i := 4) sc__law_right.nd rfl (by first | exact Or.inl rfl | exact Or.inr rfl) (de_callK [2, 1, 0] (ok_settling T) (hr.mono (by decide)) (by rfl) T.f_settling.g T.f_settling.F.kp (kb_settling_210 T.f_settling.F) (dk_cons (de_var 11 (pv 11)) (dk_cons (de_var 9 (pv 9)) (dk_cons (de_var 1 (pv 1)) dk_nil)))))
    (dss_cons (ds_for PassesOwn.never rfl (di_seq (DE.fz (de_lst (da_cons (de_var 4 (pv 4)) (da_cons (DE.fz (de_toList (by rfl) T.b_list (by decide +kernel) (de_var 4 (pv 4)))) (da_cons (de_cut (de_var 4 (pv 4)) do_none (do_some (de_neg de_int))) (da_cons (de_add (de_var 4 (pv 4)) (de_cut (de_var 4 (pv 4)) do_none (do_some de_int))) (da_cons (de_rev (de_var 4 (pv 4))) (da_cons de_non (da_cons (de_tup (da_cons (de_tup (da_cons de_int (da_cons de_int da_nil))) da_nil)) (da_cons (de_add (de_var 4 (pv 4)) (de_tup (da_cons (de_tup (da_cons de_int (da_cons de_int da_nil))) da_nil))) (da_cons (de_tup (da_cons (de_tup (da_cons de_int da_nil)) da_nil)) (da_cons (de_tup (da_cons de_non da_nil)) (da_cons (de_tup (da_cons (de_tup (da_cons de_bl (da_cons de_int da_nil))) da_nil)) da_nil)))))))))))))) (dg_name (i := 3) sc__law_right.nd rfl (by first | exact Or.inl rfl | exact Or.inr rfl))
    (dss_one (ds_if (dt_ne hr.r.units (de_repr (huG hr) hr.g (by rfl) T.b_repr (by decide +kernel) (de_callK [3, 2, 1, 0] (ok_shows_settling T) (hr.mono (by decide)) (by rfl) T.f_shows_settling.g T.f_shows_settling.F.kp (kb_shows_settling_3210 T.f_shows_settling.F) (dk_cons (de_var 3 (pv 3)) (dk_cons (de_var 11 (pv 11)) (dk_cons (de_var 9 (pv 9)) (dk_cons (de_var 1 (pv 1)) dk_nil)))))) (de_repr (huG hr) hr.g (by rfl) T.b_repr (by decide +kernel) (de_callG (ok__law_is_row T) (hr.mono (by decide)) (by rfl) T.f__law_is_row.g T.f__law_is_row.F.kp (bd__law_is_row T.f__law_is_row.F) (da_cons (de_var 10 (pv 10)) (da_cons (de_var 11 (pv 11)) (da_cons (de_var 9 (pv 9)) (da_cons (de_var 3 (pv 3)) da_nil)))))))
    (dss_one (ds_ret de_bl))
    dss_nil)))
    (dss_cons (ds_if (dt_w (dw_or (dt_not (dt_val (de_callG (ok__law_is_row T) (hr.mono (by decide)) (by rfl) T.f__law_is_row.g T.f__law_is_row.F.kp (bd__law_is_row T.f__law_is_row.F) (da_cons (de_var 10 (pv 10)) (da_cons (de_var 11 (pv 11)) (da_cons (de_var 9 (pv 9)) (da_cons (de_var 4 (pv 4)) da_nil))))))) (dw_or1 (dt_ne hr.r.units (de_repr (huG hr) hr.g (by rfl) T.b_repr (by decide +kernel) (de_callK [1, 0] (ok_greedy_plan T) (hr.mono (by decide)) (by rfl) T.f_greedy_plan.g T.f_greedy_plan.F.kp (kb_greedy_plan_10 T.f_greedy_plan.F) (dk_cons (de_var 9 (pv 9)) (dk_cons (de_var 1 (pv 1)) dk_nil)))) (de_repr (huG hr) hr.g (by rfl) T.b_repr (by decide +kernel) (de_callG (ok__law_greedy T) (hr.mono (by decide)) (by rfl) T.f__law_greedy.g T.f__law_greedy.F.kp (bd__law_greedy T.f__law_greedy.F) (da_cons (de_var 10 (pv 10)) (da_cons (de_var 8 (pv 8)) (da_cons (de_var 9 (pv 9)) da_nil)))))))))
    (dss_one (ds_ret de_bl))
    dss_nil)
    (dss_cons (ds_par2 (o1 := false) (o2 := false) (i := 15) (j := 16) rfl sc__law_right.nd (de_toInt (by rfl) T.b_int (by decide +kernel) (de_callG (ok__law_take T) (hr.mono (by decide)) (by rfl) T.f__law_take.g T.f__law_take.F.kp (bd__law_take T.f__law_take.F) (da_cons (de_var 0 (pv 0)) (da_cons (de_var 8 (pv 8)) da_nil)))) (de_toInt (by rfl) T.b_int (by decide +kernel) (de_callG (ok__law_take T) (hr.mono (by decide)) (by rfl) T.f__law_take.g T.f__law_take.F.kp (bd__law_take T.f__law_take.F) (da_cons (de_var 0 (pv 0)) (da_cons (de_var 9 (pv 9)) da_nil)))))
    (dss_cons (ds_if (dt_ne hr.r.units (de_repr (huG hr) hr.g (by rfl) T.b_repr (by decide +kernel) (de_callK [4, 3, 2, 1, 0] (ok_moved T) (hr.mono (by decide)) (by rfl) T.f_moved.g T.f_moved.F.kp (kb_moved_43210 T.f_moved.F) (dk_cons (de_var 16 (pv 16)) (dk_cons (de_var 15 (pv 15)) (dk_cons (de_var 11 (pv 11)) (dk_cons (de_var 9 (pv 9)) (dk_cons (de_var 1 (pv 1)) dk_nil))))))) (de_repr (huG hr) hr.g (by rfl) T.b_repr (by decide +kernel) (de_callG (ok__law_done T) (hr.mono (by decide)) (by rfl) T.f__law_done.g T.f__law_done.F.kp (bd__law_done T.f__law_done.F) (da_cons (de_var 11 (pv 11)) (da_cons (de_var 15 (pv 15)) (da_cons (de_var 16 (pv 16)) da_nil))))))
    (dss_one (ds_ret de_bl))
    dss_nil)
    (dss_cons (ds_set (i := 5) sc__law_right.nd rfl (by first | exact Or.inl rfl | exact Or.inr rfl) (de_max1 (huG hr) rfl (by rfl) T.b_max (by decide +kernel) (de_lc (own := [("one", 17)]) (me := .fz) rfl sc__law_right.nd (di_seq (de_callG (ok__law_plans T) (hr.mono (by decide)) (by rfl) T.f__law_plans.g T.f__law_plans.F.kp (bd__law_plans T.f__law_plans.F) (da_cons (de_var 8 (pv 8)) (da_cons (de_var 9 (pv 9)) da_nil)))) (blkOk_by (by first | decide +kernel | rfl)) (fun _ _ _ _ _ => (dg_name (i := 17) sc__law_right.nd rfl (by first | exact Or.inl rfl | exact Or.inr rfl))) (fun _ _ _ _ _ => dts_nil) (fun _ _ _ _ _ => (de_sum rfl (by rfl) T.b_sum (by decide +kernel) (de_callG (ok__law_each T) (hr.mono (by decide)) (by rfl) T.f__law_each.g T.f__law_each.F.kp (bd__law_each T.f__law_each.F) (da_cons (de_var 10 (pv 10)) (da_cons (de_var 17 (pv 17)) (da_cons (de_var 9 (pv 9)) da_nil)))))))))
    (dss_cons (ds_set (i := 6) sc__law_right.nd rfl (by first | exact Or.inl rfl | exact Or.inr rfl) (de_var 11 (pv 11)))
    (dss_cons (ds_for PassesOwn.never rfl (di_seq (de_var 4 (pv 4))) (dg_name (i := 7) sc__law_right.nd rfl (by first | exact Or.inl rfl | exact Or.inr rfl))
    (dss_one (ds_set (i := 6) sc__law_right.nd rfl (by first | exact Or.inl rfl | exact Or.inr rfl) (de_callG (ok__law_done T) (hr.mono (by decide)) (by rfl) T.f__law_done.g T.f__law_done.F.kp (bd__law_done T.f__law_done.F) (da_cons (de_var 6 (pv 6)) (da_cons (de_ix (hu_of hr.r) (de_var 7 (pv 7)) de_int (fun _ _ => rfl)) (da_cons (de_ix (hu_of hr.r) (de_var 7 (pv 7)) de_int (fun _ _ => rfl)) da_nil)))))))
    (dss_one (ds_ret (de_and (de_ge (de_mul de_int (de_sum rfl (by rfl) T.b_sum (by decide +kernel) (de_callG (ok__law_each T) (hr.mono (by decide)) (by rfl) T.f__law_each.g T.f__law_each.F.kp (bd__law_each T.f__law_each.F) (da_cons (de_var 10 (pv 10)) (da_cons (de_var 6 (pv 6)) (da_cons (de_var 9 (pv 9)) da_nil)))))) (de_var 5 (pv 5))) (de_one (de_ge (de_mul de_int (de_sum rfl (by rfl) T.b_sum (by decide +kernel) (de_callG (ok__law_each T) (hr.mono (by decide)) (by rfl) T.f__law_each.g T.f__law_each.F.kp (bd__law_each T.f__law_each.F) (da_cons (de_var 10 (pv 10)) (da_cons (de_callG (ok_greedy_plan T) (hr.mono (by decide)) (by rfl) T.f_greedy_plan.g T.f_greedy_plan.F.kp (bd_greedy_plan T.f_greedy_plan.F) (da_cons (de_var 1 (pv 1)) (da_cons (de_var 9 (pv 9)) da_nil))) (da_cons (de_var 9 (pv 9)) da_nil)))))) (de_var 5 (pv 5))))))))))))))))))))))
theorem ok_law (T : Tops K mg) : FnG P w K mg base CX0 11 T.f_law.a T.f_law.fd ["script"] (spD (NN K) 1 (m_law)) := fn_okG T.f_law.F sc_law rfl rfl fun cdv A outer s H E hr =>
    (dss_cons (ds_for PassesOwn.never rfl (di_seq (de_callG (ok__law_cells T) (hr.mono (by decide)) (by rfl) T.f__law_cells.g T.f__law_cells.F.kp (bd__law_cells T.f__law_cells.F) (da_cons (de_var 0 (pv 0)) (da_cons de_int da_nil)))) (dg_name (i := 1) sc_law.nd rfl (by first | exact Or.inl rfl | exact Or.inr rfl))
    (dss_cons (ds_set (i := 2) sc_law.nd rfl (by first | exact Or.inl rfl | exact Or.inr rfl) (de_callG (ok__law_pot T) (hr.mono (by decide)) (by rfl) T.f__law_pot.g T.f__law_pot.F.kp (bd__law_pot T.f__law_pot.F) (da_cons (de_var 0 (pv 0)) (da_cons (de_var 1 (pv 1)) da_nil))))
    (dss_one (ds_if (dt_not (dt_val (de_all rfl (by rfl) T.b_all (by decide +kernel) (de_lc (own := [("lap", 3)]) (me := .fz) rfl sc_law.nd (di_range1 (by rfl) T.b_range de_int) (blkOk_by (by first | decide +kernel | rfl)) (fun _ _ _ _ _ => (dg_name (i := 3) sc_law.nd rfl (by first | exact Or.inl rfl | exact Or.inr rfl))) (fun _ _ _ _ _ => dts_nil) (fun _ _ _ _ _ => (de_callG (ok__law_right T) (hr.mono (by decide)) (by rfl) T.f__law_right.g T.f__law_right.F.kp (bd__law_right T.f__law_right.F) (da_cons (de_var 2 (pv 2)) da_nil)))))))
    (dss_one (ds_ret de_bl))
    dss_nil))))
    (dss_one (ds_ret de_bl)))
end
end K06

set_option Elab.async false
set_option linter.all false
set_option maxRecDepth 100000
set_option maxHeartbeats 4000000
/-! K06P1: the pot and the draws -/
namespace K06
open PySem PySem.Spec PyProof.Rows L2 DL
theorem lg {x : Int} {B k : Nat} (h0 : 0 ≤ x) (h : x ≤ B) (hk : B < 2 ^ k) (k0 : 0 < k := by decide) : x.natAbs.log2 < k := by
  have hx : x.natAbs < 2 ^ k := Nat.lt_of_le_of_lt (by omega) hk
  by_cases e : x.natAbs = 0
  · rw [e]; exact k0
  · exact (Nat.log2_lt e).mpr hx
/-- the pot at i: k draws may still be made -/
def Pot (i k : Nat) (S : Store) : Prop := ∃ a b c : Int, S[i]? = some (.ml [.int a, .int b, .int c]) ∧ 0 ≤ a ∧ 0 ≤ b ∧ b < 2305843009213693951 ∧ 0 ≤ c ∧ c + k ≤ 1000000 ∧ S.all SO.flat = true
theorem flat_set {S : Store} {o : SO} (h : S.all SO.flat = true) (ho : o.flat = true) (i : Nat) : (S.set i o).all SO.flat = true := by
  rw [List.all_eq_true] at h ⊢
  intro x hx
  rcases List.mem_or_eq_of_mem_set hx with hx | hx
  · exact h x hx
  · rw [hx]; exact ho
theorem take {i k : Nat} {n : Int} {S : Store} (hn : 0 < n) (hn2 : n ≤ 1000) (P : Pot i (k + 1) S) : Okw (m__law_take [.ob i, .int n]) S fun d S' => ∃ v : Int, d = .int v ∧ 0 ≤ v ∧ v < n ∧ Pot i k S' := by
  obtain ⟨a, b, c, hS, a0, b0, b1, c0, c1, hF⟩ := P
  have hi : i < S.length := (List.getElem?_eq_some_iff.mp hS).1
  refine Okw.fn rfl ?_
  show Okw (b__law_take [some (.d (.ob i)), some (.d (.int n)), none, none, none]) S _
  by_cases ha : 0 < a
  · have hdiv : dDivC a n = true := by
      unfold dDivC
      rw [Bool.and_eq_true]
      exact ⟨decide_eq_true hn, decide_eq_true (lg (B := 1000) (by omega) (by omega) (k := 9000) (by exact Nat.lt_of_lt_of_le (by decide : 1000 < 2 ^ 10) (Nat.pow_le_pow_right (by decide) (by decide))))⟩
    have e : b__law_take [some (.d (.ob i)), some (.d (.int n)), none, none, none] S = .ok (.rt (.int (a % n))) (S.set i (.ml [.int (a / n), .int b, .int c])) := by
      simp [b__law_take, fSeq, fIfS, tV, f2, f1, dIx, obM, gv, M.bind, M.ret, M.opt, M.stuck, hS, dGt, kI, kIc, dInt, dMod, dDiv, fSet, fPutOb, obPut, obW, fRet, atI, ixN, D.isBl, ha, hn, hdiv]
    refine ⟨_, _, e, _, rfl, a % n, rfl, Int.emod_nonneg _ (by omega), Int.emod_lt_of_pos _ hn, a / n, b, c, ?_, Int.ediv_nonneg a0 (by omega), b0, b1, c0, by omega, flat_set hF rfl i⟩
    rw [List.getElem?_set_self hi]
  · obtain ⟨p, hp, p0, p1⟩ : ∃ p : Int, atI [D.int 2147483647, .int 2147483629, .int 2147483587, .int 2147483579] ((c + 1) % 4) = some (.int p) ∧ 0 < p ∧ p ≤ 2147483647 := by
      have h : (c + 1) % 4 = 0 ∨ (c + 1) % 4 = 1 ∨ (c + 1) % 4 = 2 ∨ (c + 1) % 4 = 3 := by omega
      rcases h with h | h | h | h <;> rw [h]
      · exact ⟨_, rfl, by decide, by decide⟩
      · exact ⟨_, rfl, by decide, by decide⟩
      · exact ⟨_, rfl, by decide, by decide⟩
      · exact ⟨_, rfl, by decide, by decide⟩
    have hc1 : 0 ≤ c + 1 ∧ c + 1 ≤ 1000000 := ⟨by omega, by omega⟩
    generalize hd : c + 1 = d at hp hc1
    obtain ⟨d0, d1⟩ := hc1
    have dd0 : 0 ≤ d * d := Int.mul_nonneg d0 d0
    have dd1 : d * d ≤ 1000000 * 1000000 := Int.mul_le_mul d1 d1 d0 (by decide)
    have m1 : dMulC 107329 d = true := decide_eq_true (Nat.lt_of_lt_of_le (Nat.add_lt_add (lg (B := 107329) (by decide) (by decide) (k := 20) (by decide)) (lg (B := 1000000) d0 d1 (k := 20) (by decide))) (by decide))
    have m2 : dMulC (107329 * d) d = true := decide_eq_true (Nat.lt_of_lt_of_le (Nat.add_lt_add (lg (B := 107329000000) (by omega) (by omega) (k := 40) (by decide)) (lg (B := 1000000) d0 d1 (k := 20) (by decide))) (by decide))
    have e1 : 107329 * d * d = 107329 * (d * d) := Int.mul_assoc _ _ _
    generalize hx : b + 107329 * d * d + 2217 = x
    have x0 : 0 ≤ x := by omega
    have x1 : x ≤ 2^63 := by omega
    have m3 : (decide ((0 : Int) ≤ 3) && decide ((3 : Int) ≤ 1000) && decide (x.natAbs.log2 < 100000)) = true := by
      have : x.natAbs.log2 < 100000 := Nat.lt_trans (lg (B := 2 ^ 63) x0 (by simpa using x1) (k := 64) (by decide)) (by decide)
      simp [this]
    generalize hbl : x ^ (3 : Int).toNat % p = bl
    have bl0 : 0 ≤ bl := by rw [← hbl]; exact Int.emod_nonneg _ (by omega)
    have bl1 : bl < p := by rw [← hbl]; exact Int.emod_lt_of_pos _ p0
    have m4 : dMulC 1419 d = true := decide_eq_true (Nat.lt_of_lt_of_le (Nat.add_lt_add (lg (B := 1419) (by decide) (by decide) (k := 20) (by decide)) (lg (B := 1000000) d0 d1 (k := 20) (by decide))) (by decide))
    have m5 : dMulC bl (bl % 10007 + 1419 * d) = true := decide_eq_true (Nat.lt_of_lt_of_le (Nat.add_lt_add (lg (B := 2147483647) bl0 (by omega) (k := 40) (by decide)) (lg (B := 1419010007) (x := bl % 10007 + 1419 * d) (by omega) (by omega) (k := 40) (by decide))) (by decide))
    have m6 : ∀ y : Int, dDivC y 307 = true := fun y => by
      unfold dDivC
      decide
    have e : b__law_take [some (.d (.ob i)), some (.d (.int n)), none, none, none] S = .ok (.rt (.int (bl * (bl % 10007 + 1419 * d) / 307 % n))) (S.set i (.ml [.int a, .int b, .int d])) := by
      have hS' : (S.set i (.ml [.int a, .int b, .int d]))[i]? = some (.ml [.int a, .int b, .int d]) := List.getElem?_set_self hi
      have q0 : ∀ x y z : D, atI [x, y, z] 0 = some x := fun _ _ _ => rfl
      have q1 : ∀ x y z : D, atI [x, y, z] 1 = some y := fun _ _ _ => rfl
      have q2 : ∀ x y z : D, atI [x, y, z] 2 = some z := fun _ _ _ => rfl
      have q3 : ixN 3 2 = some 2 := rfl
      have q4 : 4 ≤ sizeLine := by decide
      have q5 : x.natAbs.log2 < 100000 := Nat.lt_trans (lg (B := 2 ^ 63) x0 (by simpa using x1) (k := 64) (by decide)) (by decide)
      have hbl' : x ^ 3 % p = bl := hbl
      simp [q0, q1, q2, q3, q4, q5, hbl', b__law_take, fSeq, fIfS, tV, f2, f1, dIx, obM, gv, M.bind, M.ret, M.opt, M.stuck, hS, hS', dGt, kI, kIc, dInt, dMod, dDiv, dAdd, dMul, dPow, fSet, fPutOb, obPut, obW, fRet, fNx, fLst, fCons, fNil, mkLst, D.isBl, ha, hn, hd, hp, m1, m2, m3, m4, m5, m6, hx, hbl, p0]
    refine ⟨_, _, e, _, rfl, _, rfl, Int.emod_nonneg _ (by omega), Int.emod_lt_of_pos _ hn, a, b, d, ?_, a0, b0, b1, d0, by omega, flat_set hF rfl i⟩
    rw [List.getElem?_set_self hi]

theorem pot {ns : List Int} {place : Int} {S : Store} (hF : S.all SO.flat = true) (h0 : 0 ≤ place) (h2 : place ≤ 2) : Okw (m__law_pot [.scr ns, .int place]) S fun d S' => d = .ob S.length ∧ Pot S.length 1000000 S' := by
  refine Okw.fn rfl ?_
  show Okw (b__law_pot [some (.d (.scr ns)), some (.d (.int place)), none, none, none]) S _
  have hcell : ∃ cell : Int, fIf (tV (f2 dLt (gv 1) (f1 dLen (gv 0)))) (f2 dIx (gv 0) (gv 1)) (f2 dAdd (f2 dAdd (f2 dMod (f1 dInt (f1 dSum (fCut (gv 0) (fun _ => M.ret none) (fI (fun _ => M.ret (.int 1)))))) (fun _ => M.ret (.int 1000003))) (f2 dMul (fun _ => M.ret (.int 2117)) (gv 1))) (fun _ => M.ret (.int 4157))) [some (.d (.scr ns)), some (.d (.int place)), none, none, none] = M.ret (.int cell) := by
    by_cases hl : place < ns.length
    · obtain ⟨j, hj⟩ : ∃ j, atI ns place = some j := by
        unfold atI ixN
        rw [if_pos h0, if_pos hl]
        exact ⟨_, List.getElem?_eq_getElem (by omega)⟩
      refine ⟨j, ?_⟩
      simp [fIf, tV, f2, f1, dLt, kI, dLen, gv, M.ret_bind, D.isBl, hl, dIx, hj, M.opt]
    · have e : dMul (.int 2117) (.int place) = M.ret (.int (2117 * place)) := by
        unfold dMul kIc
        exact if_pos (decide_eq_true (Nat.lt_of_lt_of_le (Nat.add_lt_add (lg (B := 2117) (by decide) (by decide) (k := 20) (by decide)) (lg (B := 2) h0 h2 (k := 20) (by decide))) (by decide)))
      have hs : ∃ z : Int, f1 dInt (f1 dSum (fCut (gv 0) (fun _ => M.ret none) (fI (fun _ => M.ret (.int 1))))) [some (.d (.scr ns)), some (.d (.int place)), none, none, none] = M.ret (.int z) := by
        match ns, hl with
        | [], hl => exact ⟨([] : List Int).sum, rfl⟩
        | [x], hl => exact ⟨[x].sum, rfl⟩
        | [x, y], hl => exact ⟨[x].sum, rfl⟩
        | _ :: _ :: _ :: _, hl => exact absurd (show place < _ by simp only [List.length_cons]; omega) hl
      obtain ⟨z, hz⟩ := hs
      refine ⟨z % 1000003 + 2117 * place + 4157, ?_⟩
      have hl' : decide (place < (ns.length : Int)) = false := decide_eq_false hl
      have e2 : dMod (.int z) (.int 1000003) = M.ret (.int (z % 1000003)) := rfl
      unfold fIf tV
      rw [show f2 dLt (gv 1) (f1 dLen (gv 0)) [some (.d (.scr ns)), some (.d (.int place)), none, none, none] = M.ret (.bl (decide (place < (ns.length : Int)))) from rfl, M.ret_bind]
      unfold D.isBl
      rw [M.ret_bind, hl', if_neg (by decide)]
      unfold f2
      simp only [hz, M.ret_bind, e2, gv, List.getElem?_cons_succ, List.getElem?_cons_zero, e]
      rfl
  obtain ⟨cell, hcell⟩ := hcell
  have p0 : (0 : Int) < (10 ^ 60) ^ 5 := by decide
  have own : ∃ z : Int, f2 dMul (f2 dMod (f1 dInt (f1 dAbs (gv 2))) (f2 dPow (f2 dPow (fun _ => M.ret (.int 10)) (fun _ => M.ret (.int 60))) (fun _ => M.ret (.int 5)))) (f1 dInt (f2 dGe (f1 dAbs (gv 2)) (f2 dPow (fun _ => M.ret (.int 10)) (fun _ => M.ret (.int 18))))) [some (.d (.scr ns)), some (.d (.int place)), some (.d (.int cell)), none, none] = M.ret (.int z) ∧ 0 ≤ z := by
    have e1 : f2 dMod (f1 dInt (f1 dAbs (gv 2))) (f2 dPow (f2 dPow (fun _ => M.ret (.int 10)) (fun _ => M.ret (.int 60))) (fun _ => M.ret (.int 5))) [some (.d (.scr ns)), some (.d (.int place)), some (.d (.int cell)), none, none] = M.ret (.int ((if cell < 0 then -cell else cell) % (10 ^ 60) ^ 5)) := by
      funext S
      kernel_rfl
    have e2 : f1 dInt (f2 dGe (f1 dAbs (gv 2)) (f2 dPow (fun _ => M.ret (.int 10)) (fun _ => M.ret (.int 18)))) [some (.d (.scr ns)), some (.d (.int place)), some (.d (.int cell)), none, none] = M.ret (.int (if decide (10 ^ 18 ≤ (if cell < 0 then -cell else cell)) = true then 1 else 0)) := by
      funext S
      kernel_rfl
    generalize (if cell < 0 then -cell else cell) = ab at e1 e2
    have x0 : 0 ≤ ab % (10 ^ 60) ^ 5 := Int.emod_nonneg _ (by omega)
    have x1 : ab % (10 ^ 60) ^ 5 < (10 ^ 60) ^ 5 := Int.emod_lt_of_pos _ p0
    generalize hx : ab % (10 ^ 60) ^ 5 = x at e1 x0 x1
    generalize hy : (if decide (10 ^ 18 ≤ ab) = true then (1 : Int) else 0) = y at e2
    have y0 : 0 ≤ y ∧ y ≤ 1 := by rw [← hy]; split <;> decide
    have hm : dMulC x y = true := decide_eq_true (Nat.lt_of_lt_of_le (Nat.add_lt_add (lg (B := ((10 ^ 60) ^ 5 : Nat)) x0 (by omega) (k := 1000) (by decide +kernel)) (lg (B := 1) y0.1 y0.2 (k := 20) (by decide))) (by decide))
    refine ⟨x * y, ?_, Int.mul_nonneg x0 y0.1⟩
    rw [f2, e1, e2]
    exact if_pos hm
  obtain ⟨z, hz, z0⟩ := own
  have s0 : 0 ≤ cell % 2305843009213693951 := Int.emod_nonneg _ (by decide)
  have s1 : cell % 2305843009213693951 < 2305843009213693951 := Int.emod_lt_of_pos _ (by decide)
  generalize hs : cell % 2305843009213693951 = sm at s0 s1
  have m1 : dMulC sm 79449 = true := decide_eq_true (Nat.lt_of_lt_of_le (Nat.add_lt_add (lg (B := 2305843009213693951) s0 (by omega) (k := 70) (by decide)) (lg (B := 79449) (by decide) (by decide) (k := 20) (by decide))) (by decide))
  have m2 : dMulC 10843 place = true := decide_eq_true (Nat.lt_of_lt_of_le (Nat.add_lt_add (lg (B := 10843) (by decide) (by decide) (k := 20) (by decide)) (lg (B := 2) h0 h2 (k := 20) (by decide))) (by decide))
  have m3 : dMulC (10843 * place) place = true := decide_eq_true (Nat.lt_of_lt_of_le (Nat.add_lt_add (lg (B := 21686) (by omega) (by omega) (k := 20) (by decide)) (lg (B := 2) h0 h2 (k := 20) (by decide))) (by decide))
  have r0 : 0 ≤ (sm * 79449 + 10843 * place * place + 1517) % 2305843009213693921 := Int.emod_nonneg _ (by decide)
  have r1 : (sm * 79449 + 10843 * place * place + 1517) % 2305843009213693921 < 2305843009213693921 := Int.emod_lt_of_pos _ (by decide)
  generalize hr : (sm * 79449 + 10843 * place * place + 1517) % 2305843009213693921 = b at r0 r1
  have q4 : 3 ≤ sizeLine := by decide
  have k1 : dMul (.int sm) (.int 79449) = M.ret (.int (sm * 79449)) := if_pos m1
  have k2 : dMul (.int 10843) (.int place) = M.ret (.int (10843 * place)) := if_pos m2
  have k3 : dMul (.int (10843 * place)) (.int place) = M.ret (.int (10843 * place * place)) := if_pos m3
  have k4 : ∀ x y : Int, dAdd (.int x) (.int y) = M.ret (.int (x + y)) := fun _ _ => rfl
  have k5 : ∀ x : Int, dMod (.int x) (.int 2305843009213693921) = M.ret (.int (x % 2305843009213693921)) := fun _ => rfl
  have k6 : ∀ x : Int, dMod (.int x) (.int 2305843009213693951) = M.ret (.int (x % 2305843009213693951)) := fun _ => rfl
  have k7 : ∀ x : Int, dInt (.int x) = M.ret (.int x) := fun _ => rfl
  have e : b__law_pot [some (.d (.scr ns)), some (.d (.int place)), none, none, none] = fun S => .ok (.rt (.ob S.length)) (S ++ [.ml [.int z, .int b, .int 0]]) := by
    unfold b__law_pot
    rw [fSeq, fSet, hcell, M.ret_bind, M.ret_bind]
    show fSeq _ _ [some (.d (.scr ns)), some (.d (.int place)), some (.d (.int cell)), none, none] = _
    rw [fSeq, fSet, hz, M.ret_bind, M.ret_bind]
    show fSeq _ _ [some (.d (.scr ns)), some (.d (.int place)), some (.d (.int cell)), some (.d (.int z)), none] = _
    rw [fSeq, fSet]
    have g2 : gv 2 [some (.d (.scr ns)), some (.d (.int place)), some (.d (.int cell)), some (.d (.int z)), none] = M.ret (.int cell) := rfl
    rw [f2, f1, g2, M.ret_bind, k7, M.ret_bind, M.ret_bind, k6, M.ret_bind, M.ret_bind, hs]
    show fRet _ [some (.d (.scr ns)), some (.d (.int place)), some (.d (.int cell)), some (.d (.int z)), some (.d (.int sm))] = _
    have h1 : gv 1 [some (.d (.scr ns)), some (.d (.int place)), some (.d (.int cell)), some (.d (.int z)), some (.d (.int sm))] = M.ret (.int place) := rfl
    have h3 : gv 3 [some (.d (.scr ns)), some (.d (.int place)), some (.d (.int cell)), some (.d (.int z)), some (.d (.int sm))] = M.ret (.int z) := rfl
    have h4 : gv 4 [some (.d (.scr ns)), some (.d (.int place)), some (.d (.int cell)), some (.d (.int z)), some (.d (.int sm))] = M.ret (.int sm) := rfl
    simp only [fRet, fLst, fCons, fNil, f2, f1, h1, h3, h4, M.ret_bind, k1, k2, k3, k4, k5, k7, hr]
    rfl
  refine ⟨_, _, by rw [e], _, rfl, rfl, z, b, 0, ?_, z0, r0, by omega, by decide, by decide, by rw [List.all_append, hF]; rfl⟩
  rw [List.getElem?_append_right (Nat.le_refl _), Nat.sub_self]
  rfl
end K06


set_option Elab.async false
set_option linter.all false
set_option maxRecDepth 100000
set_option maxHeartbeats 4000000
/-! K06P2: the drawn worths -/
namespace K06
open PySem PySem.Spec PyProof.Rows L2 DL
def lots1 : List (List Int) := [[], [0]]
def lots2 : List (List Int) := [[], [0], [0, 1], [1]]
def lots3 : List (List Int) := [[], [0], [0, 1], [0, 1, 2], [0, 2], [1], [1, 2], [2]]
def lots4 : List (List Int) := [[], [0], [0, 1], [0, 1, 2], [0, 1, 2, 3], [0, 1, 3], [0, 2], [0, 2, 3], [0, 3], [1], [1, 2], [1, 2, 3], [1, 3], [2], [2, 3], [3]]
def lots5 : List (List Int) := [[], [0], [0, 1], [0, 1, 2], [0, 1, 2, 3], [0, 1, 2, 3, 4], [0, 1, 2, 4], [0, 1, 3], [0, 1, 3, 4], [0, 1, 4], [0, 2], [0, 2, 3], [0, 2, 3, 4], [0, 2, 4], [0, 3], [0, 3, 4], [0, 4], [1], [1, 2], [1, 2, 3], [1, 2, 3, 4], [1, 2, 4], [1, 3], [1, 3, 4], [1, 4], [2], [2, 3], [2, 3, 4], [2, 4], [3], [3, 4], [4]]
def lots : Nat → List (List Int)
  | 1 => lots1
  | 2 => lots2
  | 3 => lots3
  | 4 => lots4
  | 5 => lots5
  | _ => []
def WW (m : Nat) (w : List Int → Int) : D := .tup [.int m, .tup ((lots m).map fun l => .int (w l))]
theorem lawLots {m : Nat} (h : 1 ≤ m ∧ m ≤ 5) : m__law_lots [.int m] = M.ret (.lst ((lots m).map tuI)) := by
  obtain ⟨h1, h2⟩ := h
  match m, h1, h2 with
  | 1, _, _ => funext S; kernel_rfl
  | 2, _, _ => funext S; kernel_rfl
  | 3, _, _ => funext S; kernel_rfl
  | 4, _, _ => funext S; kernel_rfl
  | 5, _, _ => funext S; kernel_rfl
theorem Pot.mono {i j k : Nat} {S : Store} (h : Pot i k S) (hj : j ≤ k) : Pot i j S := by
  obtain ⟨a, b, c, h1, h2, h3, h4, h5, h6, h7⟩ := h
  exact ⟨a, b, c, h1, h2, h3, h4, h5, by omega, h7⟩
/-- a field: where it is seen, its worth -/
abbrev Fd := List Int × Int
def fdD (f : Fd) : D := .tup [.lst (f.1.map D.int), .int f.2]
def seen (fs : List Fd) (l : List Int) : Int := ((fs.filter fun f => f.1.any fun p => l.contains p).map (·.2)).sum
def wOf (fs : List Fd) (top each : Int) (l : List Int) : Int := seen fs l + (if each * l.length < top then each * l.length else top)
def FdOk (f : Fd) : Prop := 0 ≤ f.2 ∧ f.2 < 9
def dS (i m : Nat) (lap lot sn : Option Slot) (vals : Option Slot) (fs : Slot) (top each : Option Slot) : Δ := [some (.d (.ob i)), some (.d (.int m)), lap, vals, lot, some (.d (.lst ((lots m).map tuI))), some fs, top, each, sn, none, none, none]
/-- one draw as an argument -/
theorem takeE {i k : Nat} {n : Int} {S : Store} {δ : Δ} (hn : 0 < n) (hn2 : n ≤ 1000) (hd : gv 0 δ = M.ret (.ob i)) (P : Pot i (k + 1) S) : Okw (fCall m__law_take 2 (fCons (gv 0) (fCons (fun _ => M.ret (.int n)) fNil)) δ) S fun d S' => ∃ v : Int, d = .int v ∧ 0 ≤ v ∧ v < n ∧ Pot i k S' := by
  have e : fCall m__law_take 2 (fCons (gv 0) (fCons (fun _ => M.ret (.int n)) fNil)) δ = m__law_take [.ob i, .int n] := by
    unfold fCall fCons fNil
    simp only [hd, M.ret_bind]
    rfl
  rw [e]
  exact take hn hn2 P
theorem rangeD_map (n : Nat) : rangeD 0 n = ((List.range n).map fun j : Nat => (j : Int)).map D.int := by
  unfold rangeD
  rw [List.map_map]
  exact List.map_congr_left fun j _ => by simp

abbrev fl1 : Δ → M D := fLc (iRange1 (gv 1)) (ggName 10) (tV (f2 dEq (fCall m__law_take 2 (fCons (gv 0) (fCons (fun _ => M.ret (.int 2)) fNil))) (fun _ => M.ret (.int 0)))) (gv 10) [10]
abbrev fl2 : Δ → M D := f1 dInt (fCall m__law_take 2 (fCons (gv 0) (fCons (fun _ => M.ret (.int 9)) fNil)))
theorem range_m {m : Nat} (hm : m ≤ 5) {δ : Δ} (hd : gv 1 δ = M.ret (.int m)) : iRange1 (gv 1) δ = M.ret (((List.range m).map fun j : Nat => (j : Int)).map D.int) := by
  unfold iRange1
  rw [hd, M.ret_bind]
  show (if -16777216 ≤ (m : Int) ∧ (m : Int) ≤ 16777216 then M.ret (rangeD 0 (m : Int).toNat) else M.stuck) = _
  rw [if_pos (by omega), Int.toNat_natCast, rangeD_map]
/-- a field's posts -/
theorem posts1 {i m k : Nat} {S : Store} {lap : Option Slot} {fs : Slot} (hm : m ≤ 5) (P : Pot i (k + m) S) : Okw (fl1 (dS i m lap none none none fs none none)) S fun d S' => ∃ ps : List Int, d = .lst (ps.map D.int) ∧ Pot i k S' := by
  show Okw (M.bind (iRange1 (gv 1) _) _) S _
  rw [range_m hm rfl, M.ret_bind]
  refine .bind ((lcM_okw (k := 0) (fun j S => Pot i (k + j) S) (fun x y => y = .int x) (fun x _ j S hP => ⟨_, rfl, ?_⟩) (by simpa using P)).mono ?_)
  · refine .bind (.bind ((takeE (k := k + j) (by decide) (by decide) rfl hP).mono ?_))
    rintro d S1 ⟨v, rfl, v0, v1, P1⟩
    obtain ⟨b, hb⟩ : ∃ b, dEq (.int v) (.int 0) = M.ret (.bl b) := ⟨_, rfl⟩
    refine .of (a := .bl b) hb ?_
    refine .of (a := b) rfl ?_
    cases b with
    | true =>
      rw [if_pos rfl]
      exact .of (a := .int x) rfl ⟨rfl, P1⟩
    | false =>
      rw [if_neg (by decide)]
      exact P1
  · rintro ys S1 ⟨P1, zs, e, _, h⟩
    refine .ret ⟨zs.map Prod.fst, ?_, P1⟩
    rw [e, List.map_map]
    congr 1
    exact List.map_congr_left fun z hz => h z hz

def fdsD (fs : List Fd) : List D := fs.map fdD
/-- the fields -/
theorem fieldLoop {i m k n : Nat} {S : Store} (hm : m ≤ 5) (hn : n ≤ 5) (P : Pot i (k + (m + 1) * n) S) :
    Okw (loopM (ggName 2) (fApp 6 (fTup (fCons fl1 (fCons fl2 fNil)))) (((List.range n).map fun j : Nat => (j : Int)).map D.int) (dS i m none none none none (.own []) none none)) S fun o S' =>
      ∃ lap fs, o = .nx (dS i m lap none none none (.own (fdsD fs)) none none) ∧ (∀ f ∈ fs, FdOk f) ∧ fs.length ≤ 5 ∧ Pot i k S' := by
  refine (loopM_okw (k := 0) (fun j δ S => ∃ lap fs, δ = dS i m lap none none none (.own (fdsD fs)) none none ∧ (∀ f ∈ fs, FdOk f) ∧ fs.length + j ≤ 5 ∧ Pot i (k + (m + 1) * j) S) (fun x _ j δ S => ?_) ⟨none, [], rfl, fun f hf => absurd hf (by simp), by simpa using hn, by simpa using P⟩).mono ?_
  · rintro ⟨lap, fs, rfl, hf, hl, hP⟩
    refine ⟨dS i m (some (.d (.int x))) none none none (.own (fdsD fs)) none none, rfl, ?_⟩
    show Okw (M.bind (fTup _ _) _) S _
    have hP : Pot i (k + (m + 1) * j + 1 + m) S := by
      have e : (m + 1) * (j + 1) = (m + 1) * j + 1 + m := by rw [Nat.mul_add, Nat.mul_one]; omega
      rw [e] at hP
      exact hP.mono (by omega)
    refine .bind (.bind (.bind ((posts1 hm hP).mono ?_)))
    rintro d S1 ⟨ps, rfl, P1⟩
    refine .bind (.bind (.bind ((takeE (k := k + (m + 1) * j) (by decide) (by decide) rfl P1).mono ?_)))
    rintro d S2 ⟨v, rfl, v0, v1, P2⟩
    refine .of (a := .int v) rfl ?_
    refine .of (a := [.int v]) rfl ?_
    refine .of (a := [.lst (ps.map D.int), .int v]) rfl ?_
    refine .of (a := .tup [.lst (ps.map D.int), .int v]) rfl ?_
    have hz : (fdsD fs).length < sizeLine := by
      unfold fdsD
      rw [List.length_map]
      exact Nat.lt_of_le_of_lt (show fs.length ≤ 5 by omega) (by decide)
    refine .of (a := .nx (dS i m (some (.d (.int x))) none none none (.own (fdsD fs ++ [fdD (ps, v)])) none none)) (if_pos hz) ?_
    refine ⟨_, rfl, some (.d (.int x)), fs ++ [(ps, v)], ?_, ?_, ?_, P2⟩
    · unfold fdsD
      rw [List.map_append]
      rfl
    · intro f hf'
      rcases List.mem_append.mp hf' with h | h
      · exact hf f h
      · rw [List.mem_singleton] at h
        subst h
        exact ⟨v0, v1⟩
    · rw [List.length_append]
      simp only [List.length_singleton]
      omega
  · rintro o S1 ⟨δ', rfl, lap, fs, rfl, hf, hl, hP⟩
    exact ⟨lap, fs, rfl, hf, by omega, by simpa using hP⟩

abbrev vl1 : Δ → M D := f1 dSum (fLc (iSeq (gv 6)) (ggTup 2 (ggCons (ggName 11) (ggCons (ggName 12) ggNil))) (tV (f1 dAny (fLc (iSeq (gv 11)) (ggName 10) tYesM (f2 dIn (gv 10) (gv 4)) [10]))) (gv 12) [11, 12])
theorem seen_eq {i m : Nat} {lap vals top each sn : Option Slot} {l : List Int} {fs : List Fd} : vl1 (dS i m lap (some (.d (tuI l))) sn vals (.d (.lst (fdsD fs))) top each) = M.ret (.int (seen fs l)) := by
  have inner : ∀ f : Fd, f1 dAny (fLc (iSeq (gv 11)) (ggName 10) tYesM (f2 dIn (gv 10) (gv 4)) [10]) [some (.d (.ob i)), some (.d (.int m)), lap, vals, some (.d (tuI l)), some (.d (.lst ((lots m).map tuI))), some (.d (.lst (fdsD fs))), top, each, sn, none, some (.d (.lst (f.1.map D.int))), some (.d (.int f.2))] = M.ret (.bl (f.1.any fun p => l.contains p)) := by
    intro f
    show M.bind (M.bind (M.ret (f.1.map D.int)) _) dAny = _
    rw [M.ret_bind, lcM_map (emb := D.int) (p := fun _ => true) (f := fun p => .bl (l.contains p)) (fun x _ => ⟨_, rfl, rfl, fun _ => dIn_int x l⟩), M.ret_bind, M.ret_bind, show (f.1.filter fun _ => true) = f.1 from List.filter_eq_self.mpr fun _ _ => rfl, show (fun p : Int => D.bl (l.contains p)) = D.bl ∘ (fun p => l.contains p) from rfl, ← List.map_map, dAny_bls, List.any_map]
    rfl
  show M.bind (M.bind (M.ret (fdsD fs)) _) dSum = _
  unfold fdsD
  rw [M.ret_bind, lcM_map (emb := fdD) (p := fun f : Fd => f.1.any fun p => l.contains p) (f := fun f => .int f.2) (fun f _ => ⟨_, rfl, ?_, fun _ => rfl⟩), M.ret_bind, M.ret_bind]
  · rw [show (fun f : Fd => D.int f.2) = D.int ∘ (fun f => f.2) from rfl, ← List.map_map, dSum_ints]
    rfl
  · show M.bind (f1 dAny _ _) D.isBl = _
    exact (congrArg (fun m => M.bind m D.isBl) (inner f)).trans rfl

abbrev vBody : Δ → M Fl := fFz 6 (fSeq (fSet 9 vl1) (fApp 3 (f1 dInt (f2 dAdd (gv 9) (f2 dMin (gv 7) (f2 dMul (gv 8) (f1 dLen (gv 4))))))))
theorem lots_len : ∀ m : Nat, (lots m).length ≤ 32
  | 0 => by decide
  | 1 => by decide
  | 2 => by decide
  | 3 => by decide
  | 4 => by decide
  | 5 => by decide
  | _ + 6 => Nat.zero_le _
theorem lots_small : ∀ m : Nat, ∀ l ∈ lots m, l.length ≤ 5
  | 0 => by decide
  | 1 => by decide
  | 2 => by decide
  | 3 => by decide
  | 4 => by decide
  | 5 => by decide
  | _ + 6 => fun l h => absurd h (by simp [lots])
/-- the worths of the lots -/
theorem valueLoop {i m : Nat} {lap : Option Slot} {fs : List Fd} {top each : Int} (e0 : 0 ≤ each) (e1 : each < 4) :
    ∃ δ', loopM (ggName 4) vBody ((lots m).map tuI) (dS i m lap none none (some (.own [])) (.own (fdsD fs)) (some (.d (.int top))) (some (.d (.int each)))) = M.ret (.nx δ') ∧
      ∃ lot sn f6, δ' = dS i m lap lot sn (some (.own ((lots m).map fun l => .int (wOf fs top each l)))) f6 (some (.d (.int top))) (some (.d (.int each))) := by
  obtain ⟨δ', e, r⟩ := loopM_pre (emb := tuI) (gg := ggName 4) (F := vBody) (fun pre δ => ∃ lot sn f6, (f6 = .own (fdsD fs) ∨ f6 = .d (.lst (fdsD fs))) ∧ δ = dS i m lap lot sn (some (.own (pre.map fun l => .int (wOf fs top each l)))) f6 (some (.d (.int top))) (some (.d (.int each)))) (lots m) [] (δ := dS i m lap none none (some (.own [])) (.own (fdsD fs)) (some (.d (.int top))) (some (.d (.int each))))
    (fun p x q δ ex => by
      rintro ⟨lot, sn, f6, hf, rfl⟩
      have hx : x ∈ lots m := by
        rw [List.nil_append] at ex
        rw [ex]
        simp
      have hp : p.length < 32 := by
        have h := lots_len m
        rw [List.nil_append] at ex
        rw [ex, List.length_append, List.length_cons] at h
        omega
      have hl := lots_small m x hx
      refine ⟨dS i m lap (some (.d (tuI x))) sn (some (.own (p.map fun l => .int (wOf fs top each l)))) f6 (some (.d (.int top))) (some (.d (.int each))), dS i m lap (some (.d (tuI x))) (some (.d (.int (seen fs x)))) (some (.own (p.map (fun l => .int (wOf fs top each l)) ++ [.int (wOf fs top each x)]))) (.d (.lst (fdsD fs))) (some (.d (.int top))) (some (.d (.int each))), rfl, ?_, some (.d (tuI x)), some (.d (.int (seen fs x))), .d (.lst (fdsD fs)), .inr rfl, by rw [List.map_append]; rfl⟩
      have e6 : vBody (dS i m lap (some (.d (tuI x))) sn (some (.own (p.map fun l => .int (wOf fs top each l)))) f6 (some (.d (.int top))) (some (.d (.int each)))) = fSeq (fSet 9 vl1) (fApp 3 (f1 dInt (f2 dAdd (gv 9) (f2 dMin (gv 7) (f2 dMul (gv 8) (f1 dLen (gv 4))))))) (dS i m lap (some (.d (tuI x))) sn (some (.own (p.map fun l => .int (wOf fs top each l)))) (.d (.lst (fdsD fs))) (some (.d (.int top))) (some (.d (.int each)))) := by
        rcases hf with rfl | rfl <;> rfl
      rw [e6, fSeq, fSet, seen_eq, M.ret_bind, M.ret_bind]
      have k1 : dMul (.int each) (.int ((x.map D.int).length : Nat)) = M.ret (.int (each * x.length)) := by
        rw [List.length_map]
        exact if_pos (decide_eq_true (Nat.lt_of_lt_of_le (Nat.add_lt_add (lg (B := 4) e0 (by omega) (k := 20) (by decide)) (lg (B := 5) (x := (x.length : Int)) (by omega) (by omega) (k := 20) (by decide))) (by decide)))
      show M.bind (M.bind (M.bind (M.bind (M.ret (D.int top)) fun a => M.bind (M.bind (M.ret (D.int each)) fun c => M.bind (M.ret (.int ((x.map D.int).length : Nat))) fun d => dMul c d) fun b => dMin a b) fun b => dAdd (.int (seen fs x)) b) dInt) _ = _
      simp only [M.ret_bind, k1]
      exact if_pos (by rw [List.length_map]; exact Nat.lt_of_lt_of_le hp (by decide)))
    ⟨none, none, _, .inl rfl, rfl⟩
  obtain ⟨lot, sn, f6, _, rfl⟩ := r
  exact ⟨_, e, lot, sn, f6, rfl⟩

structure Drawn (fs : List Fd) (top each : Int) : Prop where
  f : ∀ f ∈ fs, FdOk f
  l : fs.length ≤ 5
  t0 : 0 ≤ top
  t1 : top < 7
  e0 : 0 ≤ each
  e1 : each < 4
theorem worths {i m k : Nat} {S : Store} (h1 : 1 ≤ m) (hm : m ≤ 5) (P : Pot i (k + 36) S) : Okw (m__law_worths [.ob i, .int m]) S fun d S' => ∃ fs top each, Drawn fs top each ∧ d = WW m (wOf fs top each) ∧ Pot i k S' := by
  refine Okw.fn rfl ?_
  refine .seq (.of (a := .nx (dS i m none none none none (.own []) none none)) ?_ ⟨_, rfl, ?_⟩)
  · show M.bind (M.bind (M.bind (M.ret (D.int m)) fun x => M.bind (M.ret []) fun xs => M.ret (x :: xs)) fun ds => if ds.length = 1 then m__law_lots ds else M.stuck) _ = _
    simp only [M.ret_bind]
    show M.bind (m__law_lots [.int m]) _ = _
    rw [lawLots ⟨h1, hm⟩]
    rfl
  refine .seq ?_
  refine .bind (.bind ((takeE (k := k + 35) (by decide) (by decide) rfl (P.mono (by omega))).mono ?_))
  rintro d S1 ⟨v, rfl, v0, v1, P1⟩
  obtain ⟨n, rfl⟩ := Int.eq_ofNat_of_zero_le v0
  have hn : n ≤ 5 := by omega
  refine .of (a := ((List.range n).map fun j : Nat => (j : Int)).map D.int) ?_ ?_
  · show (if -16777216 ≤ (n : Int) ∧ (n : Int) ≤ 16777216 then M.ret (rangeD 0 (n : Int).toNat) else M.stuck) = _
    rw [if_pos (by omega), Int.toNat_natCast, rangeD_map]
  have hk : (m + 1) * n ≤ 6 * 5 := Nat.mul_le_mul (by omega) hn
  refine (fieldLoop (k := k + 2) hm hn (P1.mono (by omega))).mono ?_
  rintro o S2 ⟨lap, fs, rfl, hf, hl, P2⟩
  refine ⟨_, rfl, .seq ?_⟩
  refine .bind (.bind ((takeE (k := k + 1) (by decide) (by decide) rfl P2).mono ?_))
  rintro d S3 ⟨top, rfl, t0, t1, P3⟩
  refine .of (a := .int top) rfl ?_
  refine .bind (.bind ((takeE (k := k) (by decide) (by decide) rfl P3).mono ?_))
  rintro d S4 ⟨each, rfl, e0, e1, P4⟩
  refine .of (a := .int each) rfl ?_
  refine .of (a := .nx (dS i m lap none none none (.own (fdsD fs)) (some (.d (.int top))) (some (.d (.int each))))) rfl ?_
  refine ⟨_, rfl, .seq (.of (a := .nx (dS i m lap none none (some (.own [])) (.own (fdsD fs)) (some (.d (.int top))) (some (.d (.int each))))) rfl ⟨_, rfl, ?_⟩)⟩
  obtain ⟨δ', e, lot, sn, f6, rfl⟩ := valueLoop (i := i) (m := m) (lap := lap) (fs := fs) (top := top) e0 e1
  refine .seq (.of (a := .nx _) e ⟨_, rfl, ?_⟩)
  refine .of (a := .rt (WW m (wOf fs top each))) ?_ ⟨_, rfl, fs, top, each, ⟨hf, hl, t0, t1, e0, e1⟩, rfl, P4⟩
  rfl
end K06

set_option Elab.async false
set_option linter.all false
set_option maxRecDepth 100000
set_option maxHeartbeats 4000000
/-! K06P3: what depends on how many posts and nights there are -/
namespace K06
open PySem PySem.Spec PyProof.Rows L2 DL
def rowsOf (n : Nat) : Nat → List (List Int)
  | 0 => [[]]
  | m + 1 => (rowsOf n m).flatMap fun r => (List.range n).map fun j : Nat => r ++ [(j : Int)]
theorem five {m : Nat} (h : 1 ≤ m ∧ m ≤ 5) : m = 1 ∨ m = 2 ∨ m = 3 ∨ m = 4 ∨ m = 5 := by omega
theorem six {m : Nat} (h : m ≤ 5) : m = 0 ∨ m = 1 ∨ m = 2 ∨ m = 3 ∨ m = 4 ∨ m = 5 := by omega
theorem three {m : Nat} (h : 1 ≤ m ∧ m ≤ 3) : m = 1 ∨ m = 2 ∨ m = 3 := by omega
theorem plansL {m n : Nat} (hm : 1 ≤ m ∧ m ≤ 5) (hn : 1 ≤ n ∧ n ≤ 3) : m__law_plans [.int m, .int n] = M.ret (.lst ((rowsOf n m).map tuI)) := by
  rcases five hm with rfl | rfl | rfl | rfl | rfl <;> rcases three hn with rfl | rfl | rfl <;> (funext S; kernel_rfl)
def tabD (m : Nat) (w : List Int → Int) : D := .dct ((lots m).map fun l => (tuI l, .int (w l)))
theorem tableP {m : Nat} (hm : 1 ≤ m ∧ m ≤ 5) (w : List Int → Int) : m_table_of [WW m w] = M.ret (tabD m w) := by
  rcases five hm with rfl | rfl | rfl | rfl | rfl <;> (funext S; kernel_rfl)
theorem tableL {m : Nat} (hm : 1 ≤ m ∧ m ≤ 5) (w : List Int → Int) : m__law_table [WW m w] = M.ret (tabD m w) := by
  rcases five hm with rfl | rfl | rfl | rfl | rfl <;> (funext S; kernel_rfl)
/-- the lots of a plan, night by night -/
def lotsBy (n : Nat) (p : List Int) : List (List Int) := (List.range n).map fun j : Nat => ((List.range p.length).map fun i : Nat => (i : Int)).filter fun i => p.getD i.toNat 0 == (j : Int)
theorem mem_eq {α β : Type} {f g : α → β} {xs : List α} (h : xs.map f = xs.map g) {x : α} (hx : x ∈ xs) : f x = g x := List.map_inj_left.mp h x hx
theorem lotsByP {m n : Nat} (hm : 1 ≤ m ∧ m ≤ 5) (hn : 1 ≤ n ∧ n ≤ 3) {p : List Int} (hp : p ∈ rowsOf n m) : m_lots_by [.int n, tuI p] = M.ret (.lst ((lotsBy n p).map tuI)) := by
  refine mem_eq (f := fun p => m_lots_by [.int n, tuI p]) (g := fun p => M.ret (.lst ((lotsBy n p).map tuI))) (xs := rowsOf n m) ?_ hp
  rcases five hm with rfl | rfl | rfl | rfl | rfl <;> rcases three hn with rfl | rfl | rfl <;> kernel_rfl
/-- of a plan that is being made -/
theorem lotsByL {m n : Nat} (hm : m ≤ 5) (hn : 1 ≤ n ∧ n ≤ 3) {p : List Int} (hp : p ∈ rowsOf n m) : m_lots_by [.int n, .lst (p.map D.int)] = M.ret (.lst ((lotsBy n p).map tuI)) := by
  refine mem_eq (f := fun p => m_lots_by [.int n, .lst (p.map D.int)]) (g := fun p => M.ret (.lst ((lotsBy n p).map tuI))) (xs := rowsOf n m) ?_ hp
  rcases six hm with rfl | rfl | rfl | rfl | rfl | rfl <;> rcases three hn with rfl | rfl | rfl <;> kernel_rfl
theorem lawNights {m n : Nat} (hm : m ≤ 5) (hn : 1 ≤ n ∧ n ≤ 3) {p : List Int} (hp : p ∈ rowsOf n m) : m__law_nights [tuI p, .int n] = M.ret (.lst ((lotsBy n p).map tuI)) := by
  refine mem_eq (f := fun p => m__law_nights [tuI p, .int n]) (g := fun p => M.ret (.lst ((lotsBy n p).map tuI))) (xs := rowsOf n m) ?_ hp
  rcases six hm with rfl | rfl | rfl | rfl | rfl | rfl <;> rcases three hn with rfl | rfl | rfl <;> kernel_rfl
theorem lotsBy_mem {m n : Nat} (hm : 1 ≤ m ∧ m ≤ 5) (hn : 1 ≤ n ∧ n ≤ 3) : ∀ p ∈ rowsOf n m, ∀ l ∈ lotsBy n p, l ∈ lots m := by
  rcases five hm with rfl | rfl | rfl | rfl | rfl <;> rcases three hn with rfl | rfl | rfl <;> decide +kernel
theorem tabIx {m : Nat} (hm : 1 ≤ m ∧ m ≤ 5) {w : List Int → Int} {l : List Int} (hl : l ∈ lots m) : dIx (tabD m w) (tuI l) = M.ret (.int (w l)) := by
  refine mem_eq (f := fun l => dIx (tabD m w) (tuI l)) (g := fun l => M.ret (.int (w l))) (xs := lots m) ?_ hl
  rcases five hm with rfl | rfl | rfl | rfl | rfl <;> kernel_rfl
end K06

set_option Elab.async false
set_option linter.all false
set_option maxRecDepth 100000
set_option maxHeartbeats 4000000
/-! K06P4: drawn worths add less, and grow -/
namespace K06
open PySem PySem.Spec PyProof.Rows L2 DL
/-- with a post more -/
def wp (l : List Int) (p : Int) : List Int := ins (fun a b => decide (a ≤ b)) p l
theorem mem_wp {l : List Int} {p x : Int} : x ∈ wp l p ↔ x = p ∨ x ∈ l := by
  unfold wp
  rw [(ins_perm _ p l).mem_iff, List.mem_cons]
theorem len_wp {l : List Int} {p : Int} : (wp l p).length = l.length + 1 := by
  unfold wp
  rw [(ins_perm _ p l).length_eq, List.length_cons]
def hit (f : Fd) (l : List Int) : Bool := f.1.any fun p => l.contains p
theorem seen_nil (l : List Int) : seen [] l = 0 := rfl
theorem seen_cons (f : Fd) (fs : List Fd) (l : List Int) : seen (f :: fs) l = (if hit f l = true then f.2 else 0) + seen fs l := by
  show (((f :: fs).filter fun f => hit f l).map (·.2)).sum = _ + ((fs.filter fun f => hit f l).map (·.2)).sum
  rw [List.filter_cons]
  by_cases h : hit f l = true
  · rw [if_pos h, if_pos h, List.map_cons, List.sum_cons]
  · rw [if_neg h, if_neg h, Int.zero_add]
theorem hit_iff {f : Fd} {l : List Int} : hit f l = true ↔ ∃ p, p ∈ f.1 ∧ p ∈ l := by
  unfold hit
  rw [List.any_eq_true]
  constructor
  · rintro ⟨p, h1, h2⟩
    exact ⟨p, h1, by simpa using h2⟩
  · rintro ⟨p, h1, h2⟩
    exact ⟨p, h1, by simpa using h2⟩
/-- each field adds less -/
theorem hit_less {f : Fd} {l : List Int} {p q : Int} (h0 : 0 ≤ f.2) : (if hit f (wp (wp l p) q) = true then f.2 else 0) + (if hit f l = true then f.2 else 0) ≤ (if hit f (wp l p) = true then f.2 else 0) + (if hit f (wp l q) = true then f.2 else 0) := by
  have m1 : hit f l = true → hit f (wp l p) = true := fun h => by
    obtain ⟨x, a, b⟩ := hit_iff.mp h
    exact hit_iff.mpr ⟨x, a, mem_wp.mpr (.inr b)⟩
  have m2 : hit f l = true → hit f (wp l q) = true := fun h => by
    obtain ⟨x, a, b⟩ := hit_iff.mp h
    exact hit_iff.mpr ⟨x, a, mem_wp.mpr (.inr b)⟩
  have m3 : hit f (wp (wp l p) q) = true → hit f (wp l p) = true ∨ hit f (wp l q) = true := fun h => by
    obtain ⟨x, a, b⟩ := hit_iff.mp h
    rcases mem_wp.mp b with rfl | b
    · exact .inr (hit_iff.mpr ⟨x, a, mem_wp.mpr (.inl rfl)⟩)
    · exact .inl (hit_iff.mpr ⟨x, a, b⟩)
  generalize hit f (wp (wp l p) q) = a at *
  generalize hit f l = b at *
  generalize hit f (wp l p) = c at *
  generalize hit f (wp l q) = d at *
  cases a <;> cases b <;> cases c <;> cases d <;> simp at * <;> omega
theorem seen_less : ∀ (fs : List Fd) (l : List Int) (p q : Int), (∀ f ∈ fs, FdOk f) → seen fs (wp (wp l p) q) + seen fs l ≤ seen fs (wp l p) + seen fs (wp l q)
  | [], l, p, q, _ => by simp [seen_nil]
  | f :: fs, l, p, q, h => by
    have ih := seen_less fs l p q fun g hg => h g (List.mem_cons_of_mem _ hg)
    have hf := hit_less (f := f) (l := l) (p := p) (q := q) (h f (List.mem_cons_self)).1
    rw [seen_cons, seen_cons, seen_cons, seen_cons]
    omega

theorem seen_grow : ∀ (fs : List Fd) (l l' : List Int), (∀ f ∈ fs, FdOk f) → (∀ x ∈ l, x ∈ l') → seen fs l ≤ seen fs l'
  | [], l, l', _, _ => Int.le_refl _
  | f :: fs, l, l', h, hs => by
    have ih := seen_grow fs l l' (fun g hg => h g (List.mem_cons_of_mem _ hg)) hs
    have h0 := (h f (List.mem_cons_self)).1
    have m1 : hit f l = true → hit f l' = true := fun h => by
      obtain ⟨x, a, b⟩ := hit_iff.mp h
      exact hit_iff.mpr ⟨x, a, hs x b⟩
    rw [seen_cons, seen_cons]
    generalize hit f l = a at *
    generalize hit f l' = b at *
    cases a <;> cases b <;> simp at * <;> omega
theorem seen_empty : ∀ fs : List Fd, seen fs [] = 0
  | [] => rfl
  | f :: fs => by
    rw [seen_cons, seen_empty fs, if_neg (fun h => by obtain ⟨x, _, b⟩ := hit_iff.mp h; exact absurd b (by simp))]
    rfl
theorem seen_le : ∀ (fs : List Fd) (l : List Int), (∀ f ∈ fs, FdOk f) → 0 ≤ seen fs l ∧ seen fs l ≤ 8 * fs.length
  | [], l, _ => ⟨Int.le_refl _, Int.le_refl _⟩
  | f :: fs, l, h => by
    have ih := seen_le fs l fun g hg => h g (List.mem_cons_of_mem _ hg)
    have hf := h f (List.mem_cons_self)
    unfold FdOk at hf
    rw [seen_cons, List.length_cons]
    split <;> constructor <;> omega
theorem w_less {fs : List Fd} {top each : Int} (d : Drawn fs top each) (l : List Int) (p q : Int) : wOf fs top each (wp (wp l p) q) + wOf fs top each l ≤ wOf fs top each (wp l p) + wOf fs top each (wp l q) := by
  have h := seen_less fs l p q d.f
  have e0 := d.e0
  unfold wOf
  rw [len_wp, len_wp, len_wp]
  have e1 : each * ((l.length + 1 : Nat) : Int) = each * l.length + each := by rw [Int.natCast_add, Int.mul_add]; simp
  have e2 : each * ((l.length + 1 + 1 : Nat) : Int) = each * l.length + each + each := by rw [Int.natCast_add, Int.mul_add, e1]; simp
  rw [e1, e2]
  generalize each * (l.length : Int) = x
  split <;> split <;> split <;> omega
theorem w_grow {fs : List Fd} {top each : Int} (d : Drawn fs top each) {l l' : List Int} (hs : ∀ x ∈ l, x ∈ l') (hl : l.length ≤ l'.length) : wOf fs top each l ≤ wOf fs top each l' := by
  have h := seen_grow fs l l' d.f hs
  have e : each * (l.length : Int) ≤ each * (l'.length : Int) := Int.mul_le_mul_of_nonneg_left (by omega) d.e0
  unfold wOf
  split <;> split <;> omega
theorem w_nil {fs : List Fd} {top each : Int} (d : Drawn fs top each) : wOf fs top each [] = 0 := by
  have t0 := d.t0
  unfold wOf
  rw [seen_empty]
  simp
  omega
theorem w_le {fs : List Fd} {top each : Int} (d : Drawn fs top each) (l : List Int) : 0 ≤ wOf fs top each l ∧ wOf fs top each l ≤ 46 := by
  have h := seen_le fs l d.f
  have h2 := d.l
  have h3 := d.t0
  have h4 := d.t1
  have h5 : 0 ≤ each * (l.length : Int) := Int.mul_nonneg d.e0 (by omega)
  unfold wOf
  split <;> constructor <;> omega
end K06

set_option Elab.async false
set_option linter.all false
set_option maxRecDepth 100000
set_option maxHeartbeats 4000000
/-! K06P5: the checks -/
namespace K06
open PySem PySem.Spec PyProof.Rows L2 DL
def posts (m : Nat) : List Int := (List.range m).map fun j : Nat => (j : Int)
def restOf (m : Nat) (l : List Int) : List Int := (posts m).filter fun p => !l.contains p
def pairsOf : List Int → List (Int × Int)
  | [] => []
  | p :: r => r.map (fun q => (p, q)) ++ pairsOf r
def trips (m : Nat) : List (List Int × Int × Int) := (lots m).flatMap fun l => (pairsOf (restOf m l)).map fun q => (l, q.1, q.2)
def steps (m : Nat) : List (List Int × Int) := (lots m).flatMap fun l => (restOf m l).map fun p => (l, p)
theorem isLess {m : Nat} (hm : 1 ≤ m ∧ m ≤ 5) (w : List Int → Int) : m_is_less [WW m w] = M.ret (.bl (((trips m).map fun t => decide (w (wp (wp t.1 t.2.1) t.2.2) + w t.1 - w (wp t.1 t.2.1) - w (wp t.1 t.2.2) ≤ 0)).all id)) := by
  rcases five hm with rfl | rfl | rfl | rfl | rfl <;> (funext S; kernel_rfl)
theorem doesGrow {m : Nat} (hm : 1 ≤ m ∧ m ≤ 5) (w : List Int → Int) : m_does_grow [WW m w] = M.ret (.bl (((steps m).map fun t => decide (0 ≤ w (wp t.1 t.2) - w t.1)).all id)) := by
  rcases five hm with rfl | rfl | rfl | rfl | rfl <;> (funext S; kernel_rfl)
theorem all_of {α : Type} {xs : List α} {f : α → Bool} (h : ∀ x ∈ xs, f x = true) : (xs.map f).all id = true := by
  rw [List.all_map, List.all_eq_true]
  exact h
/-- the lot of a predicate -/
def lotP (m : Nat) (P : Int → Bool) : List Int := (posts m).filter P
theorem len_or_and (P Q : Int → Bool) : ∀ is : List Int, (is.filter fun i => P i || Q i).length + (is.filter fun i => P i && Q i).length = (is.filter P).length + (is.filter Q).length
  | [] => rfl
  | i :: is => by
    have ih := len_or_and P Q is
    rw [List.filter_cons, List.filter_cons, List.filter_cons, List.filter_cons]
    cases P i <;> cases Q i <;> simp <;> omega
theorem len_mono {P Q : Int → Bool} : ∀ {is : List Int}, (∀ i ∈ is, P i = true → Q i = true) → (is.filter P).length ≤ (is.filter Q).length
  | [], _ => Nat.le_refl _
  | i :: is, h => by
    have ih := len_mono (is := is) fun j hj => h j (List.mem_cons_of_mem _ hj)
    have := h i List.mem_cons_self
    rw [List.filter_cons, List.filter_cons]
    cases hp : P i <;> cases hq : Q i <;> simp_all <;> omega
theorem hit_sub {f : Fd} {a b c d : List Int} (h0 : 0 ≤ f.2) (m1 : ∀ x ∈ b, x ∈ c) (m2 : ∀ x ∈ b, x ∈ d) (m3 : ∀ x ∈ a, x ∈ c ∨ x ∈ d) : (if hit f a = true then f.2 else 0) + (if hit f b = true then f.2 else 0) ≤ (if hit f c = true then f.2 else 0) + (if hit f d = true then f.2 else 0) := by
  have k1 : hit f b = true → hit f c = true := fun h => by
    obtain ⟨x, y, z⟩ := hit_iff.mp h
    exact hit_iff.mpr ⟨x, y, m1 x z⟩
  have k2 : hit f b = true → hit f d = true := fun h => by
    obtain ⟨x, y, z⟩ := hit_iff.mp h
    exact hit_iff.mpr ⟨x, y, m2 x z⟩
  have k3 : hit f a = true → hit f c = true ∨ hit f d = true := fun h => by
    obtain ⟨x, y, z⟩ := hit_iff.mp h
    exact (m3 x z).imp (fun z => hit_iff.mpr ⟨x, y, z⟩) fun z => hit_iff.mpr ⟨x, y, z⟩
  generalize hit f a = a at *
  generalize hit f b = b at *
  generalize hit f c = c at *
  generalize hit f d = d at *
  cases a <;> cases b <;> cases c <;> cases d <;> simp at * <;> omega
theorem seen_sub {a b c d : List Int} (m1 : ∀ x ∈ b, x ∈ c) (m2 : ∀ x ∈ b, x ∈ d) (m3 : ∀ x ∈ a, x ∈ c ∨ x ∈ d) : ∀ fs : List Fd, (∀ f ∈ fs, FdOk f) → seen fs a + seen fs b ≤ seen fs c + seen fs d
  | [], _ => by simp [seen_nil]
  | f :: fs, h => by
    have ih := seen_sub m1 m2 m3 fs fun g hg => h g (List.mem_cons_of_mem _ hg)
    have hf := hit_sub (f := f) (h f List.mem_cons_self).1 m1 m2 m3
    rw [seen_cons, seen_cons, seen_cons, seen_cons]
    omega
theorem w_sub {fs : List Fd} {top each : Int} (dr : Drawn fs top each) {a b c d : List Int} (m1 : ∀ x ∈ b, x ∈ c) (m2 : ∀ x ∈ b, x ∈ d) (m3 : ∀ x ∈ a, x ∈ c ∨ x ∈ d) (hl : a.length + b.length = c.length + d.length) (hc : b.length ≤ c.length) (hd : b.length ≤ d.length) :
    wOf fs top each a + wOf fs top each b ≤ wOf fs top each c + wOf fs top each d := by
  have h := seen_sub m1 m2 m3 fs dr.f
  unfold wOf
  have e : each * (a.length : Int) + each * (b.length : Int) = each * (c.length : Int) + each * (d.length : Int) := by
    rw [← Int.mul_add, ← Int.mul_add]
    congr 1
    omega
  have e1 : each * (b.length : Int) ≤ each * (c.length : Int) := Int.mul_le_mul_of_nonneg_left (by omega) dr.e0
  have e2 : each * (b.length : Int) ≤ each * (d.length : Int) := Int.mul_le_mul_of_nonneg_left (by omega) dr.e0
  generalize each * (a.length : Int) = x at *
  generalize each * (b.length : Int) = y at *
  generalize each * (c.length : Int) = z at *
  generalize each * (d.length : Int) = u at *
  split <;> split <;> split <;> split <;> omega
/-- what the laws lean on -/
structure Fine (w : List Int → Int) : Prop where
  nil : w [] = 0
  lo : ∀ l, 0 ≤ w l
  hi : ∀ l, w l ≤ 46
  less : ∀ l p q, w (wp (wp l p) q) + w l ≤ w (wp l p) + w (wp l q)
  grow : ∀ l l', (∀ x ∈ l, x ∈ l') → l.length ≤ l'.length → w l ≤ w l'
  sub : ∀ m, SubF (posts m) fun P => w (lotP m P)
theorem fine {fs : List Fd} {top each : Int} (d : Drawn fs top each) : Fine (wOf fs top each) := ⟨w_nil d, fun l => (w_le d l).1, fun l => (w_le d l).2, w_less d, fun l l' => w_grow d, fun m => ⟨by
  show wOf fs top each (lotP m fun _ => false) = 0
  have : lotP m (fun _ => false) = [] := by
    unfold lotP
    simp
  rw [this]
  exact w_nil d, fun P Q h => w_grow d (fun x hx => by
    unfold lotP at hx ⊢
    obtain ⟨a, b⟩ := List.mem_filter.mp hx
    exact List.mem_filter.mpr ⟨a, h x a b⟩) (len_mono h), fun P Q => by
  refine w_sub d (fun x hx => ?_) (fun x hx => ?_) (fun x hx => ?_) (len_or_and P Q _) (len_mono fun i _ h => ?_) (len_mono fun i _ h => ?_)
  · obtain ⟨a, b⟩ := List.mem_filter.mp hx
    rw [Bool.and_eq_true] at b
    exact List.mem_filter.mpr ⟨a, b.1⟩
  · obtain ⟨a, b⟩ := List.mem_filter.mp hx
    rw [Bool.and_eq_true] at b
    exact List.mem_filter.mpr ⟨a, b.2⟩
  · obtain ⟨a, b⟩ := List.mem_filter.mp hx
    rw [Bool.or_eq_true] at b
    exact b.imp (fun b => List.mem_filter.mpr ⟨a, b⟩) fun b => List.mem_filter.mpr ⟨a, b⟩
  · rw [Bool.and_eq_true] at h
    exact h.1
  · rw [Bool.and_eq_true] at h
    exact h.2⟩⟩
theorem isLessT {m : Nat} (hm : 1 ≤ m ∧ m ≤ 5) {w : List Int → Int} (h : Fine w) : m_is_less [WW m w] = M.ret (.bl true) := by
  rw [isLess hm, all_of fun t _ => decide_eq_true (by have := h.less t.1 t.2.1 t.2.2; omega)]
theorem growT {m : Nat} (hm : 1 ≤ m ∧ m ≤ 5) {w : List Int → Int} (h : Fine w) : m_does_grow [WW m w] = M.ret (.bl true) := by
  rw [doesGrow hm, all_of fun t _ => decide_eq_true (by have := h.grow t.1 (wp t.1 t.2) (fun x hx => mem_wp.mpr (.inr hx)) (by rw [len_wp]; omega); omega)]
end K06

set_option Elab.async false
set_option linter.all false
set_option maxRecDepth 100000
set_option maxHeartbeats 4000000
/-! K06P6: between, worths, plans as they are checked -/
namespace K06
open PySem PySem.Spec PyProof.Rows L2 DL
theorem isInt (x : Int) : m_is_integer [.int x] = M.ret (D.bl true) := by funext S; kernel_rfl
theorem isBetween (x lo hi : Int) : m_is_between [.int x, .int lo, .int hi] = M.ret (D.bl (decide (lo ≤ x) && decide (x ≤ hi))) := by
  show M.quiet (M.bind (M.bind (M.bind (m_is_integer [.int x]) fun a : D => M.bind a.isBl fun b => if b = true then M.bind (M.ret (D.bl (decide (lo ≤ x)))) (fun z : D => M.bind z.isBl fun c => if c = true then M.ret (D.bl (decide (x ≤ hi))) else M.ret (D.bl false)) else M.ret (D.bl false)) fun d => M.ret (Fl.rt d)) endM) = _
  rw [isInt]
  cases decide (lo ≤ x) <;> rfl
theorem areBetween (xs : List Int) (lo hi : Int) : m_are_between [tuI xs, .int lo, .int hi] = M.ret (D.bl ((xs.map fun x => decide (lo ≤ x) && decide (x ≤ hi)).all id)) := by
  show M.quiet (M.bind (M.bind (M.bind (M.ret (D.bl true)) fun a : D => M.bind a.isBl fun b => if b = true then M.bind (M.bind (M.ret (xs.map D.int)) fun ds => M.bind (lcM (ggName 3) tYesM _ (wipeD [some (.d (tuI xs)), some (.d (.int lo)), some (.d (.int hi)), none] [3]) ds) fun ys => M.ret (D.lst ys)) dAll else M.ret (D.bl false)) fun d => M.ret (Fl.rt d)) endM) = _
  simp only [M.ret_bind]
  rw [show D.isBl (D.bl true) = M.ret true from rfl, M.ret_bind, if_pos rfl, lcM_map (emb := D.int) (p := fun _ => true) (f := fun x => D.bl (decide (lo ≤ x) && decide (x ≤ hi))) (fun x _ => ⟨_, rfl, rfl, fun _ => isBetween x lo hi⟩), M.ret_bind, show (xs.filter fun _ => true) = xs from List.filter_eq_self.mpr fun _ _ => rfl]
  rw [show (xs.map fun x => D.bl (decide (lo ≤ x) && decide (x ≤ hi))) = (xs.map fun x => decide (lo ≤ x) && decide (x ≤ hi)).map D.bl by rw [List.map_map]; rfl, M.ret_bind, dAll_bls]
  rfl

/-- not so: a test of a call that gives True -/
theorem nt_call {f : Δ → M D} {δ : Δ} (h : f δ = M.ret (.bl true)) : tNt (tV f) δ = M.ret false := by
  rw [tNt, tV, h]
  rfl
theorem WW_tu (m : Nat) (w : List Int → Int) : WW m w = .tup [.int m, tuI ((lots m).map w)] := by
  unfold WW tuI
  rw [List.map_map]
  rfl
theorem areWorths {m : Nat} (hm : 1 ≤ m ∧ m ≤ 5) {w : List Int → Int} (h : Fine w) : m_are_worths [WW m w] = M.ret (.bl true) := by
  have t1 : (tOr' (tNt (tV (f1 (dIsi "tuple") (gv 0)))) (tOr' (tV (f2 dNe (f1 dLen (gv 0)) (fun _ => M.ret (.int 2)))) (tNt (tV (fCall m_is_between 3 (fCons (f2 dIx (gv 0) (fun _ => M.ret (.int 0))) (fCons (fun _ => M.ret (.int 1)) (fCons (fun _ => M.ret (.int 7)) fNil)))))))) [some (.d (WW m w))] = M.ret false := by
    rcases five hm with rfl | rfl | rfl | rfl | rfl <;> (funext S; kernel_rfl)
  have a1 : fCall m_are_between 3 (fCons (f2 dIx (gv 0) (fun _ => M.ret (.int 1))) (fCons (f2 dSub (fun _ => M.ret (.int 0)) (fun _ => M.ret (.int 1000000000))) (fCons (fun _ => M.ret (.int 1000000000)) fNil))) [some (.d (WW m w))] = M.ret (.bl true) := by
    have e : fCall m_are_between 3 (fCons (f2 dIx (gv 0) (fun _ => M.ret (.int 1))) (fCons (f2 dSub (fun _ => M.ret (.int 0)) (fun _ => M.ret (.int 1000000000))) (fCons (fun _ => M.ret (.int 1000000000)) fNil))) [some (.d (WW m w))] = m_are_between [tuI ((lots m).map w), .int (-1000000000), .int 1000000000] := by
      rw [WW_tu]
      rfl
    rw [e, areBetween, all_of]
    intro x hx
    obtain ⟨l, _, rfl⟩ := List.mem_map.mp hx
    have h1 := h.lo l
    have h2 := h.hi l
    rw [decide_eq_true (by omega), decide_eq_true (by omega)]
    rfl
  have a2 : tV (f2 dNe (f1 dLen (f2 dIx (gv 0) (fun _ => M.ret (.int 1)))) (f1 dLen (fCall m_every_of 1 (fCons (f2 dIx (gv 0) (fun _ => M.ret (.int 0))) fNil)))) [some (.d (WW m w))] = M.ret false := by
    rcases five hm with rfl | rfl | rfl | rfl | rfl <;> (funext S; kernel_rfl)
  have a3 : f2 dEq (f2 dIx (f2 dIx (gv 0) (fun _ => M.ret (.int 1))) (fun _ => M.ret (.int 0))) (fun _ => M.ret (.int 0)) [some (.d (WW m w))] = M.ret (.bl (w [] == 0)) := by
    rcases five hm with rfl | rfl | rfl | rfl | rfl <;> (funext S; kernel_rfl)
  have t2 : (tOr' (tNt (tV (fCall m_are_between 3 (fCons (f2 dIx (gv 0) (fun _ => M.ret (.int 1))) (fCons (f2 dSub (fun _ => M.ret (.int 0)) (fun _ => M.ret (.int 1000000000))) (fCons (fun _ => M.ret (.int 1000000000)) fNil)))))) (tV (f2 dNe (f1 dLen (f2 dIx (gv 0) (fun _ => M.ret (.int 1)))) (f1 dLen (fCall m_every_of 1 (fCons (f2 dIx (gv 0) (fun _ => M.ret (.int 0))) fNil)))))) [some (.d (WW m w))] = M.ret false := by
    rw [tOr', tNt, tV, a1]
    exact a2
  show M.quiet (M.bind (b_are_worths [some (.d (WW m w))]) endM) = _
  unfold b_are_worths
  rw [seq_ret (δ1 := [some (.d (WW m w))]) ((ifS_false t1).trans rfl), seq_ret (δ1 := [some (.d (WW m w))]) ((ifS_false t2).trans rfl), fRet, a3, h.nil]
  rfl
theorem checkWorths {m : Nat} (hm : 1 ≤ m ∧ m ≤ 5) {w : List Int → Int} (h : Fine w) : m_check_worths [WW m w] = M.ret .non := by
  show M.quiet (M.bind (M.bind (M.bind (M.bind (m_are_worths [WW m w]) D.isBl) fun b => M.ret (!b)) fun c => if c = true then M.stuck else M.ret (Fl.nx [some (.d (WW m w))])) endM) = _
  rw [areWorths hm h]
  rfl
theorem checkLess {m : Nat} (hm : 1 ≤ m ∧ m ≤ 5) {w : List Int → Int} (h : Fine w) : m_check_less [WW m w] = M.ret .non := by
  show M.quiet (M.bind (b_check_less [some (.d (WW m w))]) endM) = _
  unfold b_check_less
  rw [seq_ret (expr_ret (checkWorths hm h)), seq_ret (δ1 := [some (.d (WW m w))]) ((ifS_false (nt_call (isLessT hm h))).trans rfl), ifS_false (nt_call (growT hm h))]
  rfl
end K06

set_option Elab.async false
set_option linter.all false
set_option maxRecDepth 100000
set_option maxHeartbeats 4000000
/-! K06P7: plans, moves -/
namespace K06
open PySem PySem.Spec PyProof.Rows L2 DL
theorem fRepr_neS {fa fb : Δ → M D} {δ : Δ} {d : D} (ha : fa δ = M.ret d) (hb : fb δ = M.ret d) (s : Sml d) : f2 dNe (f1 dRepr fa) (f1 dRepr fb) δ = M.ret (.bl false) := by
  rw [fRepr_ne ha hb s s, decide_eq_true rfl]
  rfl
theorem mem_rows {n : Nat} : ∀ {m : Nat} {p : List Int}, p ∈ rowsOf n m ↔ p.length = m ∧ ∀ x ∈ p, 0 ≤ x ∧ x < n
  | 0, p => by
    constructor
    · intro h
      have : p = [] := by simpa [rowsOf] using h
      subst this
      exact ⟨rfl, fun x hx => absurd hx (by simp)⟩
    · rintro ⟨h, _⟩
      have : p = [] := List.length_eq_zero_iff.mp h
      subst this
      exact List.mem_cons_self
  | m + 1, p => by
    unfold rowsOf
    rw [List.mem_flatMap]
    constructor
    · rintro ⟨r, hr, hp⟩
      obtain ⟨j, hj, rfl⟩ := List.mem_map.mp hp
      obtain ⟨h1, h2⟩ := mem_rows.mp hr
      refine ⟨by rw [List.length_append, h1]; rfl, fun x hx => ?_⟩
      rcases List.mem_append.mp hx with hx | hx
      · exact h2 x hx
      · rw [List.mem_singleton] at hx
        have := List.mem_range.mp hj
        omega
    · rintro ⟨h1, h2⟩
      have hne : p ≠ [] := fun e => by rw [e] at h1; simp at h1
      refine ⟨p.dropLast, mem_rows.mpr ⟨by rw [List.length_dropLast, h1]; rfl, fun x hx => h2 x ((List.dropLast_sublist p).subset hx)⟩, ?_⟩
      have hl := h2 _ (List.getLast_mem hne)
      refine List.mem_map.mpr ⟨(p.getLast hne).toNat, List.mem_range.mpr (by omega), ?_⟩
      rw [show (((p.getLast hne).toNat : Nat) : Int) = p.getLast hne by omega]
      exact List.dropLast_concat_getLast hne
theorem rows_ne {n m : Nat} (hn : 1 ≤ n) : rowsOf n m ≠ [] := by
  have : (List.replicate m (0 : Int)) ∈ rowsOf n m := mem_rows.mpr ⟨List.length_replicate, fun x hx => by
    have := (List.mem_replicate.mp hx).2
    omega⟩
  exact List.ne_nil_of_mem this
theorem set_rows {n m : Nat} {p : List Int} (hp : p ∈ rowsOf n m) {j t : Nat} (ht : t < n) : p.set j (t : Int) ∈ rowsOf n m := by
  obtain ⟨h1, h2⟩ := mem_rows.mp hp
  refine mem_rows.mpr ⟨by rw [List.length_set, h1], fun x hx => ?_⟩
  rcases List.mem_or_eq_of_mem_set hx with hx | hx
  · exact h2 x hx
  · omega
/-- the worths of a plan's nights -/
def each (n : Nat) (w : List Int → Int) (p : List Int) : List Int := (lotsBy n p).map w
def val (n : Nat) (w : List Int → Int) (p : List Int) : Int := (each n w p).sum
theorem each_len (n : Nat) (w : List Int → Int) (p : List Int) : (each n w p).length = n := by
  unfold each lotsBy
  rw [List.length_map, List.length_map, List.length_range]
theorem val_bd {n : Nat} {w : List Int → Int} (h : Fine w) (p : List Int) : 0 ≤ val n w p ∧ val n w p ≤ 46 * n := by
  have : ∀ xs : List Int, (∀ x ∈ xs, 0 ≤ x ∧ x ≤ 46) → 0 ≤ xs.sum ∧ xs.sum ≤ 46 * xs.length := by
    intro xs
    induction xs with
    | nil => intro _; simp
    | cons x xs ih =>
      intro h
      have h1 := ih fun y hy => h y (List.mem_cons_of_mem _ hy)
      have h2 := h x List.mem_cons_self
      rw [List.sum_cons, List.length_cons, Int.natCast_add, Int.mul_add]
      simp
      omega
  have h1 := this (each n w p) fun x hx => by
    obtain ⟨l, _, rfl⟩ := List.mem_map.mp hx
    exact ⟨h.lo l, h.hi l⟩
  rw [each_len] at h1
  exact h1
section
variable {m n : Nat} (hm : 1 ≤ m ∧ m ≤ 5) (hn : 1 ≤ n ∧ n ≤ 3) {w : List Int → Int}
include hn in
theorem checkNights : m_check_nights [.int n] = M.ret .non := by
  rcases three hn with rfl | rfl | rfl <;> (funext S; kernel_rfl)
theorem isPlanI (w : List Int → Int) (xs : List Int) : m_is_plan [WW m w, .int n, tuI xs] = M.ret (.bl ((xs.map fun x => decide (0 ≤ x) && decide (x ≤ (n : Int) - 1)).all id && ((xs.length : Int) == (m : Int)))) := by
  show M.quiet (M.bind (M.bind (M.bind (m_are_between [tuI xs, .int 0, .int ((n : Int) - 1)]) fun a => M.bind a.isBl fun b => if b = true then M.bind (M.ret (D.int ((xs.map D.int).length : Nat))) (fun x => M.bind (M.ret (D.int m)) fun y => dEq x y) else M.ret (.bl false)) fun d => M.ret (Fl.rt d)) endM) = _
  rw [areBetween, List.length_map]
  cases (xs.map fun x => decide (0 ≤ x) && decide (x ≤ (n : Int) - 1)).all id <;> rfl
theorem isPlan (w : List Int → Int) {p : List Int} (hp : p ∈ rowsOf n m) : m_is_plan [WW m w, .int n, tuI p] = M.ret (.bl true) := by
  obtain ⟨h1, h2⟩ := mem_rows.mp hp
  rw [isPlanI, all_of fun x hx => ?_, h1]
  · simp
  · have := h2 x hx
    rw [decide_eq_true (by omega), decide_eq_true (by omega)]
    rfl
include hn in
theorem checkPlan (w : List Int → Int) {p : List Int} (hp : p ∈ rowsOf n m) : m_check_plan [WW m w, .int n, tuI p] = M.ret .non := by
  refine fn_non (δ := startD 3 [WW m w, .int n, tuI p]) rfl ?_
  refine (seq_ret (expr_ret (d := .non) ?_)).trans ((ifS_false (nt_call (isPlan w hp))).trans rfl)
  exact checkNights hn
include hm hn in
theorem checkSettling (h : Fine w) {p : List Int} (hp : p ∈ rowsOf n m) : m_check_settling [WW m w, .int n, tuI p] = M.ret .non := by
  refine fn_non (δ := startD 3 [WW m w, .int n, tuI p]) rfl ?_
  refine (seq_ret (expr_ret (d := .non) ?_)).trans ((seq_ret (expr_ret (d := .non) ?_)).trans (expr_ret (d := .non) ?_))
  · exact checkLess hm h
  · exact checkNights hn
  · exact checkPlan hn w hp
include hm hn in
theorem checkAsked (h : Fine w) : m_check_asked [WW m w, .int n] = M.ret .non := by
  refine fn_non (δ := startD 2 [WW m w, .int n]) rfl ?_
  refine (seq_ret (expr_ret (d := .non) ?_)).trans (expr_ret (d := .non) ?_)
  · exact checkLess hm h
  · exact checkNights hn
include hm hn in
theorem eachP (w : List Int → Int) {p : List Int} (hp : p ∈ rowsOf n m) : m_worths_by_night [WW m w, .int n, tuI p] = M.ret (.lst ((each n w p).map D.int)) := by
  refine fn_ret rfl ?_
  have e1 : fSet 3 (fCall m_table_of 1 (fCons (gv 0) fNil)) (startD 5 [WW m w, .int n, tuI p]) = M.ret (.nx [some (.d (WW m w)), some (.d (.int n)), some (.d (tuI p)), some (.d (tabD m w)), none]) := set_ret (tableP hm w)
  refine (seq_ret e1).trans (ret_ret ?_)
  unfold each
  rw [List.map_map]
  exact fLc_mapA (emb := tuI) (seqL_ret (lotsByP hm hn hp)) fun l hl => ⟨_, rfl, f2_ret rfl rfl (tabIx hm (lotsBy_mem hm hn p hp l hl))⟩
include hm hn in
theorem eachL (w : List Int → Int) {p : List Int} (hp : p ∈ rowsOf n m) : m__law_each [tabD m w, tuI p, .int n] = M.ret (.lst ((each n w p).map D.int)) := by
  refine fn_ret rfl (ret_ret ?_)
  unfold each
  rw [List.map_map]
  exact fLc_mapA (emb := tuI) (seqL_ret (lawNights hm.2 hn hp)) fun l hl => ⟨_, rfl, f2_ret rfl rfl (tabIx hm (lotsBy_mem hm hn p hp l hl))⟩
theorem set_parts {p : List Int} {j : Nat} (hj : j < p.length) (t : Int) : (tuI (p.set j t)) = .tup ((p.map D.int).take j ++ .int t :: (p.map D.int).drop (j + 1)) := by
  unfold tuI
  rw [List.set_eq_take_append_cons_drop, if_pos hj, List.map_append, List.map_cons, List.map_take, List.map_drop]
theorem moveDone {p : List Int} {j : Nat} (hj : j < p.length) (hl : p.length ≤ 5) (t : Int) : m_move_done [tuI p, .int j, .int t] = M.ret (tuI (p.set j t)) := by
  rw [set_parts hj]
  refine fn_ret rfl (ret_ret (fTup_ret ?_ ?_))
  · have e2 := cutT_ret (δ := startD 3 [tuI p, .int j, .int t]) (fa := gv 0) (fl := fI (f2 dAdd (gv 1) (fun _ => M.ret (.int 1)))) (fh := fun _ => M.ret none) (lo := some ((j + 1 : Nat) : Int)) (hi := none) rfl (fI_ret rfl) rfl
    have e1 := cutT_ret (δ := startD 3 [tuI p, .int j, .int t]) (fa := gv 0) (fl := fun _ => M.ret none) (fh := fI (gv 1)) (lo := none) (hi := some ((j : Nat) : Int)) rfl rfl (fI_ret rfl)
    rw [cut_from] at e2
    rw [cut_to] at e1
    refine (star_ret e1 rfl (cons_ret rfl (star_ret e2 rfl rfl))).trans ?_
    rw [List.append_nil]
  · rw [List.length_append, List.length_take, List.length_cons, List.length_drop, List.length_map]
    omega
theorem lawDone {p : List Int} {j : Nat} (hj : j < p.length) (hl : p.length ≤ 5) (t : Int) : m__law_done [tuI p, .int j, .int t] = M.ret (tuI (p.set j t)) := by
  rw [set_parts hj]
  have e2 := cutT_ret (δ := startD 3 [tuI p, .int j, .int t]) (fa := gv 0) (fl := fI (f2 dAdd (gv 1) (fun _ => M.ret (.int 1)))) (fh := fun _ => M.ret none) (lo := some ((j + 1 : Nat) : Int)) (hi := none) rfl (fI_ret rfl) rfl
  have e1 := cutT_ret (δ := startD 3 [tuI p, .int j, .int t]) (fa := gv 0) (fl := fun _ => M.ret none) (fh := fI (gv 1)) (lo := none) (hi := some ((j : Nat) : Int)) rfl rfl (fI_ret rfl)
  rw [cut_from] at e2
  rw [cut_to] at e1
  refine fn_ret rfl (ret_ret (f2_ret (f2_ret e1 rfl (add_tup ?_)) e2 ((add_tup ?_).trans ?_)))
  · rw [List.length_take, List.length_map]
    exact Nat.le_trans (show min j p.length + 1 ≤ 1000 by omega) (Nat.le_refl _)
  · rw [List.length_append, List.length_take, List.length_drop, List.length_map]
    exact Nat.le_trans (show (min j p.length + 1) + (p.length - (j + 1)) ≤ 1000 by omega) (Nat.le_refl _)
  · rw [List.append_assoc]
    rfl
include hm hn in
theorem isBetter (w : List Int → Int) {p : List Int} (hp : p ∈ rowsOf n m) {j t : Nat} (hj : j < m) (ht : t < n) : m_is_better [WW m w, .int n, tuI p, .int j, .int t] = M.ret (.bl (decide (val n w p < val n w (p.set j (t : Int))))) := by
  have hl := (mem_rows.mp hp).1
  refine fn_ret rfl ?_
  have e0 := moveDone (p := p) (j := j) (by omega) (by omega) (t : Int)
  have e1 : f1 dSum (fCall m_worths_by_night 3 (fCons (gv 0) (fCons (gv 1) (fCons (fCall m_move_done 3 (fCons (gv 2) (fCons (gv 3) (fCons (gv 4) fNil)))) fNil)))) (startD 6 [WW m w, .int n, tuI p, .int j, .int t]) = M.ret (.int (val n w (p.set j (t : Int)))) :=
    f1_ret ((call_ret (cons_ret rfl (cons_ret rfl (cons_ret e0 rfl))) rfl).trans (eachP hm hn w (set_rows hp ht))) (dSum_ints _)
  have e2 : f1 dSum (fCall m_worths_by_night 3 (fCons (gv 0) (fCons (gv 1) (fCons (gv 2) fNil)))) [some (.d (WW m w)), some (.d (.int n)), some (.d (tuI p)), some (.d (.int j)), some (.d (.int t)), some (.d (.int (val n w (p.set j (t : Int)))))] = M.ret (.int (val n w p)) :=
    f1_ret ((call_ret (cons_ret rfl (cons_ret rfl (cons_ret rfl rfl))) rfl).trans (eachP hm hn w hp)) (dSum_ints _)
  exact (seq_ret (set_ret e1)).trans (ret_ret (f2_ret rfl e2 rfl))
/-- the moves that are better, of one post; of all -/
def movesAt (n : Nat) (w : List Int → Int) (p : List Int) (j : Nat) : List (Int × Int) := ((List.range n).filter fun t : Nat => decide (val n w p < val n w (p.set j (t : Int)))).map fun t : Nat => ((j : Int), (t : Int))
def moves (m n : Nat) (w : List Int → Int) (p : List Int) : List (Int × Int) := (List.range m).flatMap (movesAt n w p)
def mvD (q : Int × Int) : D := tuI [q.1, q.2]
theorem mem_moves {w : List Int → Int} {p : List Int} {q : Int × Int} : q ∈ moves m n w p ↔ ∃ j t : Nat, q = (↑j, ↑t) ∧ j < m ∧ t < n ∧ val n w p < val n w (p.set j (t : Int)) := by
  unfold moves movesAt
  rw [List.mem_flatMap]
  constructor
  · rintro ⟨j, hj, h⟩
    obtain ⟨t, ht, rfl⟩ := List.mem_map.mp h
    obtain ⟨h1, h2⟩ := List.mem_filter.mp ht
    exact ⟨j, t, rfl, List.mem_range.mp hj, List.mem_range.mp h1, of_decide_eq_true h2⟩
  · rintro ⟨j, t, rfl, hj, ht, h⟩
    exact ⟨j, List.mem_range.mpr hj, List.mem_map.mpr ⟨t, List.mem_filter.mpr ⟨List.mem_range.mpr ht, decide_eq_true h⟩, rfl⟩⟩
theorem movesAt_len (n : Nat) (w : List Int → Int) (p : List Int) (j : Nat) : (movesAt n w p j).length ≤ n := by
  unfold movesAt
  rw [List.length_map]
  exact Nat.le_trans (List.length_filter_le _ _) (by rw [List.length_range]; exact Nat.le_refl _)
theorem flat_len {α β : Type} {f : α → List β} {b : Nat} : ∀ {xs : List α}, (∀ x ∈ xs, (f x).length ≤ b) → (xs.flatMap f).length ≤ b * xs.length
  | [], _ => Nat.zero_le _
  | x :: xs, h => by
    have ih := flat_len (xs := xs) fun y hy => h y (List.mem_cons_of_mem _ hy)
    have := h x List.mem_cons_self
    rw [List.flatMap_cons, List.length_append, List.length_cons, Nat.mul_add]
    omega
theorem moves_len (m n : Nat) (w : List Int → Int) (p : List Int) : (moves m n w p).length ≤ n * m := by
  have := flat_len (f := movesAt n w p) (b := n) (xs := List.range m) fun j _ => movesAt_len n w p j
  rwa [List.length_range] at this
include hm hn in
theorem betterMoves (w : List Int → Int) {p : List Int} (hp : p ∈ rowsOf n m) : m_better_moves [WW m w, .int n, tuI p] = M.ret (.lst ((moves m n w p).map mvD)) := by
  refine fn_ret rfl ?_
  let dd : List (Int × Int) → Option Slot → Δ := fun q x => [some (.d (WW m w)), some (.d (.int n)), some (.d (tuI p)), some (.own (q.map mvD)), x, none]
  have e1 : fOwn 3 (fLst fNil) (startD 6 [WW m w, .int n, tuI p]) = M.ret (.nx (dd [] none)) := rfl
  refine (seq_ret e1).trans ?_
  obtain ⟨δ', e2, x, rfl⟩ := loopM_pre (emb := fun j : Nat => D.int j) (gg := ggName 4) (F := fExt 3 (fLc (iRange1 (gv 1)) (ggName 5) (tV (fCall m_is_better 5 (fCons (gv 0) (fCons (gv 1) (fCons (gv 2) (fCons (gv 4) (fCons (gv 5) fNil))))))) (fTup (fCons (gv 4) (fCons (gv 5) fNil))) [5]))
    (fun pre δ => ∃ x, δ = dd (pre.flatMap (movesAt n w p)) x) (List.range m) [] (δ := dd [] none)
    (fun pre j q δ ex => by
      rintro ⟨x, rfl⟩
      have hj : j < m := by
        have : j ∈ List.range m := by
          rw [List.nil_append] at ex
          rw [ex]
          simp
        exact List.mem_range.mp this
      have hpl : pre.length ≤ m := by
        have := congrArg List.length ex
        rw [List.nil_append, List.length_range, List.length_append, List.length_cons] at this
        omega
      refine ⟨dd (pre.flatMap (movesAt n w p)) (some (.d (.int j))), dd ((pre ++ [j]).flatMap (movesAt n w p)) (some (.d (.int j))), rfl, ?_, _, rfl⟩
      have e3 : fLc (iRange1 (gv 1)) (ggName 5) (tV (fCall m_is_better 5 (fCons (gv 0) (fCons (gv 1) (fCons (gv 2) (fCons (gv 4) (fCons (gv 5) fNil))))))) (fTup (fCons (gv 4) (fCons (gv 5) fNil))) [5] (dd (pre.flatMap (movesAt n w p)) (some (.d (.int j)))) = M.ret (.lst ((movesAt n w p j).map mvD)) := by
        unfold movesAt
        rw [List.map_map]
        refine fLc_map (emb := fun t : Nat => D.int t) (p := fun t : Nat => decide (val n w p < val n w (p.set j (t : Int)))) (f := fun t : Nat => mvD ((j : Int), (t : Int))) (range_nat (by omega) rfl) fun t ht => ⟨[some (.d (WW m w)), some (.d (.int n)), some (.d (tuI p)), some (.own ((pre.flatMap (movesAt n w p)).map mvD)), some (.d (.int j)), some (.d (.int t))], rfl, tV_ret (isBetter hm hn w hp hj (List.mem_range.mp ht)), fun _ => rfl⟩
      have hl : ((pre.flatMap (movesAt n w p)).map mvD).length + ((movesAt n w p j).map mvD).length ≤ 1000000 := by
        rw [List.length_map, List.length_map]
        have h1 := flat_len (f := movesAt n w p) (b := n) (xs := pre) fun j _ => movesAt_len n w p j
        have h2 := movesAt_len n w p j
        have h3 : n * pre.length ≤ 3 * 5 := Nat.mul_le_mul hn.2 (by omega)
        omega
      rw [ext_ret rfl e3 hl, List.flatMap_append, List.flatMap_cons, List.flatMap_nil, List.append_nil]
      show M.ret (Fl.nx [some (.d (WW m w)), some (.d (.int n)), some (.d (tuI p)), some (.own ((pre.flatMap (movesAt n w p)).map mvD ++ (movesAt n w p j).map mvD)), some (.d (.int j)), none]) = _
      rw [← List.map_append])
    ⟨none, rfl⟩
  have e4 : fFor (iRange1 (f2 dIx (gv 0) (fun _ => M.ret (.int 0)))) (ggName 4) (fExt 3 (fLc (iRange1 (gv 1)) (ggName 5) (tV (fCall m_is_better 5 (fCons (gv 0) (fCons (gv 1) (fCons (gv 2) (fCons (gv 4) (fCons (gv 5) fNil))))))) (fTup (fCons (gv 4) (fCons (gv 5) fNil))) [5])) (dd [] none) = M.ret (.nx (dd (moves m n w p) x)) :=
    for_ret (range_nat (m := m) (by omega) rfl) (by rw [List.nil_append] at e2; exact e2)
  exact (seq_ret e4).trans rfl
end
end K06

set_option Elab.async false
set_option linter.all false
set_option maxRecDepth 100000
set_option maxHeartbeats 4000000
/-! K06P8: settled, settling -/
namespace K06
open PySem PySem.Spec PyProof.Rows L2 DL
theorem mv_map (q : List (Int × Int)) : q.map mvD = (q.map fun q => [q.1, q.2]).map tuI := by
  rw [List.map_map]
  rfl
theorem mv_shs (q : List (Int × Int)) : D.shs 63 (q.map mvD) = true := by
  rw [mv_map]
  exact shs_tuI 62 _
theorem mv_in (j t : Int) (q : List (Int × Int)) : dIn (tuI [j, t]) (.lst (q.map mvD)) = M.ret (.bl (q.contains (j, t))) := by
  rw [mv_map, dIn_tuI]
  congr 2
  rw [Bool.eq_iff_iff, List.contains_iff_mem, List.contains_iff_mem, List.mem_map]
  constructor
  · rintro ⟨⟨a, b⟩, h, e⟩
    simp at e
    rw [← e.1, ← e.2]
    exact h
  · intro h
    exact ⟨_, h, rfl⟩
theorem mv_notIn (j t : Int) (q : List (Int × Int)) : dNotIn (tuI [j, t]) (.lst (q.map mvD)) = M.ret (.bl (!q.contains (j, t))) := by
  have h1 : (D.lst (q.map mvD)).sh 64 = true := by unfold D.sh; exact mv_shs q
  have e := mv_in j t q
  have e' : (if ((tuI [j, t]).sh 64 && (D.lst (q.map mvD)).sh 64) = true then M.ret (D.bl (D.mem (tuI [j, t]) (q.map mvD))) else M.stuck) = M.ret (.bl (q.contains (j, t))) := e
  show (if ((tuI [j, t]).sh 64 && (D.lst (q.map mvD)).sh 64) = true then M.ret (D.bl (!D.mem (tuI [j, t]) (q.map mvD))) else M.stuck) = _
  rw [h1, sh_tuI] at e' ⊢
  have e2 : D.mem (tuI [j, t]) (q.map mvD) = q.contains (j, t) := by
    have := congrFun e' []
    injection this with h _
    injection h
  rw [e2]
  rfl
section
variable {m n : Nat} (hm : 1 ≤ m ∧ m ≤ 5) (hn : 1 ≤ n ∧ n ≤ 3) {w : List Int → Int}
include hm hn in
theorem lawBetter (w : List Int → Int) {p : List Int} (hp : p ∈ rowsOf n m) : m__law_better [tabD m w, tuI p, .int n] = M.ret (.lst ((moves m n w p).map mvD)) := by
  have hpl := (mem_rows.mp hp).1
  refine fn_ret rfl ?_
  let dd : List (Int × Int) → Option Slot → Δ := fun q x => [some (.d (tabD m w)), some (.d (tuI p)), some (.d (.int n)), x, some (.d (.int (val n w p))), some (.own (q.map mvD)), none]
  have e1 : fPar2 4 5 false true (f1 dSum (fCall m__law_each 3 (fCons (gv 0) (fCons (gv 1) (fCons (gv 2) fNil))))) (fLst fNil) (startD 7 [tabD m w, tuI p, .int n]) = M.ret (.nx (dd [] none)) :=
    parO_ret (f1_ret ((call_ret (cons_ret rfl (cons_ret rfl (cons_ret rfl rfl))) rfl).trans (eachL hm hn w hp)) (dSum_ints _)) rfl
  refine (seq_ret e1).trans ?_
  obtain ⟨δ', e2, x, rfl⟩ := loopM_pre (emb := fun j : Nat => D.int j) (gg := ggName 3) (F := fExt 5 (fLc (iRange1 (gv 2)) (ggName 6) (tV (f2 dGt (f1 dSum (fCall m__law_each 3 (fCons (gv 0) (fCons (fCall m__law_done 3 (fCons (gv 1) (fCons (gv 3) (fCons (gv 6) fNil)))) (fCons (gv 2) fNil))))) (gv 4))) (fTup (fCons (f1 dInt (gv 3)) (fCons (f1 dInt (gv 6)) fNil))) [6]))
    (fun pre δ => ∃ x, δ = dd (pre.flatMap (movesAt n w p)) x) (List.range m) [] (δ := dd [] none)
    (fun pre j q δ ex => by
      rintro ⟨x, rfl⟩
      have hj : j < m := by
        have : j ∈ List.range m := by
          rw [List.nil_append] at ex
          rw [ex]
          simp
        exact List.mem_range.mp this
      have hpl' : pre.length ≤ m := by
        have := congrArg List.length ex
        rw [List.nil_append, List.length_range, List.length_append, List.length_cons] at this
        omega
      refine ⟨dd (pre.flatMap (movesAt n w p)) (some (.d (.int j))), dd ((pre ++ [j]).flatMap (movesAt n w p)) (some (.d (.int j))), rfl, ?_, _, rfl⟩
      have e3 : fLc (iRange1 (gv 2)) (ggName 6) (tV (f2 dGt (f1 dSum (fCall m__law_each 3 (fCons (gv 0) (fCons (fCall m__law_done 3 (fCons (gv 1) (fCons (gv 3) (fCons (gv 6) fNil)))) (fCons (gv 2) fNil))))) (gv 4))) (fTup (fCons (f1 dInt (gv 3)) (fCons (f1 dInt (gv 6)) fNil))) [6] (dd (pre.flatMap (movesAt n w p)) (some (.d (.int j)))) = M.ret (.lst ((movesAt n w p j).map mvD)) := by
        unfold movesAt
        rw [List.map_map]
        refine fLc_map (emb := fun t : Nat => D.int t) (p := fun t : Nat => decide (val n w p < val n w (p.set j (t : Int)))) (f := fun t : Nat => mvD ((j : Int), (t : Int))) (range_nat (by omega) rfl) fun t ht => ⟨[some (.d (tabD m w)), some (.d (tuI p)), some (.d (.int n)), some (.d (.int j)), some (.d (.int (val n w p))), some (.own ((pre.flatMap (movesAt n w p)).map mvD)), some (.d (.int t))], rfl, tV_ret (f2_ret (f1_ret ((call_ret (cons_ret rfl (cons_ret (lawDone (p := p) (j := j) (by omega) (by omega) (t : Int)) (cons_ret rfl rfl))) rfl).trans (eachL hm hn w (set_rows hp (List.mem_range.mp ht)))) (dSum_ints _)) rfl rfl), fun _ => rfl⟩
      have hl : ((pre.flatMap (movesAt n w p)).map mvD).length + ((movesAt n w p j).map mvD).length ≤ 1000000 := by
        rw [List.length_map, List.length_map]
        have h1 := flat_len (f := movesAt n w p) (b := n) (xs := pre) fun j _ => movesAt_len n w p j
        have h2 := movesAt_len n w p j
        have h3 : n * pre.length ≤ 3 * 5 := Nat.mul_le_mul hn.2 (by omega)
        omega
      rw [ext_ret rfl e3 hl, List.flatMap_append, List.flatMap_cons, List.flatMap_nil, List.append_nil]
      show M.ret (Fl.nx [some (.d (tabD m w)), some (.d (tuI p)), some (.d (.int n)), some (.d (.int j)), some (.d (.int (val n w p))), some (.own ((pre.flatMap (movesAt n w p)).map mvD ++ (movesAt n w p j).map mvD)), none]) = _
      rw [← List.map_append])
    ⟨none, rfl⟩
  have e4 : fFor (iRange1 (f1 dLen (gv 1))) (ggName 3) (fExt 5 (fLc (iRange1 (gv 2)) (ggName 6) (tV (f2 dGt (f1 dSum (fCall m__law_each 3 (fCons (gv 0) (fCons (fCall m__law_done 3 (fCons (gv 1) (fCons (gv 3) (fCons (gv 6) fNil)))) (fCons (gv 2) fNil))))) (gv 4))) (fTup (fCons (f1 dInt (gv 3)) (fCons (f1 dInt (gv 6)) fNil))) [6])) (dd [] none) = M.ret (.nx (dd (moves m n w p) x)) := by
    refine for_ret (range_nat (m := m) (by omega) ?_) (by rw [List.nil_append] at e2; exact e2)
    show M.ret (D.int ((p.map D.int).length : Nat)) = _
    rw [List.length_map, hpl]
  exact (seq_ret e4).trans rfl
/-- what settled tells -/
def setD : List (Int × Int) → D
  | [] => .tup [.str "settled"]
  | q :: _ => .tup [.str "move", .int q.1, .int q.2]
include hm hn in
theorem settledP (h : Fine w) {p : List Int} (hp : p ∈ rowsOf n m) : m_settled [WW m w, .int n, tuI p] = M.ret (setD (moves m n w p)) := by
  refine fn_ret rfl ?_
  have e1 : fExpr (fCall m_check_settling 3 (fCons (gv 0) (fCons (gv 1) (fCons (gv 2) fNil)))) (startD 4 [WW m w, .int n, tuI p]) = M.ret (.nx (startD 4 [WW m w, .int n, tuI p])) := expr_ret (d := .non) (checkSettling hm hn h hp)
  have e2 : fSet 3 (fCall m_better_moves 3 (fCons (gv 0) (fCons (gv 1) (fCons (gv 2) fNil)))) (startD 4 [WW m w, .int n, tuI p]) = M.ret (.nx [some (.d (WW m w)), some (.d (.int n)), some (.d (tuI p)), some (.d (.lst ((moves m n w p).map mvD)))]) := set_ret (betterMoves hm hn w hp)
  refine (seq_ret e1).trans ((seq_ret e2).trans (ret_ret ?_))
  have e3 : tV (f2 dNe (gv 3) (fLst fNil)) [some (.d (WW m w)), some (.d (.int n)), some (.d (tuI p)), some (.d (.lst ((moves m n w p).map mvD)))] = M.ret (!((moves m n w p).map mvD).isEmpty) := tV_ret (f2_ret rfl rfl (dNe_nil (mv_shs _)))
  cases hq : moves m n w p with
  | nil =>
    rw [hq] at e3
    exact (if_false' e3).trans rfl
  | cons q r =>
    rw [hq] at e3
    exact (if_true' e3).trans (fTup_ret (ds := [.str "move", .int q.1, .int q.2]) (cons_ret rfl (star_ret (x := mvD q) (ys := [.int q.1, .int q.2]) (f2_ret rfl rfl ix_head) rfl rfl)) (by decide : 3 ≤ 1000))
abbrev shRest : Δ → M Fl := (fSeq (fIfS (tOr' (tNt (tV (f1 (dIsi "tuple") (gv 3)))) (tOr' (tV (f2 dNotIn (f1 dLen (gv 3)) (fTup (fCons (fun _ => M.ret (.int 1)) (fCons (fun _ => M.ret (.int 3)) fNil))))) (tNt (tV (f1 (dIsi "str") (f2 dIx (gv 3) (fun _ => M.ret (.int 0))))))))
    (fRet (fun _ => M.ret (.bl false)))
    fNx)
    (fSeq (fIfS (tV (f2 dEq (f1 dLen (gv 3)) (fun _ => M.ret (.int 1))))
    (fRet (fAnd (f2 dEq (f2 dIx (gv 3) (fun _ => M.ret (.int 0))) (fun _ => M.ret (.str "settled"))) (f2 dEq (fCall m_better_moves 3 (fCons (gv 0) (fCons (gv 1) (fCons (gv 2) fNil)))) (fLst fNil))))
    fNx)
    (fSeq (fIfS (tOr' (tV (f2 dNe (f2 dIx (gv 3) (fun _ => M.ret (.int 0))) (fun _ => M.ret (.str "move")))) (tOr' (tNt (tV (fCall m_is_between 3 (fCons (f2 dIx (gv 3) (fun _ => M.ret (.int 1))) (fCons (fun _ => M.ret (.int 0)) (fCons (f2 dSub (f2 dIx (gv 0) (fun _ => M.ret (.int 0))) (fun _ => M.ret (.int 1))) fNil)))))) (tNt (tV (fCall m_is_between 3 (fCons (f2 dIx (gv 3) (fun _ => M.ret (.int 2))) (fCons (fun _ => M.ret (.int 0)) (fCons (f2 dSub (gv 1) (fun _ => M.ret (.int 1))) fNil))))))))
    (fRet (fun _ => M.ret (.bl false)))
    fNx)
    (fRet (fCall m_is_better 5 (fCons (gv 0) (fCons (gv 1) (fCons (gv 2) (fCons (f2 dIx (gv 3) (fun _ => M.ret (.int 1))) (fCons (f2 dIx (gv 3) (fun _ => M.ret (.int 2))) fNil))))))))))
abbrev dS4 (m n : Nat) (w : List Int → Int) (p : List Int) (v : D) : Δ := [some (.d (WW m w)), some (.d (.int n)), some (.d (tuI p)), some (.d v)]
include hm hn in
theorem showsS (h : Fine w) {p : List Int} (hp : p ∈ rowsOf n m) {v d : D} (e : shRest (dS4 m n w p v) = M.ret (.rt d)) : m_shows_settled [WW m w, .int n, tuI p, v] = M.ret d := by
  refine fn_ret rfl ?_
  have e1 : fExpr (fCall m_check_settling 3 (fCons (gv 0) (fCons (gv 1) (fCons (gv 2) fNil)))) (startD 4 [WW m w, .int n, tuI p, v]) = M.ret (.nx (startD 4 [WW m w, .int n, tuI p, v])) := expr_ret (d := .non) (checkSettling hm hn h hp)
  exact (seq_ret e1).trans e
include hm hn in
theorem showsSettled (h : Fine w) {p : List Int} (hp : p ∈ rowsOf n m) : m_shows_settled [WW m w, .int n, tuI p, .tup [.str "settled"]] = M.ret (.bl (moves m n w p).isEmpty) := by
  refine showsS hm hn h hp ?_
  have t1 : (tOr' (tNt (tV (f1 (dIsi "tuple") (gv 3)))) (tOr' (tV (f2 dNotIn (f1 dLen (gv 3)) (fTup (fCons (fun _ => M.ret (.int 1)) (fCons (fun _ => M.ret (.int 3)) fNil))))) (tNt (tV (f1 (dIsi "str") (f2 dIx (gv 3) (fun _ => M.ret (.int 0)))))))) (dS4 m n w p (.tup [.str "settled"])) = M.ret false := by
    funext S
    kernel_rfl
  have t2 : tV (f2 dEq (f1 dLen (gv 3)) (fun _ => M.ret (.int 1))) (dS4 m n w p (.tup [.str "settled"])) = M.ret true := by
    funext S
    kernel_rfl
  have t3 : f2 dEq (f2 dIx (gv 3) (fun _ => M.ret (.int 0))) (fun _ => M.ret (.str "settled")) (dS4 m n w p (.tup [.str "settled"])) = M.ret (.bl true) := by
    funext S
    kernel_rfl
  refine (seq_ret ((ifS_false t1).trans rfl)).trans (seq_rt ((ifS_true t2).trans (ret_ret ((fAnd_true t3).trans (f2_ret ((call_ret (cons_ret rfl (cons_ret rfl (cons_ret rfl rfl))) rfl).trans (betterMoves hm hn w hp)) rfl ?_)))))
  rw [dEq_nil (mv_shs _)]
  cases moves m n w p <;> rfl
include hm hn in
theorem showsMove (h : Fine w) {p : List Int} (hp : p ∈ rowsOf n m) (j t : Int) : m_shows_settled [WW m w, .int n, tuI p, .tup [.str "move", .int j, .int t]] = M.ret (.bl ((moves m n w p).contains (j, t))) := by
  refine showsS hm hn h hp ?_
  have t1 : (tOr' (tNt (tV (f1 (dIsi "tuple") (gv 3)))) (tOr' (tV (f2 dNotIn (f1 dLen (gv 3)) (fTup (fCons (fun _ => M.ret (.int 1)) (fCons (fun _ => M.ret (.int 3)) fNil))))) (tNt (tV (f1 (dIsi "str") (f2 dIx (gv 3) (fun _ => M.ret (.int 0)))))))) (dS4 m n w p (.tup [.str "move", .int j, .int t])) = M.ret false := by
    funext S
    kernel_rfl
  have t2 : tV (f2 dEq (f1 dLen (gv 3)) (fun _ => M.ret (.int 1))) (dS4 m n w p (.tup [.str "move", .int j, .int t])) = M.ret false := by
    funext S
    kernel_rfl
  have t3 : tV (f2 dNe (f2 dIx (gv 3) (fun _ => M.ret (.int 0))) (fun _ => M.ret (.str "move"))) (dS4 m n w p (.tup [.str "move", .int j, .int t])) = M.ret false := by
    funext S
    kernel_rfl
  have t4 : tNt (tV (fCall m_is_between 3 (fCons (f2 dIx (gv 3) (fun _ => M.ret (.int 1))) (fCons (fun _ => M.ret (.int 0)) (fCons (f2 dSub (f2 dIx (gv 0) (fun _ => M.ret (.int 0))) (fun _ => M.ret (.int 1))) fNil))))) (dS4 m n w p (.tup [.str "move", .int j, .int t])) = M.ret (!(decide (0 ≤ j) && decide (j ≤ (m : Int) - 1))) :=
    tNt_ret (tV_ret ((call_ret (cons_ret rfl (cons_ret rfl (cons_ret rfl rfl))) rfl).trans (isBetween _ _ _)))
  have t5 : tNt (tV (fCall m_is_between 3 (fCons (f2 dIx (gv 3) (fun _ => M.ret (.int 2))) (fCons (fun _ => M.ret (.int 0)) (fCons (f2 dSub (gv 1) (fun _ => M.ret (.int 1))) fNil))))) (dS4 m n w p (.tup [.str "move", .int j, .int t])) = M.ret (!(decide (0 ≤ t) && decide (t ≤ (n : Int) - 1))) :=
    tNt_ret (tV_ret ((call_ret (cons_ret rfl (cons_ret rfl (cons_ret rfl rfl))) rfl).trans (isBetween _ _ _)))
  refine (seq_ret ((ifS_false t1).trans rfl)).trans ((seq_ret ((ifS_false t2).trans rfl)).trans ?_)
  by_cases hj : 0 ≤ j ∧ j ≤ (m : Int) - 1
  · rw [decide_eq_true hj.1, decide_eq_true hj.2] at t4
    by_cases ht : 0 ≤ t ∧ t ≤ (n : Int) - 1
    · rw [decide_eq_true ht.1, decide_eq_true ht.2] at t5
      refine (seq_ret ((ifS_false ((tOr_false t3).trans ((tOr_false t4).trans t5))).trans rfl)).trans (ret_ret ?_)
      obtain ⟨j', rfl⟩ := Int.eq_ofNat_of_zero_le hj.1
      obtain ⟨t', rfl⟩ := Int.eq_ofNat_of_zero_le ht.1
      refine Eq.trans (call_ret (ds := [WW m w, .int n, tuI p, .int (j' : Int), .int (t' : Int)]) rfl rfl) ?_
      refine (isBetter hm hn w hp (j := j') (t := t') (by omega) (by omega)).trans ?_
      congr 2
      rw [Bool.eq_iff_iff, decide_eq_true_iff, List.contains_iff_mem, mem_moves]
      constructor
      · intro hv
        exact ⟨j', t', rfl, by omega, by omega, hv⟩
      · rintro ⟨a, b, e, _, _, hv⟩
        injection e with e1 e2
        have e1 : j' = a := by omega
        have e2 : t' = b := by omega
        subst e1 e2
        exact hv
    · have : (decide (0 ≤ t) && decide (t ≤ (n : Int) - 1)) = false := by
        rw [← Bool.not_eq_true, Bool.and_eq_true, decide_eq_true_iff, decide_eq_true_iff]
        exact ht
      rw [this] at t5
      refine (seq_rt ((ifS_true ((tOr_false t3).trans ((tOr_false t4).trans t5))).trans rfl)).trans ?_
      have : (moves m n w p).contains (j, t) = false := by
        rw [← Bool.not_eq_true, List.contains_iff_mem, mem_moves]
        rintro ⟨a, b, e, _, h2, _⟩
        injection e with e1 e2
        omega
      rw [this]
  · have : (decide (0 ≤ j) && decide (j ≤ (m : Int) - 1)) = false := by
      rw [← Bool.not_eq_true, Bool.and_eq_true, decide_eq_true_iff, decide_eq_true_iff]
      exact hj
    rw [this] at t4
    refine (seq_rt ((ifS_true ((tOr_false t3).trans (tOr_true t4))).trans rfl)).trans ?_
    have : (moves m n w p).contains (j, t) = false := by
      rw [← Bool.not_eq_true, List.contains_iff_mem, mem_moves]
      rintro ⟨a, b, e, h2, _, _⟩
      injection e with e1 e2
      omega
    rw [this]
end
end K06

set_option Elab.async false
set_option linter.all false
set_option maxRecDepth 100000
set_option maxHeartbeats 4000000
/-! K06P9: rows of moves -/
namespace K06
open PySem PySem.Spec PyProof.Rows L2 DL
def okRow (m n : Nat) (w : List Int → Int) : List (Int × Int) → List Int → Bool
  | [], p => (moves m n w p).isEmpty
  | q :: r, p => (moves m n w p).contains q && okRow m n w r (p.set q.1.toNat q.2)
def lastP (p : List Int) (row : List (Int × Int)) : List Int := row.foldl (fun p q => p.set q.1.toNat q.2) p
theorem move_rows {m n : Nat} {w : List Int → Int} {p : List Int} (hp : p ∈ rowsOf n m) {q : Int × Int} (hq : q ∈ moves m n w p) : p.set q.1.toNat q.2 ∈ rowsOf n m := by
  obtain ⟨j, t, rfl, hj, ht, hv⟩ := mem_moves.mp hq
  exact set_rows hp ht
section
variable {m n : Nat} (hm : 1 ≤ m ∧ m ≤ 5) (hn : 1 ≤ n ∧ n ≤ 3) {w : List Int → Int}
abbrev dSt (m n : Nat) (w : List Int → Int) (p : List Int) (acc : List (Int × Int)) : Δ := [some (.d (WW m w)), some (.d (.int n)), some (.d (tuI p)), some (.own (acc.map mvD)), some (.d (.lst ((moves m n w p).map mvD)))]
abbrev stT : Δ → M Bool := tV (f2 dNe (gv 4) (fLst fNil))
abbrev stB : Δ → M Fl := (fSeq (fApp 3 (f2 dIx (gv 4) (fun _ => M.ret (.int 0))))
    (fSeq (fSet 2 (fCall m_move_done 3 (fCons (gv 2) (fCons (f2 dIx (f2 dIx (gv 4) (fun _ => M.ret (.int 0))) (fun _ => M.ret (.int 0))) (fCons (f2 dIx (f2 dIx (gv 4) (fun _ => M.ret (.int 0))) (fun _ => M.ret (.int 1))) fNil)))))
    (fSet 4 (fCall m_better_moves 3 (fCons (gv 0) (fCons (gv 1) (fCons (gv 2) fNil)))))))
include hm hn in
theorem settle (h : Fine w) : ∀ (k fuel : Nat) (acc : List (Int × Int)) (p : List Int), p ∈ rowsOf n m → 46 * (n : Int) - val n w p ≤ k → k < fuel → acc.length + k < 1000000 → ∃ row : List (Int × Int), row.length ≤ k ∧ okRow m n w row p = true ∧ whileM fuel stT stB (dSt m n w p acc) = M.ret (.nx (dSt m n w (lastP p row) (acc ++ row))) := by
  intro k
  induction k with
  | zero =>
    intro fuel acc p hp hk hf ha
    have he : moves m n w p = [] := by
      rw [List.eq_nil_iff_forall_not_mem]
      intro q hq
      obtain ⟨j, t, rfl, hj, ht, hv⟩ := mem_moves.mp hq
      have := (val_bd (n := n) h (p.set j (t : Int))).2
      omega
    obtain ⟨f, rfl⟩ : ∃ f, fuel = f + 1 := ⟨fuel - 1, by omega⟩
    refine ⟨[], Nat.le_refl _, by unfold okRow; rw [he]; rfl, ?_⟩
    have ht : stT (dSt m n w p acc) = M.ret false := by
      refine tV_ret (f2_ret rfl rfl ?_)
      rw [dNe_nil (mv_shs _), he]
      rfl
    rw [while_end ht, List.append_nil]
    rfl
  | succ k ih =>
    intro fuel acc p hp hk hf ha
    obtain ⟨f, rfl⟩ : ∃ f, fuel = f + 1 := ⟨fuel - 1, by omega⟩
    cases he : moves m n w p with
    | nil =>
      refine ⟨[], Nat.zero_le _, by unfold okRow; rw [he]; rfl, ?_⟩
      have ht : stT (dSt m n w p acc) = M.ret false := by
        refine tV_ret (f2_ret rfl rfl ?_)
        rw [dNe_nil (mv_shs _), he]
        rfl
      rw [while_end ht, List.append_nil]
      rfl
    | cons q r =>
      have hq : q ∈ moves m n w p := by rw [he]; exact List.mem_cons_self
      have hr := move_rows hp hq
      obtain ⟨j, t, rfl, hj, ht, hv⟩ := mem_moves.mp hq
      have hset : p.set ((j : Int), (t : Int)).1.toNat ((j : Int), (t : Int)).2 = p.set j (t : Int) := by simp
      rw [hset] at hr
      obtain ⟨row, h1, h2, h3⟩ := ih f (acc ++ [((j : Int), (t : Int))]) (p.set j (t : Int)) hr (by omega) (by omega) (by rw [List.length_append]; simp; omega)
      refine ⟨((j : Int), (t : Int)) :: row, by rw [List.length_cons]; omega, ?_, ?_⟩
      · unfold okRow
        rw [hset, h2, List.contains_iff_mem.mpr hq]
        rfl
      · have ht' : stT (dSt m n w p acc) = M.ret true := by
          refine tV_ret (f2_ret rfl rfl ?_)
          rw [dNe_nil (mv_shs _), he]
          rfl
        have e0 : f2 dIx (gv 4) (fun _ => M.ret (.int 0)) (dSt m n w p acc) = M.ret (mvD ((j : Int), (t : Int))) := by
          refine f2_ret (x := .lst ((moves m n w p).map mvD)) rfl rfl ?_
          rw [he]
          exact ix_head
        have e1 : fApp 3 (f2 dIx (gv 4) (fun _ => M.ret (.int 0))) (dSt m n w p acc) = M.ret (.nx [some (.d (WW m w)), some (.d (.int n)), some (.d (tuI p)), some (.own ((acc ++ [((j : Int), (t : Int))]).map mvD)), some (.d (.lst ((moves m n w p).map mvD)))]) := by
          rw [app_ret rfl e0 (by rw [List.length_map]; omega), List.map_append]
          rfl
        have e0' : f2 dIx (gv 4) (fun _ => M.ret (.int 0)) [some (.d (WW m w)), some (.d (.int n)), some (.d (tuI p)), some (.own ((acc ++ [((j : Int), (t : Int))]).map mvD)), some (.d (.lst ((moves m n w p).map mvD)))] = M.ret (mvD ((j : Int), (t : Int))) := by
          refine f2_ret (x := .lst ((moves m n w p).map mvD)) rfl rfl ?_
          rw [he]
          exact ix_head
        have hlen := (mem_rows.mp hp).1
        have e2 : fSet 2 (fCall m_move_done 3 (fCons (gv 2) (fCons (f2 dIx (f2 dIx (gv 4) (fun _ => M.ret (.int 0))) (fun _ => M.ret (.int 0))) (fCons (f2 dIx (f2 dIx (gv 4) (fun _ => M.ret (.int 0))) (fun _ => M.ret (.int 1))) fNil)))) [some (.d (WW m w)), some (.d (.int n)), some (.d (tuI p)), some (.own ((acc ++ [((j : Int), (t : Int))]).map mvD)), some (.d (.lst ((moves m n w p).map mvD)))] =
            M.ret (.nx [some (.d (WW m w)), some (.d (.int n)), some (.d (tuI (p.set j (t : Int)))), some (.own ((acc ++ [((j : Int), (t : Int))]).map mvD)), some (.d (.lst ((moves m n w p).map mvD)))]) :=
          set_ret ((call_ret (ds := [tuI p, .int j, .int t]) (cons_ret rfl (cons_ret (f2_ret e0' rfl rfl) (cons_ret (f2_ret e0' rfl rfl) rfl))) rfl).trans (moveDone (by omega) (by omega) _))
        have e3 : fSet 4 (fCall m_better_moves 3 (fCons (gv 0) (fCons (gv 1) (fCons (gv 2) fNil)))) [some (.d (WW m w)), some (.d (.int n)), some (.d (tuI (p.set j (t : Int)))), some (.own ((acc ++ [((j : Int), (t : Int))]).map mvD)), some (.d (.lst ((moves m n w p).map mvD)))] = M.ret (.nx (dSt m n w (p.set j (t : Int)) (acc ++ [((j : Int), (t : Int))]))) :=
          set_ret ((call_ret (ds := [WW m w, .int n, tuI (p.set j (t : Int))]) rfl rfl).trans (betterMoves hm hn w hr))
        rw [while_step ht' ((seq_ret e1).trans ((seq_ret e2).trans e3)), h3]
        unfold lastP
        rw [List.foldl_cons, hset, List.append_assoc]
        rfl
include hm hn in
theorem settling (h : Fine w) {p : List Int} (hp : p ∈ rowsOf n m) : ∃ row : List (Int × Int), row.length ≤ 150 ∧ okRow m n w row p = true ∧ m_settling [WW m w, .int n, tuI p] = M.ret (.tup (row.map mvD)) := by
  have hv := val_bd (n := n) h p
  obtain ⟨row, h1, h2, h3⟩ := settle hm hn h 150 1000000 [] p hp (by omega) (by decide) (by decide)
  refine ⟨row, h1, h2, fn_ret rfl ?_⟩
  have e1 : fExpr (fCall m_check_settling 3 (fCons (gv 0) (fCons (gv 1) (fCons (gv 2) fNil)))) (startD 5 [WW m w, .int n, tuI p]) = M.ret (.nx (startD 5 [WW m w, .int n, tuI p])) := expr_ret (d := .non) (checkSettling hm hn h hp)
  have e2 : fPar2 3 4 true false (fLst fNil) (fCall m_better_moves 3 (fCons (gv 0) (fCons (gv 1) (fCons (gv 2) fNil)))) (startD 5 [WW m w, .int n, tuI p]) = M.ret (.nx (dSt m n w p [])) := parO2_ret rfl ((call_ret (ds := [WW m w, .int n, tuI p]) rfl rfl).trans (betterMoves hm hn w hp))
  exact (seq_ret e1).trans ((seq_ret e2).trans ((seq_ret h3).trans (ret_ret rfl)))
def isMv (m n : Nat) (q : Int × Int) : Bool := decide (0 ≤ q.1) && decide (q.1 < m) && decide (0 ≤ q.2) && decide (q.2 < n)
theorem isMv_of {p : List Int} {q : Int × Int} (h : q ∈ moves m n w p) : isMv m n q = true := by
  obtain ⟨j, t, rfl, hj, ht, _⟩ := mem_moves.mp h
  unfold isMv
  simp
  omega
theorem okRow_mv : ∀ (v : List (Int × Int)) (p : List Int), okRow m n w v p = true → v.all (isMv m n) = true
  | [], _, _ => rfl
  | q :: r, p, h => by
    unfold okRow at h
    rw [Bool.and_eq_true, List.contains_iff_mem] at h
    rw [List.all_cons, isMv_of h.1, okRow_mv r _ h.2]
    rfl
include hm hn in
theorem isMove (q : Int × Int) : m_is_move [WW m w, .int n, mvD q] = M.ret (.bl (isMv m n q)) := by
  obtain ⟨j, t⟩ := q
  refine fn_ret rfl ?_
  have hmx : dMax (.int m) (.int n) = M.ret (.int (if (n : Int) > m then n else m)) := rfl
  have e1 : m_are_between [mvD (j, t), .int 0, .int ((if (n : Int) > m then (n : Int) else m) - 1)] = M.ret (D.bl ((decide (0 ≤ j) && decide (j ≤ (if (n : Int) > m then (n : Int) else m) - 1)) && (decide (0 ≤ t) && decide (t ≤ (if (n : Int) > m then (n : Int) else m) - 1)))) := by
    show m_are_between [tuI [j, t], _, _] = _
    rw [areBetween]
    simp
  have t1 : (tOr' (tNt (tV (fCall m_are_between 3 (fCons (gv 2) (fCons (fun _ => M.ret (.int 0)) (fCons (f2 dSub (f2 dMax (f2 dIx (gv 0) (fun _ => M.ret (.int 0))) (gv 1)) (fun _ => M.ret (.int 1))) fNil)))))) (tV (f2 dNe (f1 dLen (gv 2)) (fun _ => M.ret (.int 2))))) (startD 3 [WW m w, .int n, mvD (j, t)]) = M.ret (!((decide (0 ≤ j) && decide (j ≤ (if (n : Int) > m then (n : Int) else m) - 1)) && (decide (0 ≤ t) && decide (t ≤ (if (n : Int) > m then (n : Int) else m) - 1)))) := by
    have t2 := tNt_ret (tV_ret ((call_ret (m := m_are_between) (n := 3) (δ := startD 3 [WW m w, .int n, mvD (j, t)]) (fr := fCons (gv 2) (fCons (fun _ => M.ret (.int 0)) (fCons (f2 dSub (f2 dMax (f2 dIx (gv 0) (fun _ => M.ret (.int 0))) (gv 1)) (fun _ => M.ret (.int 1))) fNil))) (cons_ret rfl (cons_ret rfl (cons_ret (f2_ret (f2_ret rfl rfl hmx) rfl rfl) rfl))) rfl).trans e1))
    cases hb : ((decide (0 ≤ j) && decide (j ≤ (if (n : Int) > m then (n : Int) else m) - 1)) && (decide (0 ≤ t) && decide (t ≤ (if (n : Int) > m then (n : Int) else m) - 1))) with
    | true =>
      rw [hb] at t2
      exact (tOr_false t2).trans (tV_ret (f2_ret (f1_ret rfl rfl) rfl rfl))
    | false =>
      rw [hb] at t2
      exact tOr_true t2
  have e2 : fAnd (f2 dLt (f2 dIx (gv 2) (fun _ => M.ret (.int 0))) (f2 dIx (gv 0) (fun _ => M.ret (.int 0)))) (f2 dLt (f2 dIx (gv 2) (fun _ => M.ret (.int 1))) (gv 1)) (startD 3 [WW m w, .int n, mvD (j, t)]) = M.ret (.bl (decide (j < m) && decide (t < n))) := by
    have a : f2 dLt (f2 dIx (gv 2) (fun _ => M.ret (.int 0))) (f2 dIx (gv 0) (fun _ => M.ret (.int 0))) (startD 3 [WW m w, .int n, mvD (j, t)]) = M.ret (.bl (decide (j < m))) := rfl
    cases hj : decide (j < (m : Int)) with
    | true =>
      rw [hj] at a
      exact (fAnd_true a).trans rfl
    | false =>
      rw [hj] at a
      exact fAnd_false a
  cases hb : ((decide (0 ≤ j) && decide (j ≤ (if (n : Int) > m then (n : Int) else m) - 1)) && (decide (0 ≤ t) && decide (t ≤ (if (n : Int) > m then (n : Int) else m) - 1))) with
  | true =>
    rw [hb] at t1
    refine (seq_ret ((ifS_false t1).trans rfl)).trans (ret_ret (e2.trans ?_))
    unfold isMv
    simp at hb
    congr 2
    rw [decide_eq_true hb.1.1, decide_eq_true hb.2.1]
    simp
  | false =>
    rw [hb] at t1
    refine (seq_rt ((ifS_true t1).trans rfl)).trans ?_
    have : isMv m n (j, t) = false := by
      rw [← Bool.not_eq_true]
      unfold isMv
      simp
      intro a b c
      rw [← Bool.not_eq_true] at hb
      simp at hb
      split at hb <;> omega
    rw [this]
/-- the walk along a row: where it ends, or that it is refused -/
def seqOk (m n : Nat) (w : List Int → Int) : List (Int × Int) → List Int → Bool
  | [], _ => true
  | q :: r, p => (moves m n w p).contains q && seqOk m n w r (p.set q.1.toNat q.2)
theorem okRow_seq : ∀ (v : List (Int × Int)) (p : List Int), okRow m n w v p = (seqOk m n w v p && (moves m n w (lastP p v)).isEmpty)
  | [], p => by unfold okRow seqOk lastP; rfl
  | q :: r, p => by
    unfold okRow seqOk lastP
    rw [okRow_seq r, Bool.and_assoc, List.foldl_cons]
    rfl
theorem seq_rows : ∀ (v : List (Int × Int)) (p : List Int), p ∈ rowsOf n m → seqOk m n w v p = true → lastP p v ∈ rowsOf n m
  | [], p, hp, _ => hp
  | q :: r, p, hp, h => by
    unfold seqOk at h
    rw [Bool.and_eq_true, List.contains_iff_mem] at h
    unfold lastP
    rw [List.foldl_cons]
    exact seq_rows r _ (move_rows hp h.1) h.2
abbrev swF : Δ → M Fl := (fSeq (fIfS (tNt (tV (fCall m_is_better 5 (fCons (gv 0) (fCons (gv 1) (fCons (gv 2) (fCons (gv 4) (fCons (gv 5) fNil))))))))
    (fRet (fun _ => M.ret (.bl false)))
    fNx)
    (fSet 2 (fCall m_move_done 3 (fCons (gv 2) (fCons (gv 4) (fCons (gv 5) fNil))))))
abbrev swG : D → Δ → Option Δ := ggTup 2 (ggCons (ggName 4) (ggCons (ggName 5) ggNil))
include hm hn in
theorem swLoop (V : D) : ∀ (v : List (Int × Int)) (p : List Int) (x y : Option Slot), p ∈ rowsOf n m → v.all (isMv m n) = true → ∃ x' y', loopM swG swF (v.map mvD) [some (.d (WW m w)), some (.d (.int n)), some (.d (tuI p)), some (.d V), x, y, none] = M.ret (if seqOk m n w v p = true then .nx [some (.d (WW m w)), some (.d (.int n)), some (.d (tuI (lastP p v))), some (.d V), x', y', none] else .rt (.bl false))
  | [], p, x, y, hp, _ => ⟨x, y, rfl⟩
  | q :: r, p, x, y, hp, hv => by
    rw [List.all_cons, Bool.and_eq_true] at hv
    have hq := hv.1
    unfold isMv at hq
    simp at hq
    obtain ⟨a, b⟩ := q
    obtain ⟨j, rfl⟩ := Int.eq_ofNat_of_zero_le hq.1.1.1
    obtain ⟨t, rfl⟩ := Int.eq_ofNat_of_zero_le hq.1.2
    have hj : j < m := by omega
    have ht : t < n := by omega
    have hlen := (mem_rows.mp hp).1
    have e1 := isBetter hm hn w hp hj ht
    have hset : p.set ((j : Int), (t : Int)).1.toNat ((j : Int), (t : Int)).2 = p.set j (t : Int) := by simp
    have hc : (moves m n w p).contains ((j : Int), (t : Int)) = decide (val n w p < val n w (p.set j (t : Int))) := by
      rw [Bool.eq_iff_iff, decide_eq_true_iff, List.contains_iff_mem, mem_moves]
      constructor
      · rintro ⟨a, b, e, _, _, hv⟩
        injection e with e1 e2
        have e1 : j = a := by omega
        have e2 : t = b := by omega
        subst e1 e2
        exact hv
      · intro hv
        exact ⟨j, t, rfl, hj, ht, hv⟩
    have t1 : tNt (tV (fCall m_is_better 5 (fCons (gv 0) (fCons (gv 1) (fCons (gv 2) (fCons (gv 4) (fCons (gv 5) fNil))))))) [some (.d (WW m w)), some (.d (.int n)), some (.d (tuI p)), some (.d V), some (.d (.int j)), some (.d (.int t)), none] = M.ret (!(moves m n w p).contains ((j : Int), (t : Int))) := by
      rw [hc]
      exact tNt_ret (tV_ret e1)
    rw [List.map_cons]
    unfold loopM
    show ∃ x' y', M.bind (swF [some (.d (WW m w)), some (.d (.int n)), some (.d (tuI p)), some (.d V), some (.d (.int j)), some (.d (.int t)), none]) _ = _
    unfold seqOk
    rw [hset]
    cases hb : (moves m n w p).contains ((j : Int), (t : Int)) with
    | true =>
      rw [hb] at t1
      obtain ⟨x', y', e⟩ := swLoop V r (p.set j (t : Int)) (some (.d (.int j))) (some (.d (.int t))) (set_rows hp ht) hv.2
      refine ⟨x', y', ?_⟩
      have e2 : swF [some (.d (WW m w)), some (.d (.int n)), some (.d (tuI p)), some (.d V), some (.d (.int j)), some (.d (.int t)), none] = M.ret (.nx [some (.d (WW m w)), some (.d (.int n)), some (.d (tuI (p.set j (t : Int)))), some (.d V), some (.d (.int j)), some (.d (.int t)), none]) :=
        (seq_ret ((ifS_false t1).trans rfl)).trans (set_ret (moveDone (by omega) (by omega) _))
      rw [e2, Bool.true_and]
      unfold lastP
      rw [List.foldl_cons, hset]
      exact e
    | false =>
      rw [hb] at t1
      refine ⟨none, none, ?_⟩
      have e2 : swF [some (.d (WW m w)), some (.d (.int n)), some (.d (tuI p)), some (.d V), some (.d (.int j)), some (.d (.int t)), none] = M.ret (.rt (.bl false)) := seq_rt ((ifS_true t1).trans rfl)
      rw [e2]
      rfl
include hm hn in
theorem showsSettling (h : Fine w) {p : List Int} (hp : p ∈ rowsOf n m) (v : List (Int × Int)) : m_shows_settling [WW m w, .int n, tuI p, .tup (v.map mvD)] = M.ret (.bl (okRow m n w v p)) := by
  refine fn_ret rfl ?_
  have e1 : fExpr (fCall m_check_settling 3 (fCons (gv 0) (fCons (gv 1) (fCons (gv 2) fNil)))) (startD 7 [WW m w, .int n, tuI p, .tup (v.map mvD)]) = M.ret (.nx (startD 7 [WW m w, .int n, tuI p, .tup (v.map mvD)])) := expr_ret (d := .non) (checkSettling hm hn h hp)
  refine (seq_ret e1).trans ?_
  have t1 : (tOr' (tNt (tV (f1 (dIsi "tuple") (gv 3)))) (tNt (tV (f1 dAll (fLc (iSeq (gv 3)) (ggName 6) tYesM (fCall m_is_move 3 (fCons (gv 0) (fCons (gv 1) (fCons (gv 6) fNil)))) [6]))))) (startD 7 [WW m w, .int n, tuI p, .tup (v.map mvD)]) = M.ret (!v.all (isMv m n)) := by
    refine (tOr_false (tNt_ret (b := true) (tV_ret (f1_ret (x := .tup (v.map mvD)) (δ := startD 7 [WW m w, .int n, tuI p, .tup (v.map mvD)]) rfl rfl)))).trans (tNt_ret (tV_ret ?_))
    exact lc_all (emb := mvD) (xs := v) (p := isMv m n) (seqT_ret rfl) fun q _ => ⟨_, rfl, isMove hm hn q⟩
  cases hv : v.all (isMv m n) with
  | false =>
    rw [hv] at t1
    refine (seq_rt ((ifS_true t1).trans rfl)).trans ?_
    have : okRow m n w v p = false := by
      rw [← Bool.not_eq_true]
      intro z
      rw [okRow_mv v p z] at hv
      cases hv
    rw [this]
  | true =>
    rw [hv] at t1
    obtain ⟨x', y', e2⟩ := swLoop (w := w) hm hn (.tup (v.map mvD)) v p none none hp hv
    have e3 := for_ret (fi := iSeq (gv 3)) (δ := startD 7 [WW m w, .int n, tuI p, .tup (v.map mvD)]) (seqT_ret rfl) e2
    refine (seq_ret ((ifS_false t1).trans rfl)).trans ?_
    rw [okRow_seq]
    cases hs : seqOk m n w v p with
    | false =>
      rw [hs] at e3
      exact seq_rt e3
    | true =>
      rw [hs] at e3
      refine (seq_ret e3).trans (ret_ret (f2_ret ((call_ret (ds := [WW m w, .int n, tuI (lastP p v)]) rfl rfl).trans (betterMoves hm hn w (seq_rows v p hp hs))) rfl ?_))
      rw [dEq_nil (mv_shs _), Bool.true_and]
      cases moves m n w (lastP p v) <;> rfl
end
end K06

set_option Elab.async false
set_option linter.all false
set_option maxRecDepth 100000
set_option maxHeartbeats 4000000
/-! K06P10: the law's look at rows of moves; values that are none -/
namespace K06
open PySem PySem.Spec PyProof.Rows L2 DL
section
variable {m n : Nat} (hm : 1 ≤ m ∧ m ≤ 5) (hn : 1 ≤ n ∧ n ≤ 3) {w : List Int → Int}
abbrev lwT : Δ → M Bool := (tOr' (tNt (tV (f1 (dIsi "tuple") (gv 4)))) (tOr' (tV (f2 dNe (f1 dLen (gv 4)) (fun _ => M.ret (.int 2)))) (tNt (tV (f1 dAll (fLc (iSeq (gv 4)) (ggName 5) tYesM (fAnd (f1 (dIsi "int") (gv 5)) (f1 dNot (f1 (dIsi "bool") (gv 5)))) [5]))))))
abbrev lwF : Δ → M Fl := (fSeq (fIfS lwT
    (fRet (fun _ => M.ret (.bl false)))
    fNx)
    (fSeq (fIfS (tV (f2 dNotIn (gv 4) (fCall m__law_better 3 (fCons (gv 0) (fCons (gv 1) (fCons (gv 2) fNil))))))
    (fRet (fun _ => M.ret (.bl false)))
    fNx)
    (fSet 1 (fCall m__law_done 3 (fCons (gv 1) (fCons (f2 dIx (gv 4) (fun _ => M.ret (.int 0))) (fCons (f2 dIx (gv 4) (fun _ => M.ret (.int 1))) fNil)))))))
include hm hn in
theorem lwLoop (V : D) : ∀ (v : List (Int × Int)) (p : List Int) (x : Option Slot), p ∈ rowsOf n m → ∃ x', loopM (ggName 4) lwF (v.map mvD) [some (.d (tabD m w)), some (.d (tuI p)), some (.d (.int n)), some (.d V), x, none] = M.ret (if seqOk m n w v p = true then .nx [some (.d (tabD m w)), some (.d (tuI (lastP p v))), some (.d (.int n)), some (.d V), x', none] else .rt (.bl false))
  | [], p, x, hp => ⟨x, rfl⟩
  | q :: r, p, x, hp => by
    have t1 : lwT [some (.d (tabD m w)), some (.d (tuI p)), some (.d (.int n)), some (.d V), some (.d (mvD q)), none] = M.ret false := by
      funext S
      kernel_rfl
    have t2 : tV (f2 dNotIn (gv 4) (fCall m__law_better 3 (fCons (gv 0) (fCons (gv 1) (fCons (gv 2) fNil))))) [some (.d (tabD m w)), some (.d (tuI p)), some (.d (.int n)), some (.d V), some (.d (mvD q)), none] = M.ret (!(moves m n w p).contains q) :=
      tV_ret (f2_ret (x := mvD q) rfl ((call_ret (ds := [tabD m w, tuI p, .int n]) rfl rfl).trans (lawBetter hm hn w hp)) (mv_notIn q.1 q.2 _))
    rw [List.map_cons]
    unfold loopM
    show ∃ x', M.bind (lwF [some (.d (tabD m w)), some (.d (tuI p)), some (.d (.int n)), some (.d V), some (.d (mvD q)), none]) _ = _
    unfold seqOk
    cases hb : (moves m n w p).contains q with
    | true =>
      rw [hb] at t2
      have hq : q ∈ moves m n w p := List.contains_iff_mem.mp hb
      have hr := move_rows hp hq
      obtain ⟨x', e⟩ := lwLoop V r (p.set q.1.toNat q.2) (some (.d (mvD q))) hr
      refine ⟨x', ?_⟩
      obtain ⟨j, t, rfl, hj, ht, hv⟩ := mem_moves.mp hq
      have hlen := (mem_rows.mp hp).1
      have e2 : lwF [some (.d (tabD m w)), some (.d (tuI p)), some (.d (.int n)), some (.d V), some (.d (mvD ((j : Int), (t : Int)))), none] = M.ret (.nx [some (.d (tabD m w)), some (.d (tuI (p.set j (t : Int)))), some (.d (.int n)), some (.d V), some (.d (mvD ((j : Int), (t : Int)))), none]) :=
        (seq_ret ((ifS_false t1).trans rfl)).trans ((seq_ret ((ifS_false t2).trans rfl)).trans (set_ret (lawDone (by omega) (by omega) _)))
      have hset : p.set ((j : Int), (t : Int)).1.toNat ((j : Int), (t : Int)).2 = p.set j (t : Int) := by simp
      rw [hset] at e ⊢
      rw [e2, Bool.true_and]
      unfold lastP
      rw [List.foldl_cons, hset]
      exact e
    | false =>
      rw [hb] at t2
      refine ⟨none, ?_⟩
      have e2 : lwF [some (.d (tabD m w)), some (.d (tuI p)), some (.d (.int n)), some (.d V), some (.d (mvD q)), none] = M.ret (.rt (.bl false)) := (seq_ret ((ifS_false t1).trans rfl)).trans (seq_rt ((ifS_true t2).trans rfl))
      rw [e2]
      rfl
include hm hn in
theorem lawIsRow {p : List Int} (hp : p ∈ rowsOf n m) (v : List (Int × Int)) : m__law_is_row [tabD m w, tuI p, .int n, .tup (v.map mvD)] = M.ret (.bl (okRow m n w v p)) := by
  refine fn_ret rfl ?_
  have t1 : tNt (tV (f1 (dIsi "tuple") (gv 3))) (startD 6 [tabD m w, tuI p, .int n, .tup (v.map mvD)]) = M.ret false := tNt_ret (b := true) (tV_ret (f1_ret (x := .tup (v.map mvD)) rfl rfl))
  refine (seq_ret ((ifS_false t1).trans rfl)).trans ?_
  obtain ⟨x', e2⟩ := lwLoop (w := w) hm hn (.tup (v.map mvD)) v p none hp
  have e3 := for_ret (fi := iSeq (gv 3)) (δ := startD 6 [tabD m w, tuI p, .int n, .tup (v.map mvD)]) (seqT_ret rfl) e2
  rw [okRow_seq]
  cases hs : seqOk m n w v p with
  | false =>
    rw [hs] at e3
    exact seq_rt e3
  | true =>
    rw [hs] at e3
    refine (seq_ret e3).trans (ret_ret (f2_ret ((call_ret (ds := [tabD m w, tuI (lastP p v), .int n]) rfl rfl).trans (lawBetter hm hn w (seq_rows v p hp hs))) rfl ?_))
    rw [dEq_nil (mv_shs _), Bool.true_and]
    cases moves m n w (lastP p v) <;> rfl
/-- values that are no rows of pairs -/
def badV : List D := [.non, .tup [.tup [.int 0]], .tup [.non], .tup [.tup [.bl true, .int 0]]]
abbrev ssRest : Δ → M Bool := (tOr' (tNt (tV (f1 (dIsi "tuple") (gv 3)))) (tNt (tV (f1 dAll (fLc (iSeq (gv 3)) (ggName 6) tYesM (fCall m_is_move 3 (fCons (gv 0) (fCons (gv 1) (fCons (gv 6) fNil)))) [6])))))
include hm hn in
theorem showsSt1 (h : Fine w) {p : List Int} (hp : p ∈ rowsOf n m) {v : D} (e : ssRest (startD 7 [WW m w, .int n, tuI p, v]) = M.ret true) : m_shows_settling [WW m w, .int n, tuI p, v] = M.ret (.bl false) := by
  refine fn_ret rfl ?_
  have e1 : fExpr (fCall m_check_settling 3 (fCons (gv 0) (fCons (gv 1) (fCons (gv 2) fNil)))) (startD 7 [WW m w, .int n, tuI p, v]) = M.ret (.nx (startD 7 [WW m w, .int n, tuI p, v])) := expr_ret (d := .non) (checkSettling hm hn h hp)
  exact (seq_ret e1).trans (seq_rt ((ifS_true e).trans rfl))
include hm hn in
theorem badBoth (h : Fine w) {p : List Int} (hp : p ∈ rowsOf n m) {v : D} (hv : v ∈ badV) : m_shows_settling [WW m w, .int n, tuI p, v] = M.ret (.bl false) ∧ m__law_is_row [tabD m w, tuI p, .int n, v] = M.ret (.bl false) := by
  unfold badV at hv
  simp only [List.mem_cons, List.not_mem_nil, or_false] at hv
  rcases hv with rfl | rfl | rfl | rfl
  · exact ⟨showsSt1 hm hn h hp (by funext S; kernel_rfl), by funext S; kernel_rfl⟩
  · refine ⟨showsSt1 hm hn h hp ?_, by funext S; kernel_rfl⟩
    rcases five hm with rfl | rfl | rfl | rfl | rfl <;> rcases three hn with rfl | rfl | rfl <;> (funext S; kernel_rfl)
  · refine ⟨showsSt1 hm hn h hp ?_, by funext S; kernel_rfl⟩
    rcases five hm with rfl | rfl | rfl | rfl | rfl <;> rcases three hn with rfl | rfl | rfl <;> (funext S; kernel_rfl)
  · refine ⟨showsSt1 hm hn h hp ?_, by funext S; kernel_rfl⟩
    rcases five hm with rfl | rfl | rfl | rfl | rfl <;> rcases three hn with rfl | rfl | rfl <;> (funext S; kernel_rfl)
include hm hn in
theorem badList (h : Fine w) {p : List Int} (hp : p ∈ rowsOf n m) (xs : List D) : m_shows_settling [WW m w, .int n, tuI p, .lst xs] = M.ret (.bl false) ∧ m__law_is_row [tabD m w, tuI p, .int n, .lst xs] = M.ret (.bl false) :=
  ⟨showsSt1 hm hn h hp (by funext S; kernel_rfl), by funext S; kernel_rfl⟩
include hm hn in
/-- moved -/
theorem movedP (h : Fine w) {p : List Int} (hp : p ∈ rowsOf n m) {j t : Nat} (hj : j < m) (ht : t < n) : m_moved [WW m w, .int n, tuI p, .int j, .int t] = M.ret (tuI (p.set j (t : Int))) := by
  have hlen := (mem_rows.mp hp).1
  refine fn_ret rfl ?_
  refine (seq_ret (expr_ret (d := .non) ?_)).trans ((seq_ret (expr_ret (d := .non) ?_)).trans ((seq_ret (expr_ret (d := .non) ?_)).trans ((seq_ret ((ifS_false (tNt_ret (b := true) (tV_ret ?_))).trans rfl)).trans (ret_ret ?_))))
  · exact checkWorths hm h
  · exact checkPlan hn w hp
  · show m_check_post [.int m, .int j] = _
    refine fn_non (δ := startD 2 [.int m, .int j]) rfl ((ifS_false (tNt_ret (b := true) (tV_ret ?_))).trans rfl)
    show m_is_between [.int j, .int 0, .int ((m : Int) - 1)] = _
    rw [isBetween, decide_eq_true (by omega), decide_eq_true (by omega)]
    rfl
  · show m_is_between [.int t, .int 0, .int ((n : Int) - 1)] = _
    rw [isBetween, decide_eq_true (by omega), decide_eq_true (by omega)]
    rfl
  · exact moveDone (by omega) (by omega) _
end
end K06

set_option Elab.async false
set_option linter.all false
set_option maxRecDepth 100000
set_option maxHeartbeats 4000000
/-! K06P11: greed -/
namespace K06
open PySem PySem.Spec PyProof.Rows L2 DL PySem.W
theorem range_split {m : Nat} {p q : List Nat} {j : Nat} (h : List.range m = p ++ j :: q) : j = p.length ∧ j < m := by
  have h1 : (List.range m)[p.length]? = some j := by
    rw [h, List.getElem?_append_right (Nat.le_refl _), Nat.sub_self]
    rfl
  have h2 : j ∈ List.range m := by rw [h]; simp
  have h3 := List.mem_range.mp h2
  obtain ⟨h4, h5⟩ := List.getElem?_eq_some_iff.mp h1
  rw [List.getElem_range] at h5
  exact ⟨h5.symm, h3⟩
/-- where a plan has a night -/
def nightP (p : List Int) (k : Int) : Int → Bool := fun i => decide (i < p.length) && p.getD i.toNat 0 == k
theorem filter_below (g : Int → Bool) {l : Nat} : ∀ {m : Nat}, l ≤ m → ((List.range m).map fun i : Nat => (i : Int)).filter (fun i => decide (i < (l : Int)) && g i) = ((List.range l).map fun i : Nat => (i : Int)).filter g
  | 0, h => by
    have : l = 0 := by omega
    subst this
    rfl
  | m + 1, h => by
    by_cases e : l = m + 1
    · subst e
      refine List.filter_congr fun i hi => ?_
      obtain ⟨j, hj, rfl⟩ := List.mem_map.mp hi
      have := List.mem_range.mp hj
      rw [decide_eq_true (by omega)]
      rfl
    · rw [List.range_succ, List.map_append, List.filter_append, filter_below g (by omega), List.map_cons, List.map_nil, List.filter_cons_of_neg (by
        rw [Bool.and_eq_true, decide_eq_true_iff]
        omega), List.filter_nil, List.append_nil]
theorem lotsBy_lotP {n m : Nat} {p : List Int} (h : p.length ≤ m) : lotsBy n p = (List.range n).map fun k : Nat => lotP m (nightP p (k : Int)) := by
  unfold lotsBy lotP posts nightP
  exact List.map_congr_left fun k _ => (filter_below _ h).symm
theorem lotP_mem {m : Nat} (hm : 1 ≤ m ∧ m ≤ 5) (P : Int → Bool) : lotP m P ∈ lots m := by
  have f : ∀ (x : Int) (xs : List Int), (x :: xs).filter P = if P x = true then x :: xs.filter P else xs.filter P := fun x xs => List.filter_cons
  rcases five hm with rfl | rfl | rfl | rfl | rfl
  · show [(0 : Int)].filter P ∈ _
    simp only [f, List.filter_nil]
    cases P 0 <;> decide
  · show [(0 : Int), 1].filter P ∈ _
    simp only [f, List.filter_nil]
    cases P 0 <;> cases P 1 <;> decide
  · show [(0 : Int), 1, 2].filter P ∈ _
    simp only [f, List.filter_nil]
    cases P 0 <;> cases P 1 <;> cases P 2 <;> decide
  · show [(0 : Int), 1, 2, 3].filter P ∈ _
    simp only [f, List.filter_nil]
    cases P 0 <;> cases P 1 <;> cases P 2 <;> cases P 3 <;> decide
  · show [(0 : Int), 1, 2, 3, 4].filter P ∈ _
    simp only [f, List.filter_nil]
    cases P 0 <;> cases P 1 <;> cases P 2 <;> cases P 3 <;> cases P 4 <;> decide
theorem ins_last : ∀ {l : List Int} {j : Int}, (∀ x ∈ l, x < j) → wp l j = l ++ [j]
  | [], j, _ => rfl
  | x :: l, j, h => by
    have ih := ins_last (l := l) (j := j) fun y hy => h y (List.mem_cons_of_mem _ hy)
    have hx := h x List.mem_cons_self
    unfold wp at ih ⊢
    show ins (fun a b => decide (a ≤ b)) j (x :: l) = _
    unfold ins
    rw [decide_eq_false (by omega)]
    dsimp only
    rw [ih]
    rfl
theorem lotP_below {m j : Nat} (hj : j ≤ m) {P : Int → Bool} (hP : ∀ i, P i = true → i < j) : lotP m P = lotP j P := by
  unfold lotP posts
  rw [← filter_below P hj]
  refine List.filter_congr fun i _ => ?_
  cases h : P i
  · rw [Bool.and_false]
  · rw [decide_eq_true (hP i h)]
    rfl
theorem wp_lotP {m j : Nat} (hj : j < m) {P : Int → Bool} (hP : ∀ i, P i = true → i < j) : wp (lotP m P) j = lotP m (addP P j) := by
  have hl : ∀ x ∈ lotP m P, x < (j : Int) := fun x hx => hP x (List.mem_filter.mp hx).2
  rw [ins_last hl, lotP_below (m := m) (j := j) (by omega) hP, lotP_below (m := m) (j := j + 1) hj (P := addP P j) fun i h => by
    unfold addP at h
    rw [Bool.or_eq_true] at h
    rcases h with h | h
    · have := hP i h
      omega
    · have : i = j := by simpa using h
      omega]
  unfold lotP posts
  rw [List.range_succ, List.map_append, List.filter_append]
  congr 1
  · refine List.filter_congr fun i hi => ?_
    obtain ⟨a, ha, rfl⟩ := List.mem_map.mp hi
    have := List.mem_range.mp ha
    unfold addP
    have : ((a : Int) == (j : Int)) = false := by
      rw [beq_eq_false_iff_ne]
      omega
    rw [this, Bool.or_false]
  · unfold addP
    simp
theorem night_lt {p : List Int} {k i : Int} (h : nightP p k i = true) : i < p.length := by
  unfold nightP at h
  rw [Bool.and_eq_true, decide_eq_true_iff] at h
  exact h.1
def PL (m : Nat) : List (List Int × Int) := (lots m).flatMap fun l => ((posts m).filter fun j => l.all fun x => decide (x < j)).map fun j => (l, j)
theorem mem_PL {m j : Nat} {l : List Int} (hl : l ∈ lots m) (hj : j < m) (h : ∀ x ∈ l, x < (j : Int)) : (l, (j : Int)) ∈ PL m :=
  List.mem_flatMap.mpr ⟨l, hl, List.mem_map.mpr ⟨(j : Int), List.mem_filter.mpr ⟨List.mem_map.mpr ⟨j, List.mem_range.mpr hj, rfl⟩, List.all_eq_true.mpr fun x hx => decide_eq_true (h x hx)⟩, rfl⟩⟩
theorem withPost {m j : Nat} (hm : 1 ≤ m ∧ m ≤ 5) {l : List Int} (hl : l ∈ lots m) (hj : j < m) (h : ∀ x ∈ l, x < (j : Int)) : m_with_post [tuI l, .int j] = M.ret (tuI (wp l j)) := by
  refine mem_eq (f := fun q : List Int × Int => m_with_post [tuI q.1, .int q.2]) (g := fun q => M.ret (tuI (wp q.1 q.2))) (xs := PL m) ?_ (mem_PL hl hj h)
  rcases five hm with rfl | rfl | rfl | rfl | rfl <;> kernel_rfl
theorem lawWith {m j : Nat} (hm : 1 ≤ m ∧ m ≤ 5) {l : List Int} (hl : l ∈ lots m) (hj : j < m) (h : ∀ x ∈ l, x < (j : Int)) : dSortI (.tup (l.map D.int ++ [.int j])) = M.ret (.lst ((wp l j).map D.int)) := by
  refine mem_eq (f := fun q : List Int × Int => dSortI (.tup (q.1.map D.int ++ [.int q.2]))) (g := fun q => M.ret (.lst ((wp q.1 q.2).map D.int))) (xs := PL m) ?_ (mem_PL hl hj h)
  rcases five hm with rfl | rfl | rfl | rfl | rfl <;> kernel_rfl
/-- the first place of the greatest -/
def amax (xs : List Int) : Nat := (xs.findIdx? (· == maxL xs)).getD 0
theorem amax_some {xs : List Int} (h : xs ≠ []) : xs.findIdx? (· == maxL xs) = some (amax xs) ∧ amax xs < xs.length ∧ xs[amax xs]? = some (maxL xs) := by
  have hm := maxL_mem h
  unfold amax
  cases e : xs.findIdx? (· == maxL xs) with
  | none =>
    rw [List.findIdx?_eq_none_iff] at e
    have := e _ hm
    simp at this
  | some i =>
    rw [List.findIdx?_eq_some_iff_getElem] at e
    obtain ⟨hi, hv, _⟩ := e
    refine ⟨rfl, hi, ?_⟩
    show xs[i]? = _
    rw [List.getElem?_eq_getElem hi]
    congr 1
    simpa using hv
theorem bt_rows (x k y l : Int) : btMin (.tup [.int x, .int k]) (.tup [.int y, .int l]) = decide (x < y ∨ (x = y ∧ k < l)) := dataLt_ii x k y l
theorem minRows : ∀ hs : List Int, 1 ≤ hs.length → hs.length ≤ 3 → ∃ x : Int, dMin1 (.lst (hs.zipIdx.map fun q => .tup [.int (0 - q.1), .int (q.2 : Nat)])) = M.ret (.tup [.int x, .int (amax hs : Nat)])
  | [a], _, _ => ⟨0 - a, by
    have : amax [a] = 0 := by simp [amax, maxL, maxI]
    rw [this]
    rfl⟩
  | [a, b], _, _ => by
    have e : dMin1 (.lst ([a, b].zipIdx.map fun q => .tup [.int (0 - q.1), .int (q.2 : Nat)])) = M.ret (bestD btMin (.tup [.int (0 - a), .int 0]) [.tup [.int (0 - b), .int 1]]) := rfl
    rw [e]
    unfold bestD
    simp only [List.foldl_cons, List.foldl_nil, bt_rows]
    by_cases h1 : a < b
    · refine ⟨0 - b, ?_⟩
      have : amax [a, b] = 1 := by
        have : ¬ a = b := by omega
        simp [amax, maxL, maxI, List.findIdx?_cons, h1, this]
      rw [this, if_pos (decide_eq_true (by omega))]
      rfl
    · refine ⟨0 - a, ?_⟩
      have : amax [a, b] = 0 := by
        simp [amax, maxL, maxI, List.findIdx?_cons, h1]
      rw [this, if_neg (by rw [decide_eq_true_iff]; omega)]
      rfl
  | [a, b, c], _, _ => by
    have e : dMin1 (.lst ([a, b, c].zipIdx.map fun q => .tup [.int (0 - q.1), .int (q.2 : Nat)])) = M.ret (if btMin (.tup [.int (0 - c), .int 2]) (if btMin (.tup [.int (0 - b), .int 1]) (.tup [.int (0 - a), .int 0]) = true then .tup [.int (0 - b), .int 1] else .tup [.int (0 - a), .int 0]) = true then .tup [.int (0 - c), .int 2] else (if btMin (.tup [.int (0 - b), .int 1]) (.tup [.int (0 - a), .int 0]) = true then .tup [.int (0 - b), .int 1] else .tup [.int (0 - a), .int 0])) := rfl
    rw [e]
    by_cases h1 : a < b
    · have b1 : (if btMin (.tup [.int (0 - b), .int 1]) (.tup [.int (0 - a), .int 0]) = true then D.tup [.int (0 - b), .int 1] else .tup [.int (0 - a), .int 0]) = .tup [.int (0 - b), .int 1] := if_pos (by rw [bt_rows, decide_eq_true_iff]; omega)
      rw [b1]
      by_cases h2 : b < c
      · refine ⟨0 - c, ?_⟩
        have : amax [a, b, c] = 2 := by
          have n1 : ¬ a = c := by omega
          have n2 : ¬ b = c := by omega
          simp [amax, maxL, maxI, List.findIdx?_cons, h1, h2, n1, n2]
        rw [this, if_pos (by rw [bt_rows, decide_eq_true_iff]; omega)]
        rfl
      · refine ⟨0 - b, ?_⟩
        have : amax [a, b, c] = 1 := by
          have n1 : ¬ a = b := by omega
          simp [amax, maxL, maxI, List.findIdx?_cons, h1, h2, n1]
        rw [this, if_neg (by rw [bt_rows, decide_eq_true_iff]; omega)]
        rfl
    · have b1 : (if btMin (.tup [.int (0 - b), .int 1]) (.tup [.int (0 - a), .int 0]) = true then D.tup [.int (0 - b), .int 1] else .tup [.int (0 - a), .int 0]) = .tup [.int (0 - a), .int 0] := if_neg (by rw [bt_rows, decide_eq_true_iff]; omega)
      rw [b1]
      by_cases h2 : a < c
      · refine ⟨0 - c, ?_⟩
        have : amax [a, b, c] = 2 := by
          have n1 : ¬ a = c := by omega
          have n2 : ¬ b = c := by omega
          simp [amax, maxL, maxI, List.findIdx?_cons, h1, h2, n1, n2]
        rw [this, if_pos (by rw [bt_rows, decide_eq_true_iff]; omega)]
        rfl
      · refine ⟨0 - a, ?_⟩
        have : amax [a, b, c] = 0 := by
          simp [amax, maxL, maxI, List.findIdx?_cons, h1, h2]
        rw [this, if_neg (by rw [bt_rows, decide_eq_true_iff]; omega)]
        rfl
  | [], h, _ => absurd h (by decide)
  | _ :: _ :: _ :: _ :: _, _, h => absurd h (by simp)
/-- what a post adds, night by night; the plan that greed makes -/
def gains (n : Nat) (w : List Int → Int) (p : List Int) (j : Nat) : List Int := (lotsBy n p).map fun l => w (wp l j) - w l
def gre (n : Nat) (w : List Int → Int) : Nat → List Int
  | 0 => []
  | j + 1 => gre n w j ++ [(amax (gains n w (gre n w j) j) : Int)]
theorem gains_len (n : Nat) (w : List Int → Int) (p : List Int) (j : Nat) : (gains n w p j).length = n := by
  unfold gains lotsBy
  rw [List.length_map, List.length_map, List.length_range]
theorem gains_ne {n : Nat} (hn : 1 ≤ n) (w : List Int → Int) (p : List Int) (j : Nat) : gains n w p j ≠ [] := fun e => by
  have := gains_len n w p j
  rw [e] at this
  simp at this
  omega
theorem gre_rows {n : Nat} (hn : 1 ≤ n) (w : List Int → Int) : ∀ j : Nat, gre n w j ∈ rowsOf n j
  | 0 => List.mem_cons_self
  | j + 1 => by
    obtain ⟨h1, h2⟩ := mem_rows.mp (gre_rows hn w j)
    unfold gre
    refine mem_rows.mpr ⟨by rw [List.length_append, h1]; rfl, fun x hx => ?_⟩
    rcases List.mem_append.mp hx with hx | hx
    · exact h2 x hx
    · rw [List.mem_singleton] at hx
      have := (amax_some (gains_ne hn w (gre n w j) j)).2.1
      rw [gains_len] at this
      omega
theorem gre_len {n : Nat} (hn : 1 ≤ n) (w : List Int → Int) (j : Nat) : (gre n w j).length = j := (mem_rows.mp (gre_rows hn w j)).1
section
variable {m n : Nat} (hm : 1 ≤ m ∧ m ≤ 5) (hn : 1 ≤ n ∧ n ≤ 3) {w : List Int → Int}
include hm in
theorem lot_ok {p : List Int} {j : Nat} (hp : p.length = j) (hj : j < m) {l : List Int} (hl : l ∈ lotsBy n p) : l ∈ lots m ∧ (∀ x ∈ l, x < (j : Int)) ∧ wp l j ∈ lots m := by
  rw [lotsBy_lotP (m := m) (by omega)] at hl
  obtain ⟨k, _, rfl⟩ := List.mem_map.mp hl
  have hP : ∀ i, nightP p (k : Int) i = true → i < (j : Int) := fun i h => by
    have := night_lt h
    omega
  refine ⟨lotP_mem hm _, fun x hx => hP x (List.mem_filter.mp hx).2, ?_⟩
  rw [wp_lotP hj hP]
  exact lotP_mem hm _
theorem amax_eq {xs : List Int} (h : xs ≠ []) : (xs.map D.int).findIdx? (fun z => z.eqv (.int (maxL xs))) = some (amax xs) := by
  rw [List.findIdx?_map]
  exact (amax_some h).1
theorem zip_tuI (ls : List (List Int)) : ((ls.map tuI).zipIdx.map fun p => D.tup [.int (p.2 : Nat), p.1]) = ls.zipIdx.map fun q => .tup [.int (q.2 : Nat), tuI q.1] := by
  rw [List.zipIdx_map, List.map_map]
  rfl
abbrev dG (m n : Nat) (w : List Int → Int) (x : Option Slot) (p : List Int) (y : Option Slot) : Δ := [some (.d (WW m w)), some (.d (.int n)), x, some (.d (tabD m w)), some (.d (.lst ((lotsBy n p).map tuI))), some (.own (p.map D.int)), y, none, none]
abbrev gF : Δ → M Fl := (fSeq (fSet 6 (fLc (iEnum (gv 4)) (ggTup 2 (ggCons (ggName 7) (ggCons (ggName 8) ggNil))) tYesM (fTup (fCons (f2 dSub (f2 dIx (gv 3) (gv 8)) (f2 dIx (gv 3) (fCall m_with_post 2 (fCons (gv 8) (fCons (gv 2) fNil))))) (fCons (gv 7) fNil))) [7, 8]))
    (fSeq (fApp 5 (f2 dIx (f1 dMin1 (gv 6)) (fun _ => M.ret (.int 1))))
    (fSet 4 (fCallB m_lots_by 2 5 (fCons (gv 1) (fCons (gb 5) fNil))))))
theorem flat_tuI : ∀ l : List Int, (tuI l).flat = true := fun l => by
  unfold tuI D.flat
  induction l with
  | nil => rfl
  | cons x l ih =>
    rw [List.map_cons]
    unfold D.flats
    rw [ih]
    rfl
theorem flats_tuI : ∀ ls : List (List Int), D.flats (ls.map tuI) = true
  | [] => rfl
  | l :: ls => by
    rw [List.map_cons]
    unfold D.flats
    rw [flat_tuI, flats_tuI ls]
    rfl
/-- lent -/
theorem callB_ret {mm : List D → M D} {k i : Nat} {fr : Δ → M (List D)} {δ : Δ} {es ds : List D} {d : D} {S : Store} (h : δ[i]? = some (some (.own es))) (hf : fr δ = M.ret ds) (hl : ds.length = k) (hm : mm ds = M.ret d) (hc : okB es d = true) (hS : S.all SO.flat = true) : fCallB mm k i fr δ S = .ok d S := by
  unfold fCallB
  rw [own_of h]
  dsimp only
  rw [hf, M.ret_bind, if_pos hl, hm]
  show bChk es d S = _
  unfold bChk
  rw [hS, hc]
  rfl
include hm hn in
theorem gTurn {p : List Int} {j : Nat} (hp : p ∈ rowsOf n j) (hj : j < m) (y : Option Slot) {S : Store} (hS : S.all SO.flat = true) : ∃ y', gF (dG m n w (some (.d (.int j))) p y) S = .ok (.nx (dG m n w (some (.d (.int j))) (p ++ [(amax (gains n w p j) : Int)]) y')) S := by
  have hpl := (mem_rows.mp hp).1
  have e1 : fLc (iEnum (gv 4)) (ggTup 2 (ggCons (ggName 7) (ggCons (ggName 8) ggNil))) tYesM (fTup (fCons (f2 dSub (f2 dIx (gv 3) (gv 8)) (f2 dIx (gv 3) (fCall m_with_post 2 (fCons (gv 8) (fCons (gv 2) fNil))))) (fCons (gv 7) fNil))) [7, 8] (dG m n w (some (.d (.int j))) p y) = M.ret (.lst ((gains n w p j).zipIdx.map fun q => .tup [.int (0 - q.1), .int (q.2 : Nat)])) := by
    have ez : (gains n w p j).zipIdx = (lotsBy n p).zipIdx.map fun q => (w (wp q.1 j) - w q.1, q.2) := by
      unfold gains
      rw [List.zipIdx_map]
      rfl
    rw [ez, List.map_map]
    refine fLc_mapA (emb := fun q : List Int × Nat => .tup [.int (q.2 : Nat), tuI q.1]) ((enumL_ret rfl).trans (congrArg M.ret (zip_tuI _))) fun q hq => ⟨_, rfl, ?_⟩
    have hq1 : q.1 ∈ lotsBy n p := by
      obtain ⟨l, k⟩ := q
      exact (List.mem_zipIdx_iff_getElem?.mp hq |> fun h => List.mem_of_getElem? h)
    obtain ⟨h1, h2, h3⟩ := lot_ok hm hpl hj hq1
    refine fTup_ret (ds := [.int (0 - (w (wp q.1 j) - w q.1)), .int (q.2 : Nat)]) (cons_ret (f2_ret (f2_ret rfl rfl (tabIx hm h1)) (f2_ret rfl ((call_ret (ds := [tuI q.1, .int j]) rfl rfl).trans (withPost hm h1 hj h2)) (tabIx hm h3)) ?_) rfl) (by decide : 2 ≤ 1000)
    show M.ret (D.int (w q.1 - w (wp q.1 j))) = _
    congr 2
    omega
  obtain ⟨x, e2⟩ := minRows (gains n w p j) (by rw [gains_len]; exact hn.1) (by rw [gains_len]; exact hn.2)
  refine ⟨some (.d (.lst ((gains n w p j).zipIdx.map fun q => .tup [.int (0 - q.1), .int (q.2 : Nat)]))), ?_⟩
  unfold gF
  rw [seq_ret (set_ret e1)]
  have e3 : fApp 5 (f2 dIx (f1 dMin1 (gv 6)) (fun _ => M.ret (.int 1))) (dG m n w (some (.d (.int j))) p (some (.d (.lst ((gains n w p j).zipIdx.map fun q => .tup [.int (0 - q.1), .int (q.2 : Nat)]))))) = M.ret (.nx [some (.d (WW m w)), some (.d (.int n)), some (.d (.int j)), some (.d (tabD m w)), some (.d (.lst ((lotsBy n p).map tuI))), some (.own ((p ++ [(amax (gains n w p j) : Int)]).map D.int)), some (.d (.lst ((gains n w p j).zipIdx.map fun q => .tup [.int (0 - q.1), .int (q.2 : Nat)]))), none, none]) := by
    rw [app_ret rfl (f2_ret (f1_ret rfl e2) rfl rfl) (by rw [List.length_map]; omega), List.map_append]
    rfl
  show fSeq _ _ (dG m n w (some (.d (.int j))) p (some (.d (.lst ((gains n w p j).zipIdx.map fun q => .tup [.int (0 - q.1), .int (q.2 : Nat)]))))) S = _
  rw [seq_ret e3]
  have hp' : p ++ [(amax (gains n w p j) : Int)] ∈ rowsOf n (j + 1) := by
    obtain ⟨h1, h2⟩ := mem_rows.mp hp
    refine mem_rows.mpr ⟨by rw [List.length_append, h1]; rfl, fun x hx => ?_⟩
    rcases List.mem_append.mp hx with hx | hx
    · exact h2 x hx
    · rw [List.mem_singleton] at hx
      have := (amax_some (gains_ne hn.1 w p j)).2.1
      rw [gains_len] at this
      omega
  have hd : okB ((p ++ [(amax (gains n w p j) : Int)]).map D.int) (.lst ((lotsBy n (p ++ [(amax (gains n w p j) : Int)])).map tuI)) = true := by
    show (D.flats _ && (_ != _ || _)) = true
    rw [flats_tuI, Bool.true_and, Bool.or_eq_true]
    right
    have hne : lotsBy n (p ++ [(amax (gains n w p j) : Int)]) ≠ [] := fun e => by
      have := congrArg List.length e
      unfold lotsBy at this
      rw [List.length_map, List.length_range] at this
      simp at this
      omega
    obtain ⟨l, ls, e⟩ := List.exists_cons_of_ne_nil hne
    obtain ⟨x, xs, e'⟩ := List.exists_cons_of_ne_nil (show p ++ [(amax (gains n w p j) : Int)] ≠ [] by simp)
    rw [e, e']
    rfl
  have e4 : fCallB m_lots_by 2 5 (fCons (gv 1) (fCons (gb 5) fNil)) [some (.d (WW m w)), some (.d (.int n)), some (.d (.int j)), some (.d (tabD m w)), some (.d (.lst ((lotsBy n p).map tuI))), some (.own ((p ++ [(amax (gains n w p j) : Int)]).map D.int)), some (.d (.lst ((gains n w p j).zipIdx.map fun q => .tup [.int (0 - q.1), .int (q.2 : Nat)]))), none, none] S = .ok (.lst ((lotsBy n (p ++ [(amax (gains n w p j) : Int)])).map tuI)) S :=
    callB_ret rfl rfl rfl (lotsByL (m := j + 1) (by omega) hn hp') hd hS
  exact set_ok e4
include hm hn in
theorem gLoop : ∀ (k j : Nat) (x y : Option Slot), j + k = m → ∀ {S : Store}, S.all SO.flat = true → ∃ x' y', loopM (ggName 2) gF ((List.range' j k).map fun i : Nat => D.int i) (dG m n w x (gre n w j) y) S = .ok (.nx (dG m n w x' (gre n w m) y')) S
  | 0, j, x, y, h, S, hS => by
    have : j = m := by omega
    subst this
    exact ⟨x, y, rfl⟩
  | k + 1, j, x, y, h, S, hS => by
    obtain ⟨y1, e⟩ := gTurn (w := w) hm hn (gre_rows hn.1 w j) (show j < m by omega) y hS
    obtain ⟨x', y', e2⟩ := gLoop k (j + 1) (some (.d (.int j))) y1 (by omega) hS
    refine ⟨x', y', ?_⟩
    rw [List.range'_succ, List.map_cons]
    unfold loopM
    show M.bind (gF (dG m n w (some (.d (.int j))) (gre n w j) y)) _ S = _
    rw [M.bind_ok e]
    exact e2
include hm hn in
theorem greedyP (h : Fine w) {S : Store} (hS : S.all SO.flat = true) : m_greedy_plan [WW m w, .int n] S = .ok (tuI (gre n w m)) S := by
  have e1 : fExpr (fCall m_check_asked 2 (fCons (gv 0) (fCons (gv 1) fNil))) (startD 9 [WW m w, .int n]) = M.ret (.nx (startD 9 [WW m w, .int n])) := expr_ret (d := .non) (checkAsked hm hn h)
  have e2 : fPar3 3 4 5 false false true (fCall m_table_of 1 (fCons (gv 0) fNil)) (f2 dRepL (fLst (fCons (fTup fNil) fNil)) (gv 1)) (fLst fNil) (startD 9 [WW m w, .int n]) = M.ret (.nx (dG m n w none [] none)) := by
    unfold fPar3
    rw [show fCall m_table_of 1 (fCons (gv 0) fNil) (startD 9 [WW m w, .int n]) = M.ret (tabD m w) from tableP hm w, M.ret_bind]
    rcases three hn with rfl | rfl | rfl <;> rfl
  obtain ⟨x', y', e3⟩ := gLoop (w := w) hm hn m 0 none none (by omega) hS
  rw [← List.range_eq_range'] at e3
  have e4 : fFor (iRange1 (f2 dIx (gv 0) (fun _ => M.ret (.int 0)))) (ggName 2) gF (dG m n w none [] none) S = .ok (.nx (dG m n w x' (gre n w m) y')) S := by
    unfold fFor
    rw [range_nat (m := m) (by omega) rfl, M.ret_bind]
    exact e3
  show M.quiet (M.bind (b_greedy_plan (startD 9 [WW m w, .int n])) endM) S = _
  have e5 : b_greedy_plan (startD 9 [WW m w, .int n]) S = .ok (.rt (tuI (gre n w m))) S := by
    unfold b_greedy_plan
    rw [seq_ret e1, seq_ret e2]
    exact (seq_ok e4).trans rfl
  unfold M.quiet
  rw [M.bind_ok e5]
  rfl
abbrev lF : Δ → M Fl := (fSeq (fSet 5 (fLc (iSeq (fCall m__law_nights 2 (fCons (gv 3) (fCons (gv 2) fNil)))) (ggName 6) tYesM (f2 dSub (f2 dIx (gv 0) (f1 dTup (f1 dSortI (f2 dAdd (gv 6) (fTup (fCons (gv 4) fNil)))))) (f2 dIx (gv 0) (gv 6))) [6]))
    (fSet 3 (f2 dAdd (gv 3) (fTup (fCons (f1 dInt (fIndex (gv 5) (f1 dMax1 (gv 5)))) fNil)))))
abbrev dL (m n : Nat) (w : List Int → Int) (p : List Int) (x y : Option Slot) : Δ := [some (.d (tabD m w)), some (.d (.int m)), some (.d (.int n)), some (.d (tuI p)), x, y, none]
include hm hn in
theorem lTurn {p : List Int} {j : Nat} (hp : p ∈ rowsOf n j) (hj : j < m) (y : Option Slot) : ∃ y', lF (dL m n w p (some (.d (.int j))) y) = M.ret (.nx (dL m n w (p ++ [(amax (gains n w p j) : Int)]) (some (.d (.int j))) y')) := by
  have hpl := (mem_rows.mp hp).1
  have e1 : fLc (iSeq (fCall m__law_nights 2 (fCons (gv 3) (fCons (gv 2) fNil)))) (ggName 6) tYesM (f2 dSub (f2 dIx (gv 0) (f1 dTup (f1 dSortI (f2 dAdd (gv 6) (fTup (fCons (gv 4) fNil)))))) (f2 dIx (gv 0) (gv 6))) [6] (dL m n w p (some (.d (.int j))) y) = M.ret (.lst ((gains n w p j).map D.int)) := by
    unfold gains
    rw [List.map_map]
    refine fLc_mapA (emb := tuI) (seqL_ret ((call_ret (ds := [tuI p, .int n]) rfl rfl).trans (lawNights (m := j) (by omega) hn hp))) fun l hl => ⟨[some (.d (tabD m w)), some (.d (.int m)), some (.d (.int n)), some (.d (tuI p)), some (.d (.int j)), y, some (.d (tuI l))], rfl, ?_⟩
    obtain ⟨h1, h2, h3⟩ := lot_ok hm hpl hj hl
    have e2 : f2 dAdd (gv 6) (fTup (fCons (gv 4) fNil)) [some (.d (tabD m w)), some (.d (.int m)), some (.d (.int n)), some (.d (tuI p)), some (.d (.int j)), y, some (.d (tuI l))] = M.ret (.tup (l.map D.int ++ [.int j])) := by
      refine f2_ret rfl rfl (add_tup ?_)
      rw [List.length_map]
      have := lots_small m l h1
      exact Nat.le_trans (show l.length + 1 ≤ 6 by omega) (by decide)
    exact f2_ret (f2_ret rfl (f1_ret (f1_ret e2 (lawWith hm h1 hj h2)) rfl) (tabIx hm h3)) (f2_ret rfl rfl (tabIx hm h1)) rfl
  have hne := gains_ne hn.1 w p j
  refine ⟨some (.d (.lst ((gains n w p j).map D.int))), (seq_ret (set_ret e1)).trans ?_⟩
  have e3 : fIndex (gv 5) (f1 dMax1 (gv 5)) (dL m n w p (some (.d (.int j))) (some (.d (.lst ((gains n w p j).map D.int))))) = M.ret (.int (amax (gains n w p j))) := by
    unfold fIndex
    show M.bind (f1 dMax1 (gv 5) (dL m n w p (some (.d (.int j))) (some (.d (.lst ((gains n w p j).map D.int)))))) _ = _
    rw [f1_ret (x := .lst ((gains n w p j).map D.int)) rfl (dMax1_ints hne), M.ret_bind]
    unfold dIndex
    have h1 : (D.lst ((gains n w p j).map D.int)).sh 64 = true := by unfold D.sh; exact shs_ints 63 _
    rw [h1, sh_int, amax_eq hne]
    rfl
  have e4 : fTup (fCons (f1 dInt (fIndex (gv 5) (f1 dMax1 (gv 5)))) fNil) (dL m n w p (some (.d (.int j))) (some (.d (.lst ((gains n w p j).map D.int))))) = M.ret (.tup [.int (amax (gains n w p j))]) := fTup_ret (cons_ret (f1_ret e3 rfl) rfl) (by decide : 1 ≤ 1000)
  refine (set_ret (f2_ret (z := tuI (p ++ [(amax (gains n w p j) : Int)])) rfl e4 ?_)).trans rfl
  unfold tuI
  rw [List.map_append]
  refine add_tup ?_
  rw [List.length_map]
  exact Nat.le_trans (show p.length + 1 ≤ 6 by omega) (by decide)
include hm hn in
theorem lLoop : ∀ (k j : Nat) (x y : Option Slot), j + k = m → ∃ x' y', loopM (ggName 4) lF ((List.range' j k).map fun i : Nat => D.int i) (dL m n w (gre n w j) x y) = M.ret (.nx (dL m n w (gre n w m) x' y'))
  | 0, j, x, y, h => by
    have : j = m := by omega
    subst this
    exact ⟨x, y, rfl⟩
  | k + 1, j, x, y, h => by
    obtain ⟨y1, e⟩ := lTurn (w := w) hm hn (gre_rows hn.1 w j) (show j < m by omega) y
    obtain ⟨x', y', e2⟩ := lLoop k (j + 1) (some (.d (.int j))) y1 (by omega)
    refine ⟨x', y', ?_⟩
    rw [List.range'_succ, List.map_cons]
    unfold loopM
    show M.bind (lF (dL m n w (gre n w j) (some (.d (.int j))) y)) _ = _
    rw [e]
    exact e2
include hm hn in
theorem lawGreedy : m__law_greedy [tabD m w, .int m, .int n] = M.ret (tuI (gre n w m)) := by
  refine fn_ret rfl ?_
  have e1 : fSet 3 (fTup fNil) (startD 7 [tabD m w, .int m, .int n]) = M.ret (.nx (dL m n w [] none none)) := rfl
  obtain ⟨x', y', e3⟩ := lLoop (w := w) hm hn m 0 none none (by omega)
  rw [← List.range_eq_range'] at e3
  exact (seq_ret e1).trans ((seq_ret (for_ret (range_nat (m := m) (by omega) rfl) e3)).trans rfl)
end
end K06

set_option Elab.async false
set_option linter.all false
set_option maxRecDepth 100000
set_option maxHeartbeats 4000000
/-! K06P12: half of the best, by moves and by greed -/
namespace K06
open PySem PySem.Spec PyProof.Rows L2 DL PySem.W
def nts (n : Nat) : List Int := (List.range n).map fun k : Nat => (k : Int)
theorem nodup_cast (n : Nat) : ((List.range n).map fun k : Nat => (k : Int)).Nodup := by
  rw [List.nodup_iff_pairwise_ne, List.pairwise_map]
  exact (List.nodup_iff_pairwise_ne.mp List.nodup_range).imp fun h e => h (by omega)
def atP (p : List Int) (i : Int) : Int := p.getD i.toNat 0
theorem atP_mem {n m : Nat} {p : List Int} (hp : p ∈ rowsOf n m) : ∀ i ∈ posts m, atP p i ∈ nts n := fun i hi => by
  obtain ⟨h1, h2⟩ := mem_rows.mp hp
  obtain ⟨j, hj, rfl⟩ := List.mem_map.mp hi
  have hj := List.mem_range.mp hj
  have hlt : j < p.length := by omega
  have e : atP p (j : Int) = p[j] := by
    unfold atP
    rw [Int.toNat_natCast, List.getD_eq_getElem?_getD, List.getElem?_eq_getElem hlt]
    rfl
  have := h2 _ (List.getElem_mem hlt)
  rw [e]
  exact List.mem_map.mpr ⟨p[j].toNat, List.mem_range.mpr (by omega), by omega⟩
theorem valF {n m : Nat} {w : List Int → Int} {p : List Int} (hp : p ∈ rowsOf n m) : val n w p = ((nts n).map fun k => w (lotP m fun i => atP p i == k)).sum := by
  have h1 := (mem_rows.mp hp).1
  unfold val each lotsBy nts lotP posts atP
  rw [List.map_map, List.map_map, h1]
  rfl
theorem sum_one {g g' : Int → Int} {a : Int} : ∀ {ns : List Int}, ns.Nodup → a ∈ ns → (∀ x ∈ ns, x ≠ a → g' x = g x) → (ns.map g').sum + g a = (ns.map g).sum + g' a
  | x :: ns, hn, ha, h => by
    rw [List.nodup_cons] at hn
    rw [List.map_cons, List.map_cons, List.sum_cons, List.sum_cons]
    by_cases e : x = a
    · subst e
      have : ns.map g' = ns.map g := List.map_congr_left fun y hy => h y (List.mem_cons_of_mem _ hy) fun z => hn.1 (z ▸ hy)
      rw [this]
      omega
    · have ih := sum_one (g := g) (g' := g') hn.2 ((List.mem_cons.mp ha).resolve_left fun z => e z.symm) fun y hy => h y (List.mem_cons_of_mem _ hy)
      have := h x List.mem_cons_self e
      omega
theorem sum_two {g g' : Int → Int} {a b : Int} {ns : List Int} (hn : ns.Nodup) (ha : a ∈ ns) (hb : b ∈ ns) (hab : a ≠ b) (h : ∀ x ∈ ns, x ≠ a → x ≠ b → g' x = g x) : (ns.map g').sum + g a + g b = (ns.map g).sum + g' a + g' b := by
  have h1 := sum_one (g := g) (g' := fun x => if x = a then g' a else g x) hn ha fun x _ hx => if_neg hx
  have h2 := sum_one (g := fun x => if x = a then g' a else g x) (g' := g') hn hb fun x hx hxb => by
    by_cases e : x = a
    · subst e
      rw [if_pos rfl]
    · rw [if_neg e]
      exact h x hx e hxb
  rw [if_pos rfl] at h1
  rw [if_neg (fun z => hab z.symm)] at h2
  omega
theorem atP_set {p : List Int} {j : Nat} (hj : j < p.length) (k : Int) {i : Nat} : atP (p.set j k) (i : Int) = if i = j then k else atP p (i : Int) := by
  unfold atP
  rw [Int.toNat_natCast, List.getD_eq_getElem?_getD, List.getElem?_set, List.getD_eq_getElem?_getD]
  by_cases e : i = j
  · subst e
    rw [if_pos rfl, if_pos hj, if_pos rfl]
    rfl
  · rw [if_neg (fun z => e z.symm), if_neg e]
section
variable {m n : Nat} {w : List Int → Int} (h : Fine w)
include h in
theorem settledHalf {p o : List Int} (hp : p ∈ rowsOf n m) (ho : o ∈ rowsOf n m) (hs : moves m n w p = []) : val n w o ≤ 2 * val n w p := by
  rw [valF hp, valF ho]
  refine (h.sub m).settled (nodup_cast m) (nodup_cast n) (atP_mem hp) (atP_mem ho) fun i hi k hk hne => ?_
  obtain ⟨j, hj, rfl⟩ := List.mem_map.mp hi
  obtain ⟨t, ht, rfl⟩ := List.mem_map.mp hk
  have hj := List.mem_range.mp hj
  have ht := List.mem_range.mp ht
  have hlen := (mem_rows.mp hp).1
  have hv : ¬ val n w p < val n w (p.set j (t : Int)) := fun hv => by
    have : ((j : Int), (t : Int)) ∈ moves m n w p := mem_moves.mpr ⟨j, t, rfl, hj, ht, hv⟩
    rw [hs] at this
    cases this
  rw [valF hp, valF (set_rows hp ht)] at hv
  have ext : ∀ P Q : Int → Bool, (∀ i : Nat, i < m → P (i : Int) = Q (i : Int)) → w (lotP m P) = w (lotP m Q) := fun P Q e => (h.sub m).ext fun i hi => by
    obtain ⟨a, ha, rfl⟩ := List.mem_map.mp hi
    exact e a (List.mem_range.mp ha)
  have h2 := sum_two (g := fun k => w (lotP m fun i => atP p i == k)) (g' := fun k => w (lotP m fun i => atP (p.set j (t : Int)) i == k)) (nodup_cast n) (a := (t : Int)) (b := atP p (j : Int)) hk (atP_mem hp _ hi) hne (fun x _ hx1 hx2 => ext _ _ fun i hi => by
    rw [atP_set (by omega)]
    by_cases e : i = j
    · subst e
      rw [if_pos rfl]
      have a1 : ((t : Int) == x) = false := by rw [beq_eq_false_iff_ne]; exact fun z => hx1 z.symm
      have a2 : (atP p (i : Int) == x) = false := by rw [beq_eq_false_iff_ne]; exact fun z => hx2 z.symm
      rw [a1, a2]
    · rw [if_neg e])
  have h3 : w (lotP m fun i => atP (p.set j (t : Int)) i == (t : Int)) = w (lotP m (addP (fun i => atP p i == (t : Int)) (j : Int))) := ext _ _ fun i hi => by
    unfold addP
    rw [atP_set (by omega)]
    by_cases e : i = j
    · subst e
      rw [if_pos rfl]
      simp
    · rw [if_neg e]
      have : ((i : Int) == (j : Int)) = false := by rw [beq_eq_false_iff_ne]; omega
      rw [this, Bool.or_false]
  have h4 : w (lotP m fun i => atP (p.set j (t : Int)) i == atP p (j : Int)) = w (lotP m (delP (fun i => atP p i == atP p (j : Int)) (j : Int))) := ext _ _ fun i hi => by
    unfold delP
    rw [atP_set (by omega)]
    by_cases e : i = j
    · subst e
      rw [if_pos rfl]
      have a1 : ((t : Int) == atP p (i : Int)) = false := by rw [beq_eq_false_iff_ne]; exact hne
      rw [a1]
      simp
    · rw [if_neg e]
      have : ((i : Int) != (j : Int)) = true := by rw [bne_iff_ne]; omega
      rw [this, Bool.and_true]
  have h2' : ((nts n).map fun k => w (lotP m fun i => atP (p.set j (t : Int)) i == k)).sum + w (lotP m fun i => atP p i == (t : Int)) + w (lotP m fun i => atP p i == atP p (j : Int)) = ((nts n).map fun k => w (lotP m fun i => atP p i == k)).sum + w (lotP m fun i => atP (p.set j (t : Int)) i == (t : Int)) + w (lotP m fun i => atP (p.set j (t : Int)) i == atP p (j : Int)) := h2
  rw [h3, h4] at h2'
  show w (lotP m (addP (fun i => atP p i == (t : Int)) (j : Int))) + w (lotP m (delP (fun i => atP p i == atP p (j : Int)) (j : Int))) ≤ w (lotP m fun i => atP p i == (t : Int)) + w (lotP m fun i => atP p i == atP p (j : Int))
  omega
/-- what greed adds, post by post -/
def cG (n : Nat) (w : List Int → Int) (i : Int) : Int := maxL (gains n w (gre n w i.toNat) i.toNat)
theorem sum_ite (c : Nat → Int) {t : Nat} : ∀ {ks : List Nat}, ks.Nodup → t ∈ ks → (ks.map fun k => if t = k then c k else 0).sum = c t
  | k :: ks, hn, ht => by
    rw [List.nodup_cons] at hn
    rw [List.map_cons, List.sum_cons]
    by_cases e : t = k
    · subst e
      rw [if_pos rfl, sum_zero (f := fun k => if t = k then c k else 0) (xs := ks) fun x hx => if_neg fun z : t = x => hn.1 (z ▸ hx)]
      omega
    · rw [if_neg e, sum_ite c hn.2 ((List.mem_cons.mp ht).resolve_left e)]
      omega
theorem val_push (hm : 1 ≤ m ∧ m ≤ 5) {p : List Int} {j : Nat} (hp : p ∈ rowsOf n j) {t : Nat} (ht : t < n) : val n w (p ++ [(t : Int)]) = val n w p + (gains n w p j).getD t 0 := by
  have hl := (mem_rows.mp hp).1
  have e1 : lotsBy n (p ++ [(t : Int)]) = (List.range n).map fun k : Nat => (((List.range j).map fun i : Nat => (i : Int)).filter fun i => p.getD i.toNat 0 == (k : Int)) ++ if t = k then [(j : Int)] else [] := by
    unfold lotsBy
    rw [List.length_append, hl, List.length_singleton, List.range_succ]
    refine List.map_congr_left fun k _ => ?_
    rw [List.map_append, List.filter_append]
    congr 1
    · refine List.filter_congr fun i hi => ?_
      obtain ⟨a, ha, rfl⟩ := List.mem_map.mp hi
      have ha := List.mem_range.mp ha
      rw [Int.toNat_natCast, List.getD_eq_getElem?_getD, List.getElem?_append_left (by omega), List.getD_eq_getElem?_getD]
    · rw [List.map_singleton]
      have : ((p ++ [(t : Int)]).getD (j : Int).toNat 0 == (k : Int)) = decide (t = k) := by
        rw [Int.toNat_natCast, List.getD_eq_getElem?_getD, List.getElem?_append_right (by omega), hl, Nat.sub_self, Bool.eq_iff_iff, beq_iff_eq, decide_eq_true_iff]
        simp
        omega
      rw [List.filter_cons, this, List.filter_nil]
      by_cases e : t = k
      · rw [if_pos (decide_eq_true e), if_pos e]
      · rw [if_neg (by rw [decide_eq_true_iff]; exact e), if_neg e]
  have e2 : lotsBy n p = (List.range n).map fun k : Nat => ((List.range j).map fun i : Nat => (i : Int)).filter fun i => p.getD i.toNat 0 == (k : Int) := by
    unfold lotsBy
    rw [hl]
  have e3 : (gains n w p j).getD t 0 = w (wp (((List.range j).map fun i : Nat => (i : Int)).filter fun i => p.getD i.toNat 0 == (t : Int)) j) - w (((List.range j).map fun i : Nat => (i : Int)).filter fun i => p.getD i.toNat 0 == (t : Int)) := by
    unfold gains
    rw [e2, List.map_map, List.getD_eq_getElem?_getD, List.getElem?_map, List.getElem?_range ht]
    rfl
  unfold val each
  rw [e1, e2, e3, List.map_map, List.map_map]
  have hw : ∀ k : Nat, wp (((List.range j).map fun i : Nat => (i : Int)).filter fun i => p.getD i.toNat 0 == (k : Int)) j = (((List.range j).map fun i : Nat => (i : Int)).filter fun i => p.getD i.toNat 0 == (k : Int)) ++ [(j : Int)] := fun k => ins_last fun x hx => by
    obtain ⟨a, ha, rfl⟩ := List.mem_map.mp (List.mem_filter.mp hx).1
    have := List.mem_range.mp ha
    omega
  rw [← sum_ite (fun k : Nat => w (wp (((List.range j).map fun i : Nat => (i : Int)).filter fun i => p.getD i.toNat 0 == (k : Int)) j) - w (((List.range j).map fun i : Nat => (i : Int)).filter fun i => p.getD i.toNat 0 == (k : Int))) List.nodup_range (List.mem_range.mpr ht), ← sum_add]
  congr 1
  refine List.map_congr_left fun k _ => ?_
  show w (_ ++ if t = k then [(j : Int)] else []) = w _ + if t = k then _ else 0
  by_cases e : t = k
  · subst e
    rw [if_pos rfl, if_pos rfl, hw]
    have hab : ∀ a b : Int, a = b + (a - b) := fun a b => by omega
    exact hab _ _
  · rw [if_neg e, if_neg e, List.append_nil]
    exact (Int.add_zero _).symm
theorem val_gre (hm : 1 ≤ m ∧ m ≤ 5) (hn : 1 ≤ n) : ∀ j : Nat, val n w (gre n w j) = (((List.range j).map fun i : Nat => (i : Int)).map (cG n w)).sum + n * w []
  | 0 => by
    have e : lotsBy n ([] : List Int) = (List.range n).map fun _ => [] := rfl
    unfold val each gre
    rw [e, List.map_map]
    have : ∀ k : Nat, (((List.range k).map (w ∘ fun _ => [])).sum : Int) = k * w [] := fun k => by
      induction k with
      | zero => simp
      | succ k ih =>
        rw [List.range_succ, List.map_append, List.sum_append, ih, Int.natCast_add, Int.add_mul]
        simp
    rw [this]
    simp
  | j + 1 => by
    have ih := val_gre hm hn j
    have ha := amax_some (gains_ne hn w (gre n w j) j)
    rw [gains_len] at ha
    unfold gre
    rw [val_push (m := m) hm (gre_rows hn w j) ha.2.1, ih, List.range_succ, List.map_append, List.map_append, List.sum_append, List.getD_eq_getElem?_getD, ha.2.2]
    simp only [List.map_cons, List.map_nil, List.sum_cons, List.sum_nil]
    unfold cG
    rw [Int.toNat_natCast]
    simp
    omega
theorem gre_pre (n : Nat) (w : List Int → Int) : ∀ (d j : Nat), ∃ q, gre n w (j + d) = gre n w j ++ q
  | 0, j => ⟨[], by rw [List.append_nil]; rfl⟩
  | d + 1, j => by
    obtain ⟨q, e⟩ := gre_pre n w d j
    refine ⟨q ++ [(amax (gains n w (gre n w (j + d)) (j + d)) : Int)], ?_⟩
    show gre n w ((j + d) + 1) = _
    conv => lhs; unfold gre
    rw [← List.append_assoc, ← e]
include h in
theorem greedyHalf (hm : 1 ≤ m ∧ m ≤ 5) (hn : 1 ≤ n) {o : List Int} (ho : o ∈ rowsOf n m) : val n w o ≤ 2 * val n w (gre n w m) := by
  have hp := gre_rows hn w m
  have hv : (((posts m)).map (cG n w)).sum ≤ ((nts n).map fun k => w (lotP m fun i => atP (gre n w m) i == k)).sum := by
    rw [← valF hp, val_gre (m := m) hm hn, h.nil, Int.mul_zero, Int.add_zero]
    exact Int.le_refl _
  rw [valF hp, valF ho]
  refine (h.sub m).half (nodup_cast n) (atP_mem ho) (c := cG n w) (fun i hi k hk => ?_) hv
  obtain ⟨j, hj, rfl⟩ := List.mem_map.mp hi
  obtain ⟨t, ht, rfl⟩ := List.mem_map.mp hk
  have hj := List.mem_range.mp hj
  have ht := List.mem_range.mp ht
  have hgl := gre_len hn w j
  have hB : ∀ i, nightP (gre n w j) (t : Int) i = true → i < (j : Int) := fun i hi => by
    have := night_lt hi
    omega
  have h1 : w (lotP m (addP (nightP (gre n w j) (t : Int)) (j : Int))) - w (lotP m (nightP (gre n w j) (t : Int))) ≤ cG n w (j : Int) := by
    unfold cG
    rw [Int.toNat_natCast]
    refine maxL_ge ?_
    unfold gains
    rw [lotsBy_lotP (m := m) (by omega), List.map_map]
    refine List.mem_map.mpr ⟨t, List.mem_range.mpr ht, ?_⟩
    show w (wp (lotP m (nightP (gre n w j) (t : Int))) (j : Int)) - _ = _
    rw [wp_lotP hj hB]
  have h2 := (h.sub m).sub (fun i => atP (gre n w m) i == (t : Int)) (addP (nightP (gre n w j) (t : Int)) (j : Int))
  have h3 := (h.sub m).mono (addP (fun i => atP (gre n w m) i == (t : Int)) (j : Int)) (fun i => (atP (gre n w m) i == (t : Int)) || addP (nightP (gre n w j) (t : Int)) (j : Int) i) fun i _ hi => by
    unfold addP at hi ⊢
    rw [Bool.or_eq_true] at hi ⊢
    exact hi.imp id fun z => by rw [z, Bool.or_true]
  have h4 := (h.sub m).mono (nightP (gre n w j) (t : Int)) (fun i => (atP (gre n w m) i == (t : Int)) && addP (nightP (gre n w j) (t : Int)) (j : Int) i) fun i hi hb => by
    have hlt := hB i hb
    obtain ⟨a, ha, rfl⟩ := List.mem_map.mp hi
    have hb' := hb
    unfold nightP at hb
    rw [Bool.and_eq_true] at hb
    obtain ⟨q, eq⟩ := gre_pre n w (m - j) j
    rw [show j + (m - j) = m by omega] at eq
    have e5 : atP (gre n w m) (a : Int) = (gre n w j).getD a 0 := by
      unfold atP
      rw [eq, Int.toNat_natCast, List.getD_eq_getElem?_getD, List.getElem?_append_left (by omega), List.getD_eq_getElem?_getD]
    have hb2 := hb.2
    rw [Int.toNat_natCast] at hb2
    rw [e5, hb2]
    unfold addP
    rw [hb']
    rfl
  have h2' : w (lotP m fun i => (atP (gre n w m) i == (t : Int)) || addP (nightP (gre n w j) (t : Int)) (j : Int) i) + w (lotP m fun i => (atP (gre n w m) i == (t : Int)) && addP (nightP (gre n w j) (t : Int)) (j : Int) i) ≤ w (lotP m fun i => atP (gre n w m) i == (t : Int)) + w (lotP m (addP (nightP (gre n w j) (t : Int)) (j : Int))) := h2
  have h3' : w (lotP m (addP (fun i => atP (gre n w m) i == (t : Int)) (j : Int))) ≤ w (lotP m fun i => (atP (gre n w m) i == (t : Int)) || addP (nightP (gre n w j) (t : Int)) (j : Int) i) := h3
  have h4' : w (lotP m (nightP (gre n w j) (t : Int))) ≤ w (lotP m fun i => (atP (gre n w m) i == (t : Int)) && addP (nightP (gre n w j) (t : Int)) (j : Int) i) := h4
  show w (lotP m (addP (fun i => atP (gre n w m) i == (t : Int)) (j : Int))) - w (lotP m fun i => atP (gre n w m) i == (t : Int)) ≤ _
  omega
end
end K06

set_option Elab.async false
set_option linter.all false
set_option maxRecDepth 100000
set_option maxHeartbeats 4000000
/-! K06P13: the loops over values -/
namespace K06
open PySem PySem.Spec PyProof.Rows L2 DL PySem.W
theorem lits_ints (n : Nat) : ∀ l : List Int, (∀ x ∈ l, -99999999999 ≤ x ∧ x ≤ 99999999999) → D.lits n (l.map D.int) = true
  | [], _ => by unfold D.lits; rfl
  | x :: l, h => by
    have hx := h x List.mem_cons_self
    rw [List.map_cons]
    unfold D.lits
    rw [lits_ints n l fun y hy => h y (List.mem_cons_of_mem _ hy)]
    unfold D.lit
    rw [decide_eq_true hx.1, decide_eq_true hx.2]
    rfl
theorem bulk_ints : ∀ l : List Int, PyData.bulkAll (D.pys (l.map D.int)) = l.length
  | [] => by rw [List.map_nil, pys_nil]; simp only [PyData.bulkAll, List.length_nil]
  | x :: l => by
    have e : (D.int x).py = .int x := by unfold D.py; rfl
    rw [List.map_cons, pys_cons, e]
    simp only [PyData.bulkAll, PyData.bulk, List.length_cons]
    rw [bulk_ints l]
    omega
theorem pls_ints : ∀ l : List Int, D.pls (l.map D.int) = true
  | [] => by unfold D.pls; rfl
  | x :: l => by
    rw [List.map_cons]
    unfold D.pls
    rw [pls_ints l]
    unfold D.pl
    rfl
theorem sml_tuI {l : List Int} (h : ∀ x ∈ l, -99999999999 ≤ x ∧ x ≤ 99999999999) (hl : l.length ≤ 1000) : Sml (tuI l) := by
  refine ⟨?_, ?_, ?_⟩
  · unfold tuI D.lit
    exact lits_ints 59 l h
  · unfold tuI
    rw [py_tup]
    simp only [PyData.bulk]
    rw [bulk_ints]
    omega
  · unfold tuI D.pl
    exact pls_ints l
theorem sml_plan {n m : Nat} (hm : m ≤ 5) (hn : n ≤ 3) {p : List Int} (hp : p ∈ rowsOf n m) : Sml (tuI p) := by
  obtain ⟨h1, h2⟩ := mem_rows.mp hp
  exact sml_tuI (fun x hx => by have := h2 x hx; omega) (by omega)
def dK (i m n : Nat) (w : List Int → Int) (p : List Int) (x2 x3 x4 x5 x6 x7 x14 x15 x16 : Option Slot) : Δ :=
  [some (.d (.ob i)), some (.d (WW m w)), x2, x3, x4, x5, x6, x7, some (.d (.int m)), some (.d (.int n)), some (.d (tabD m w)), some (.d (tuI p)), some (.d (.lst ((moves m n w p).map mvD))), some (.d (setD (moves m n w p))), x14, x15, x16, none]
abbrev setT : D := .tup [.str "settled"]
abbrev fSetT : Δ → M D := fTup (fCons (fun _ => M.ret (.str "settled")) fNil)
abbrev lTest : Δ → M Bool := (tAn (tV (f1 (dIsi "tuple") (gv 3))) (tAn (tV (f2 dEq (f1 dLen (gv 3)) (fun _ => M.ret (.int 3)))) (tAn (tV (f2 dEq (f2 dIx (gv 3) (fun _ => M.ret (.int 0))) (fun _ => M.ret (.str "move")))) (tNt (tV (f1 (dIsi "bool") (f2 dIx (gv 3) (fun _ => M.ret (.int 1)))))))))
abbrev lBody : Δ → M Fl := (fSeq (fSet 14 (fAnd (f2 dEq (gv 3) fSetT) (f2 dEq (gv 12) (fLst fNil))))
    (fSeq (fIfS lTest
    (fSet 14 (f2 dIn (fCut (gv 3) (fI (fun _ => M.ret (.int 1))) (fun _ => M.ret none)) (gv 12)))
    fNx)
    (fIfS (tV (f2 dNe (f1 dRepr (fCallK m_shows_settled 4 4 [3, 2, 1, 0] (fCons (gv 3) (fCons (gv 11) (fCons (gv 9) (fCons (gv 1) fNil)))))) (f1 dRepr (gv 14))))
    (fRet (fun _ => M.ret (.bl false)))
    fNx)))
section
variable {m n : Nat} (hm : 1 ≤ m ∧ m ≤ 5) (hn : 1 ≤ n ∧ n ≤ 3) {w : List Int → Int} (h : Fine w) {p : List Int} (hp : p ∈ rowsOf n m) {i : Nat} {x2 x4 x5 x6 x7 x15 x16 : Option Slot}
include hm hn h hp in
theorem turnBad {v : D} {due : Option Slot} (h1 : dEq v setT = M.ret (.bl false)) (h2 : ∀ d, lTest (dK i m n w p x2 (some (.d v)) x4 x5 x6 x7 d x15 x16) = M.ret false) (h3 : shRest (dS4 m n w p v) = M.ret (.rt (.bl false))) :
    ∃ due', lBody (dK i m n w p x2 (some (.d v)) x4 x5 x6 x7 due x15 x16) = M.ret (.nx (dK i m n w p x2 (some (.d v)) x4 x5 x6 x7 due' x15 x16)) := by
  have e1 : fSet 14 (fAnd (f2 dEq (gv 3) fSetT) (f2 dEq (gv 12) (fLst fNil))) (dK i m n w p x2 (some (.d v)) x4 x5 x6 x7 due x15 x16) = M.ret (.nx (dK i m n w p x2 (some (.d v)) x4 x5 x6 x7 (some (.d (.bl false))) x15 x16)) :=
    set_ret (fAnd_false (f2_ret rfl rfl h1))
  exact ⟨_, (seq_ret e1).trans ((seq_ret ((ifS_false (h2 _)).trans rfl)).trans ((ifS_false (tV_ret (fRepr_neS (d := .bl false) (showsS hm hn h hp h3) rfl sml_bl))).trans rfl))⟩
include hm hn h hp in
theorem turnSet {due : Option Slot} : ∃ due', lBody (dK i m n w p x2 (some (.d setT)) x4 x5 x6 x7 due x15 x16) = M.ret (.nx (dK i m n w p x2 (some (.d setT)) x4 x5 x6 x7 due' x15 x16)) := by
  have h1 : dEq setT setT = M.ret (.bl true) := by
    funext S
    kernel_rfl
  have e1 : fSet 14 (fAnd (f2 dEq (gv 3) fSetT) (f2 dEq (gv 12) (fLst fNil))) (dK i m n w p x2 (some (.d setT)) x4 x5 x6 x7 due x15 x16) = M.ret (.nx (dK i m n w p x2 (some (.d setT)) x4 x5 x6 x7 (some (.d (.bl (moves m n w p).isEmpty))) x15 x16)) := by
    refine (set_ret ((fAnd_true (f2_ret rfl rfl h1)).trans (f2_ret (x := .lst ((moves m n w p).map mvD)) rfl rfl (dEq_nil (mv_shs _))))).trans ?_
    have : ((moves m n w p).map mvD).isEmpty = (moves m n w p).isEmpty := by cases moves m n w p <;> rfl
    rw [this]
    rfl
  have h2 : lTest (dK i m n w p x2 (some (.d setT)) x4 x5 x6 x7 (some (.d (.bl (moves m n w p).isEmpty))) x15 x16) = M.ret false := by
    funext S
    kernel_rfl
  exact ⟨_, (seq_ret e1).trans ((seq_ret ((ifS_false h2).trans rfl)).trans ((ifS_false (tV_ret (fRepr_neS (d := .bl (moves m n w p).isEmpty) (showsSettled hm hn h hp) rfl sml_bl))).trans rfl))⟩
abbrev mvT (j t : Int) : D := .tup [.str "move", .int j, .int t]
include hm hn h hp in
theorem turnMove (j t : Int) {due : Option Slot} : ∃ due', lBody (dK i m n w p x2 (some (.d (mvT j t))) x4 x5 x6 x7 due x15 x16) = M.ret (.nx (dK i m n w p x2 (some (.d (mvT j t))) x4 x5 x6 x7 due' x15 x16)) := by
  have h1 : dEq (mvT j t) setT = M.ret (.bl false) := by
    funext S
    kernel_rfl
  have e1 : fSet 14 (fAnd (f2 dEq (gv 3) fSetT) (f2 dEq (gv 12) (fLst fNil))) (dK i m n w p x2 (some (.d (mvT j t))) x4 x5 x6 x7 due x15 x16) = M.ret (.nx (dK i m n w p x2 (some (.d (mvT j t))) x4 x5 x6 x7 (some (.d (.bl false))) x15 x16)) :=
    set_ret (fAnd_false (f2_ret rfl rfl h1))
  have h2 : lTest (dK i m n w p x2 (some (.d (mvT j t))) x4 x5 x6 x7 (some (.d (.bl false))) x15 x16) = M.ret true := by
    funext S
    kernel_rfl
  have e2 : fSet 14 (f2 dIn (fCut (gv 3) (fI (fun _ => M.ret (.int 1))) (fun _ => M.ret none)) (gv 12)) (dK i m n w p x2 (some (.d (mvT j t))) x4 x5 x6 x7 (some (.d (.bl false))) x15 x16) = M.ret (.nx (dK i m n w p x2 (some (.d (mvT j t))) x4 x5 x6 x7 (some (.d (.bl ((moves m n w p).contains (j, t))))) x15 x16)) :=
    set_ret (f2_ret (x := tuI [j, t]) rfl rfl (mv_in j t _))
  exact ⟨_, (seq_ret e1).trans ((seq_ret ((ifS_true h2).trans e2)).trans ((ifS_false (tV_ret (fRepr_neS (d := .bl ((moves m n w p).contains (j, t))) (showsMove hm hn h hp j t) rfl sml_bl))).trans rfl))⟩
/-- what settled tells, item by item -/
def setX : List (Int × Int) → List D
  | [] => [.str "settled"]
  | q :: _ => [.str "move", .int q.1, .int q.2]
theorem setD_X (q : List (Int × Int)) : setD q = .tup (setX q) := by cases q <;> rfl
def vals12 (m n : Nat) (X : List D) : List D := [.tup X, .lst X, .tup (X.take 1), .tup (X ++ [.int 0]), .non, .tup [], setT, mvT 0 0, mvT 0 n, .tup [.str "move", .bl true, .int 0], mvT m 0, mvT (-1) 0]
def vals2 : List D := [.tup [.str "move", .int 0], .tup [.str "moves", .int 0, .int 0]]
include hm hn h hp in
theorem turns {ys : List D} (hy : ∀ y ∈ ys, ∃ j t : Int, y = mvT j t) {v : D} (hv : v ∈ vals12 m n (setX (moves m n w p)) ++ ys ++ vals2) {due : Option Slot} :
    ∃ due', lBody (dK i m n w p x2 (some (.d v)) x4 x5 x6 x7 due x15 x16) = M.ret (.nx (dK i m n w p x2 (some (.d v)) x4 x5 x6 x7 due' x15 x16)) := by
  rcases List.mem_append.mp hv with hv | hv
  · rcases List.mem_append.mp hv with hv | hv
    · unfold vals12 at hv
      simp only [List.mem_cons, List.not_mem_nil, or_false] at hv
      rcases hv with rfl | rfl | rfl | rfl | rfl | rfl | rfl | rfl | rfl | rfl | rfl | rfl
      · rw [← setD_X]
        cases hq : moves m n w p with
        | nil => exact turnSet hm hn h hp
        | cons q r => exact turnMove hm hn h hp q.1 q.2
      · cases hq : moves m n w p with
        | nil => exact turnBad hm hn h hp (by funext S; kernel_rfl) (fun d => by funext S; kernel_rfl) (by funext S; kernel_rfl)
        | cons q r => exact turnBad hm hn h hp (by funext S; kernel_rfl) (fun d => by funext S; kernel_rfl) (by funext S; kernel_rfl)
      · cases hq : moves m n w p with
        | nil => exact turnSet hm hn h hp
        | cons q r => exact turnBad hm hn h hp (by funext S; kernel_rfl) (fun d => by funext S; kernel_rfl) (by funext S; kernel_rfl)
      · cases hq : moves m n w p with
        | nil => exact turnBad hm hn h hp (by funext S; kernel_rfl) (fun d => by funext S; kernel_rfl) (by funext S; kernel_rfl)
        | cons q r => exact turnBad hm hn h hp (by funext S; kernel_rfl) (fun d => by funext S; kernel_rfl) (by funext S; kernel_rfl)
      · exact turnBad hm hn h hp (by funext S; kernel_rfl) (fun d => by funext S; kernel_rfl) (by funext S; kernel_rfl)
      · exact turnBad hm hn h hp (by funext S; kernel_rfl) (fun d => by funext S; kernel_rfl) (by funext S; kernel_rfl)
      · exact turnSet hm hn h hp
      · exact turnMove hm hn h hp _ _
      · exact turnMove hm hn h hp _ _
      · exact turnBad hm hn h hp (by funext S; kernel_rfl) (fun d => by funext S; kernel_rfl) (by funext S; kernel_rfl)
      · exact turnMove hm hn h hp _ _
      · exact turnMove hm hn h hp _ _
    · obtain ⟨j, t, rfl⟩ := hy v hv
      exact turnMove hm hn h hp j t
  · unfold vals2 at hv
    simp only [List.mem_cons, List.not_mem_nil, or_false] at hv
    rcases hv with rfl | rfl
    · exact turnBad hm hn h hp (by funext S; kernel_rfl) (fun d => by funext S; kernel_rfl) (by funext S; kernel_rfl)
    · exact turnBad hm hn h hp (by funext S; kernel_rfl) (fun d => by funext S; kernel_rfl) (by funext S; kernel_rfl)
/-- rows -/
abbrev rBody : Δ → M Fl := (fIfS (tV (f2 dNe (f1 dRepr (fCallK m_shows_settling 4 4 [3, 2, 1, 0] (fCons (gv 3) (fCons (gv 11) (fCons (gv 9) (fCons (gv 1) fNil)))))) (f1 dRepr (fCall m__law_is_row 4 (fCons (gv 10) (fCons (gv 11) (fCons (gv 9) (fCons (gv 3) fNil))))))))
    (fRet (fun _ => M.ret (.bl false)))
    fNx)
def vals11 (R : List D) : List D := [.tup R, .lst R, .tup R.dropLast, .tup (R ++ R.take 1), .tup R.reverse, .non, .tup [mvD (0, 0)], .tup (R ++ [mvD (0, 0)]), .tup [.tup [.int 0]], .tup [.non], .tup [.tup [.bl true, .int 0]]]
include hm hn h hp in
theorem rTurns {row : List (Int × Int)} {v : D} (hv : v ∈ vals11 (row.map mvD)) {x14 : Option Slot} : rBody (dK i m n w p x2 (some (.d v)) x4 x5 x6 x7 x14 x15 x16) = M.ret (.nx (dK i m n w p x2 (some (.d v)) x4 x5 x6 x7 x14 x15 x16)) := by
  have key : ∀ b : Bool, m_shows_settling [WW m w, .int n, tuI p, v] = M.ret (.bl b) → m__law_is_row [tabD m w, tuI p, .int n, v] = M.ret (.bl b) → rBody (dK i m n w p x2 (some (.d v)) x4 x5 x6 x7 x14 x15 x16) = M.ret (.nx (dK i m n w p x2 (some (.d v)) x4 x5 x6 x7 x14 x15 x16)) := fun b e1 e2 =>
    (ifS_false (tV_ret (fRepr_neS (d := .bl b) e1 e2 sml_bl))).trans rfl
  have good : ∀ q : List (Int × Int), v = .tup (q.map mvD) → rBody (dK i m n w p x2 (some (.d v)) x4 x5 x6 x7 x14 x15 x16) = M.ret (.nx (dK i m n w p x2 (some (.d v)) x4 x5 x6 x7 x14 x15 x16)) := fun q e => by
    subst e
    exact key _ (showsSettling hm hn h hp q) (lawIsRow hm hn hp q)
  have bad : v ∈ badV → rBody (dK i m n w p x2 (some (.d v)) x4 x5 x6 x7 x14 x15 x16) = M.ret (.nx (dK i m n w p x2 (some (.d v)) x4 x5 x6 x7 x14 x15 x16)) := fun hb => key false (badBoth hm hn h hp hb).1 (badBoth hm hn h hp hb).2
  unfold vals11 at hv
  simp only [List.mem_cons, List.not_mem_nil, or_false] at hv
  rcases hv with e | e | e | e | e | e | e | e | e | e | e
  · exact good row e
  · subst e
    exact key false (badList hm hn h hp _).1 (badList hm hn h hp _).2
  · exact good row.dropLast (by rw [e, List.map_dropLast])
  · exact good (row ++ row.take 1) (by rw [e, List.map_append, List.map_take])
  · exact good row.reverse (by rw [e, List.map_reverse])
  · exact bad (by rw [e]; exact List.mem_cons_self)
  · exact good [(0, 0)] e
  · exact good (row ++ [(0, 0)]) (by rw [e, List.map_append]; rfl)
  · exact bad (by rw [e]; exact List.mem_cons_of_mem _ List.mem_cons_self)
  · exact bad (by rw [e]; exact List.mem_cons_of_mem _ (List.mem_cons_of_mem _ List.mem_cons_self))
  · exact bad (by rw [e]; exact List.mem_cons_of_mem _ (List.mem_cons_of_mem _ (List.mem_cons_of_mem _ List.mem_cons_self)))
include hm in
/-- the last plan of a row -/
theorem lastLoop {y3 : Option Slot} {b : Option Slot} {x14 : Option Slot} : ∀ (row : List (Int × Int)) (q : List Int) (y : Option Slot), q ∈ rowsOf n m → seqOk m n w row q = true → ∃ y', loopM (ggName 7) (fSet 6 (fCall m__law_done 3 (fCons (gv 6) (fCons (f2 dIx (gv 7) (fun _ => M.ret (.int 0))) (fCons (f2 dIx (gv 7) (fun _ => M.ret (.int 1))) fNil))))) (row.map mvD) (dK i m n w p x2 y3 x4 b (some (.d (tuI q))) y x14 x15 x16) =
    M.ret (.nx (dK i m n w p x2 y3 x4 b (some (.d (tuI (lastP q row)))) y' x14 x15 x16))
  | [], q, y, _, _ => ⟨y, rfl⟩
  | r :: row, q, y, hq, hs => by
    unfold seqOk at hs
    rw [Bool.and_eq_true, List.contains_iff_mem] at hs
    have hr := move_rows hq hs.1
    obtain ⟨y', e⟩ := lastLoop row (q.set r.1.toNat r.2) (some (.d (mvD r))) hr hs.2
    obtain ⟨j, t, rfl, hj, ht, _⟩ := mem_moves.mp hs.1
    have hlen := (mem_rows.mp hq).1
    refine ⟨y', ?_⟩
    rw [List.map_cons]
    unfold loopM
    show M.bind (fSet 6 (fCall m__law_done 3 (fCons (gv 6) (fCons (f2 dIx (gv 7) (fun _ => M.ret (.int 0))) (fCons (f2 dIx (gv 7) (fun _ => M.ret (.int 1))) fNil)))) (dK i m n w p x2 y3 x4 b (some (.d (tuI q))) (some (.d (mvD ((j : Int), (t : Int))))) x14 x15 x16)) _ = _
    have hset : q.set ((j : Int), (t : Int)).1.toNat ((j : Int), (t : Int)).2 = q.set j (t : Int) := by simp
    have e2 := set_ret (i := 6) ((call_ret (m := m__law_done) (n := 3) (fr := (fCons (gv 6) (fCons (f2 dIx (gv 7) (fun _ => M.ret (.int 0))) (fCons (f2 dIx (gv 7) (fun _ => M.ret (.int 1))) fNil)))) (δ := dK i m n w p x2 y3 x4 b (some (.d (tuI q))) (some (.d (mvD ((j : Int), (t : Int))))) x14 x15 x16) (ds := [tuI q, .int j, .int t]) rfl rfl).trans (lawDone (p := q) (j := j) (by omega) (by omega) (t : Int)))
    rw [e2, M.ret_bind]
    rw [hset] at e
    unfold lastP
    rw [List.foldl_cons, hset]
    exact e
end
end K06

set_option Elab.async false
set_option linter.all false
set_option maxRecDepth 100000
set_option maxHeartbeats 4000000
/-! K06P14: the law, whole -/
namespace K06
open PySem PySem.Spec PyProof.Rows L2 DL PySem.W
theorem range_i {m j : Nat} (hm : m ≤ 5) {δ : Δ} (hd : gv j δ = M.ret (.int m)) : iRange1 (gv j) δ = M.ret (((List.range m).map fun j : Nat => (j : Int)).map D.int) := by
  unfold iRange1
  rw [hd, M.ret_bind]
  show (if -16777216 ≤ (m : Int) ∧ (m : Int) ≤ 16777216 then M.ret (rangeD 0 (m : Int).toNat) else M.stuck) = _
  rw [if_pos (by omega), Int.toNat_natCast, rangeD_map]
theorem forLoop {gg : D → Δ → Option Δ} {F : Δ → M Fl} {vs : List D} {δ : Δ} {S : Store} {R : Δ → Prop} (h : ∀ x ∈ vs, ∀ δ, R δ → ∃ δ1 δ2, gg x δ = some δ1 ∧ F δ1 = M.ret (.nx δ2) ∧ R δ2) (r : R δ) {Q : Δ → Store → Prop} (hq : ∀ δ', R δ' → Q δ' S) :
    Okw (loopM gg F vs δ) S fun o S' => ∃ δ', o = .nx δ' ∧ Q δ' S' := by
  obtain ⟨δ', e, r'⟩ := loopM_all R h r
  exact .of e ⟨δ', rfl, hq δ' r'⟩
theorem Pot.flat {i k : Nat} {S : Store} (P : Pot i k S) : S.all SO.flat = true := by
  obtain ⟨a, b, c, h1, h2, h3, h4, h5, h6, h7⟩ := P
  exact h7
theorem dmul2 {x : Int} (h0 : 0 ≤ x) (h1 : x ≤ 1000) : dMul (.int 2) (.int x) = M.ret (.int (2 * x)) := if_pos (decide_eq_true (Nat.lt_of_lt_of_le (Nat.add_lt_add (lg (B := 2) (by decide) (by decide) (k := 20) (by decide)) (lg (B := 1000) h0 (by omega) (k := 20) (by decide))) (by decide)))
/-- so many drawn nights -/
theorem drawn {n m : Nat} {zs : List (Int × D)} (hl : zs.length = m) (h : ∀ z ∈ zs, ∃ v : Int, z.2 = .int v ∧ 0 ≤ v ∧ v < n) : ∃ r : List Int, zs.map Prod.snd = r.map D.int ∧ r ∈ rowsOf n m := by
  have : ∀ zs : List (Int × D), (∀ z ∈ zs, ∃ v : Int, z.2 = .int v ∧ 0 ≤ v ∧ v < n) → ∃ r : List Int, zs.map Prod.snd = r.map D.int ∧ r.length = zs.length ∧ ∀ x ∈ r, 0 ≤ x ∧ x < n := by
    intro zs
    induction zs with
    | nil => exact fun _ => ⟨[], rfl, rfl, fun x hx => absurd hx (by simp)⟩
    | cons z zs ih =>
      intro h
      obtain ⟨r, h1, h2, h3⟩ := ih fun z hz => h z (List.mem_cons_of_mem _ hz)
      obtain ⟨v, e, v0, v1⟩ := h z List.mem_cons_self
      refine ⟨v :: r, by rw [List.map_cons, List.map_cons, e, h1], by rw [List.length_cons, List.length_cons, h2], fun x hx => ?_⟩
      rcases List.mem_cons.mp hx with rfl | hx
      · exact ⟨v0, v1⟩
      · exact h3 x hx
  obtain ⟨r, h1, h2, h3⟩ := this zs h
  exact ⟨r, h1, mem_rows.mpr ⟨by rw [h2, hl], h3⟩⟩
theorem lawRight {i k : Nat} {S : Store} (P : Pot i (k + 60) S) : Okw (m__law_right [.ob i]) S fun d S' => d = .bl true ∧ Pot i k S' := by
  refine Okw.fn rfl ?_
  show Okw (b__law_right [some (.d (.ob i)), none, none, none, none, none, none, none, none, none, none, none, none, none, none, none, none, none]) S _
  unfold b__law_right
  refine .seq ?_
  refine .bind (.bind (.bind (.bind (.of (a := .int 1) rfl ?_))))
  refine .bind ?_
  refine (takeE (k := k + 59) (by decide) (by decide) rfl P).mono ?_
  rintro d S1 ⟨v, rfl, v0, v1, P1⟩
  obtain ⟨m', rfl⟩ := Int.eq_ofNat_of_zero_le v0
  refine .of (a := .int (1 + (m' : Int))) rfl ?_
  refine .bind (.bind (.bind (.bind (.of (a := .int 1) rfl ?_))))
  refine .bind ?_
  refine (takeE (k := k + 58) (by decide) (by decide) rfl P1).mono ?_
  rintro d S2 ⟨v, rfl, u0, u1, P2⟩
  obtain ⟨n', rfl⟩ := Int.eq_ofNat_of_zero_le u0
  refine .of (a := .int (1 + (n' : Int))) rfl ?_
  refine .of (a := .int (1 + (n' : Int))) rfl ?_
  obtain ⟨m, hme, hm⟩ : ∃ m : Nat, (1 + (m' : Int)) = m ∧ 1 ≤ m ∧ m ≤ 5 := ⟨m' + 1, by omega, by omega, by omega⟩
  obtain ⟨n, hne, hn⟩ : ∃ n : Nat, (1 + (n' : Int)) = n ∧ 1 ≤ n ∧ n ≤ 3 := ⟨n' + 1, by omega, by omega, by omega⟩
  rw [hme, hne]
  refine .of (a := [.int n]) rfl ?_
  refine .of (a := [.int m, .int n]) rfl ?_
  refine .of (a := .tup [.int m, .int n]) rfl ?_
  refine .of (a := .nx [some (.d (.ob i)), none, none, none, none, none, none, none, some (.d (.int m)), some (.d (.int n)), none, none, none, none, none, none, none, none]) rfl ⟨_, rfl, ?_⟩
  -- worths
  refine .seq ?_
  refine .bind (.eq (call_ret (ds := [.ob i, .int m]) rfl rfl) ?_)
  refine (worths (k := k + 22) hm.1 hm.2 P2).mono ?_
  rintro d S3 ⟨fs, top, ea, dr, rfl, P3⟩
  have h := fine dr
  generalize wOf fs top ea = w at h ⊢
  refine .of (a := .nx [some (.d (.ob i)), some (.d (WW m w)), none, none, none, none, none, none, some (.d (.int m)), some (.d (.int n)), none, none, none, none, none, none, none, none]) rfl ⟨_, rfl, ?_⟩
  -- table, plan
  refine .seq ?_
  refine .bind (.bind (.bind (.of ((call_ret (ds := [WW m w]) rfl rfl).trans (tableL hm w)) ?_)))
  refine .bind (.bind (.bind (.bind ?_)))
  refine .of (range_i hm.2 rfl) ?_
  refine .bind ((lcM_okwA (k := 0) (emb := D.int) (fun j S => Pot i (k + 17 + j) S) (fun _ y => ∃ v : Int, y = .int v ∧ 0 ≤ v ∧ v < n) (fun x _ j S hP => ⟨_, rfl, ?_⟩) (P3.mono (by simp; omega))).mono ?_)
  · refine .bind (.eq (call_ret (ds := [.ob i, .int n]) rfl rfl) ?_)
    refine (take (k := k + 17 + j) (by omega) (by omega) hP).mono ?_
    rintro d S1 ⟨v, rfl, v0, v1, P1⟩
    exact .of (a := .int v) rfl ⟨⟨v, rfl, v0, v1⟩, P1⟩
  rintro ys S4 ⟨P4, zs, e, e2, hz⟩
  obtain ⟨p, hys, hp⟩ := drawn (n := n) (m := m) (zs := zs) (by
    have := congrArg List.length e2
    simpa using this) hz
  rw [← e] at hys
  subst hys
  have P4 := P4.mono (show k + 17 ≤ k + 17 + 0 by omega)
  refine .ret ?_
  refine .of (a := tuI p) rfl ?_
  refine .of (a := [tuI p]) rfl ?_
  refine .of (a := [tabD m w, tuI p]) rfl ?_
  refine .of (a := .tup [tabD m w, tuI p]) rfl ?_
  refine .of (a := .nx [some (.d (.ob i)), some (.d (WW m w)), none, none, none, none, none, none, some (.d (.int m)), some (.d (.int n)), some (.d (tabD m w)), some (.d (tuI p)), none, none, none, none, none, none]) rfl ⟨_, rfl, ?_⟩
  have hpl := (mem_rows.mp hp).1
  -- better, told
  refine .seqR (δ1 := dK i m n w p none none none none none none none none none) (par_ret ((call_ret (ds := [tabD m w, tuI p, .int n]) rfl rfl).trans (lawBetter hm hn w hp)) ((callK_ret (ds := [tuI p, .int n, WW m w]) rfl ⟨rfl, rfl⟩).trans (settledP hm hn h hp))) ?_
  have hX : ∃ x X, setX (moves m n w p) = x :: X ∧ (x :: X).length ≤ 3 := by
    cases moves m n w p
    · exact ⟨_, _, rfl, by decide⟩
    · exact ⟨_, _, rfl, Nat.le_refl 3⟩
  -- values
  refine .seqR (δ1 := dK i m n w p (some (.d (.lst (vals12 m n (setX (moves m n w p)))))) none none none none none none none none) (set_ret ?_) ?_
  · refine fLst_ret (cons_ret ?_ (cons_ret ?_ (cons_ret ?_ (cons_ret ?_ rfl)))) (by decide : 12 ≤ 1000)
    · show M.ret (setD (moves m n w p)) = _
      rw [setD_X]
    · show dList (setD (moves m n w p)) = _
      rw [setD_X]
      rfl
    · show dCut (setD (moves m n w p)) none (some ((1 : Nat) : Int)) = _
      rw [setD_X]
      show M.ret (D.tup (cutD (setX (moves m n w p)) none (some ((1 : Nat) : Int)))) = _
      rw [cut_to]
    · show dAdd (setD (moves m n w p)) (.tup [.int 0]) = _
      rw [setD_X]
      obtain ⟨x, X, e, hl⟩ := hX
      rw [e]
      exact add_tup (Nat.le_trans (Nat.add_le_add hl (Nat.le_refl 1)) (by decide))
  refine .seq ?_
  refine .bind (.bind ?_)
  refine .bind (.bind (.of (a := .lst (vals12 m n (setX (moves m n w p)))) rfl ?_))
  refine .bind (.bind ?_)
  refine .of (range_i hm.2 rfl) ?_
  refine .bind ((lcM_okwA (k := 0) (emb := D.int) (fun j S => Pot i (k + 10 + j) S) (fun _ y => ∃ j t : Int, y = mvT j t) (fun x _ j S hP => ⟨_, rfl, ?_⟩) (P4.mono (by simp; omega))).mono ?_)
  · refine .bind (.bind (.of (a := .str "move") rfl (.bind (.bind (.of (a := .int x) rfl (.bind (.bind (.bind (.eq (call_ret (ds := [.ob i, .int n]) rfl rfl) ?_)))))))))
    refine (take (k := k + 10 + j) (by omega) (by omega) hP).mono ?_
    rintro d S1 ⟨v, rfl, v0, v1, P1⟩
    refine .of (a := .int v) rfl ?_
    refine .of (a := [.int v]) rfl ?_
    refine .of (a := [.int x, .int v]) rfl ?_
    refine .of (a := [.str "move", .int x, .int v]) rfl ?_
    exact .of (a := mvT x v) rfl ⟨⟨x, v, rfl⟩, P1⟩
  rintro ys S5 ⟨P5, zs5, e5, e52, hz5⟩
  have P5 := P5.mono (show k + 10 ≤ k + 10 + 0 by omega)
  have hyl : ys.length = m := by
    have := congrArg List.length e52
    rw [e5, List.length_map]
    simpa using this
  have hy : ∀ y ∈ ys, ∃ j t : Int, y = mvT j t := fun y hyy => by
    rw [e5] at hyy
    obtain ⟨z, hz1, rfl⟩ := List.mem_map.mp hyy
    exact hz5 z hz1
  refine .ret ?_
  refine .of (a := .lst (vals12 m n (setX (moves m n w p)) ++ ys)) (cat_ret (by
    rw [hyl]
    exact Nat.le_trans (Nat.add_le_add (Nat.le_refl 12) hm.2) (by decide))) ?_
  refine .bind (.of (a := .lst vals2) rfl ?_)
  refine .of (a := .lst (vals12 m n (setX (moves m n w p)) ++ ys ++ vals2)) (cat_ret (by
    rw [List.length_append, hyl]
    exact Nat.le_trans (Nat.add_le_add (Nat.add_le_add (Nat.le_refl 12) hm.2) (Nat.le_refl 2)) (by decide))) ?_
  refine .of (a := vals12 m n (setX (moves m n w p)) ++ ys ++ vals2) rfl ?_
  refine forLoop (R := fun δ => ∃ v due, δ = dK i m n w p (some (.d (.lst (vals12 m n (setX (moves m n w p)))))) v none none none none due none none) ?_ ⟨none, none, rfl⟩ ?_
  · rintro v hv δ ⟨v0, due, rfl⟩
    obtain ⟨due', e⟩ := turns (i := i) (x2 := some (.d (.lst (vals12 m n (setX (moves m n w p)))))) (x4 := none) (x5 := none) (x6 := none) (x7 := none) (x15 := none) (x16 := none) hm hn h hp hy hv (due := due)
    exact ⟨_, _, rfl, e, _, _, rfl⟩
  rintro δ ⟨v3, due, rfl⟩
  generalize some (DL.Slot.d (.lst (vals12 m n (setX (moves m n w p))))) = x2
  -- told is right
  refine .seqR (δ1 := dK i m n w p x2 v3 none none none none due none none) ((ifS_false ?_).trans rfl) ?_
  · have c1 : f2 dEq (gv 12) (fLst fNil) (dK i m n w p x2 v3 none none none none due none none) = M.ret (.bl (moves m n w p).isEmpty) := by
      refine f2_ret (x := .lst ((moves m n w p).map mvD)) rfl rfl ?_
      rw [dEq_nil (mv_shs _)]
      cases moves m n w p <;> rfl
    have c2 : f2 dEq (gv 13) fSetT (dK i m n w p x2 v3 none none none none due none none) = M.ret (.bl (moves m n w p).isEmpty) := by
      refine f2_ret (x := setD (moves m n w p)) rfl rfl ?_
      cases moves m n w p <;> (funext S; kernel_rfl)
    have c3 : tV (f2 dNe (gv 12) (fLst fNil)) (dK i m n w p x2 v3 none none none none due none none) = M.ret (!(moves m n w p).isEmpty) := by
      refine tV_ret (f2_ret (x := .lst ((moves m n w p).map mvD)) rfl rfl ?_)
      rw [dNe_nil (mv_shs _)]
      cases moves m n w p <;> rfl
    refine (tOr_false (tV_ret (f2_ret c2 c1 ?_))).trans ?_
    · cases (moves m n w p).isEmpty <;> rfl
    · cases hq : moves m n w p with
      | nil =>
        rw [hq] at c3
        exact tAn_false c3
      | cons q r =>
        rw [hq] at c3
        refine (tAn_true c3).trans ((tOr_false (tV_ret (f2_ret (f2_ret (x := setD (moves m n w p)) (y := .int 0) (z := .str "move") rfl rfl (by rw [hq]; rfl)) rfl (by funext S; kernel_rfl)))).trans (tV_ret (f2_ret (x := tuI [q.1, q.2]) (y := .lst ((moves m n w p).map mvD)) ?_ rfl ((mv_notIn q.1 q.2 _).trans ?_))))
        · show dCut (setD (moves m n w p)) (some 1) none = _
          rw [hq]
          rfl
        · rw [hq]
          simp
  -- settling
  obtain ⟨row, hrl, hok, er⟩ := settling hm hn h hp
  refine .seqR (δ1 := dK i m n w p x2 v3 (some (.d (.tup (row.map mvD)))) none none none due none none) (set_ret ((callK_ret (ds := [tuI p, .int n, WW m w]) rfl ⟨rfl, rfl⟩).trans er)) ?_
  refine .seq ?_
  refine .bind (.of (a := vals11 (row.map mvD)) ?_ ?_)
  · have hL : (row.map mvD).length ≤ 150 := by rw [List.length_map]; exact hrl
    refine seqL_ret (fLst_ret (cons_ret rfl (cons_ret rfl (cons_ret ?_ (cons_ret ?_ (cons_ret rfl (cons_ret rfl (cons_ret rfl (cons_ret ?_ rfl)))))))) (by show 11 ≤ 1000; decide))
    · show M.ret (D.tup (cutD (row.map mvD) none (some (-1)))) = _
      rw [cut_init]
    · refine f2_ret (x := .tup (row.map mvD)) (y := .tup ((row.map mvD).take 1)) rfl ?_ (add_tup ?_)
      · show M.ret (D.tup (cutD (row.map mvD) none (some ((1 : Nat) : Int)))) = _
        rw [cut_to]
      · rw [List.length_take]
        omega
    · refine f2_ret (x := .tup (row.map mvD)) (y := .tup [mvD (0, 0)]) rfl rfl (add_tup ?_)
      exact Nat.le_trans (Nat.add_le_add hL (Nat.le_refl 1)) (by decide)
  refine forLoop (R := fun δ => ∃ v, δ = dK i m n w p x2 v (some (.d (.tup (row.map mvD)))) none none none due none none) ?_ ⟨v3, rfl⟩ ?_
  · rintro v hv δ ⟨v0, rfl⟩
    exact ⟨_, _, rfl, rTurns hm hn h hp hv, _, rfl⟩
  rintro δ ⟨v4, rfl⟩
  -- the row, greed
  have hgr := gre_rows hn.1 w m
  have sg := sml_plan hm.2 hn.2 hgr
  refine .seq ?_
  refine .bind (.ok (S1 := S5) (a := false) ?_ ?_)
  · have t1 : tNt (tV (fCall m__law_is_row 4 (fCons (gv 10) (fCons (gv 11) (fCons (gv 9) (fCons (gv 4) fNil)))))) (dK i m n w p x2 v4 (some (.d (.tup (row.map mvD)))) none none none due none none) = M.ret false := by
      refine tNt_ret (b := true) (tV_ret ((call_ret (ds := [tabD m w, tuI p, .int n, .tup (row.map mvD)]) rfl rfl).trans ?_))
      rw [lawIsRow hm hn hp, hok]
    rw [tOr_false t1]
    have e7 : fCallK m_greedy_plan 2 2 [1, 0] (fCons (gv 9) (fCons (gv 1) fNil)) (dK i m n w p x2 v4 (some (.d (.tup (row.map mvD)))) none none none due none none) S5 = .ok (tuI (gre n w m)) S5 := by
      have e7' : fCallK m_greedy_plan 2 2 [1, 0] (fCons (gv 9) (fCons (gv 1) fNil)) (dK i m n w p x2 v4 (some (.d (.tup (row.map mvD)))) none none none due none none) = m_greedy_plan [WW m w, .int n] := callK_ret (ds := [.int n, WW m w]) rfl ⟨rfl, rfl⟩
      exact (congrFun e7' S5).trans (greedyP hm hn h P5.flat)
    have e8 : f1 dRepr (fCall m__law_greedy 3 (fCons (gv 10) (fCons (gv 8) (fCons (gv 9) fNil)))) (dK i m n w p x2 v4 (some (.d (.tup (row.map mvD)))) none none none due none none) = M.ret (.str (tuI (gre n w m)).py.shown) := f1_ret ((call_ret (ds := [tabD m w, .int m, .int n]) rfl rfl).trans (lawGreedy hm hn)) sg.repr
    show M.bind (M.bind (M.bind (fCallK m_greedy_plan 2 2 [1, 0] (fCons (gv 9) (fCons (gv 1) fNil)) (dK i m n w p x2 v4 (some (.d (.tup (row.map mvD)))) none none none due none none)) dRepr) fun a => M.bind (f1 dRepr (fCall m__law_greedy 3 (fCons (gv 10) (fCons (gv 8) (fCons (gv 9) fNil)))) (dK i m n w p x2 v4 (some (.d (.tup (row.map mvD)))) none none none due none none)) fun b => dNe a b) D.isBl S5 = _
    have e9 : M.bind (fCallK m_greedy_plan 2 2 [1, 0] (fCons (gv 9) (fCons (gv 1) fNil)) (dK i m n w p x2 v4 (some (.d (.tup (row.map mvD)))) none none none due none none)) dRepr S5 = .ok (.str (tuI (gre n w m)).py.shown) S5 := by
      rw [M.bind_ok e7, sg.repr]
      rfl
    have e10 : M.bind (M.bind (fCallK m_greedy_plan 2 2 [1, 0] (fCons (gv 9) (fCons (gv 1) fNil)) (dK i m n w p x2 v4 (some (.d (.tup (row.map mvD)))) none none none due none none)) dRepr) (fun a => M.bind (f1 dRepr (fCall m__law_greedy 3 (fCons (gv 10) (fCons (gv 8) (fCons (gv 9) fNil)))) (dK i m n w p x2 v4 (some (.d (.tup (row.map mvD)))) none none none due none none)) fun b => dNe a b) S5 = .ok (.bl false) S5 := by
      rw [M.bind_ok e9, e8, M.ret_bind, repr_ne sg sg, decide_eq_true rfl]
      rfl
    rw [M.bind_ok e10]
    rfl
  refine .of (a := .nx (dK i m n w p x2 v4 (some (.d (.tup (row.map mvD)))) none none none due none none)) rfl ⟨_, rfl, ?_⟩
  -- a move
  refine .seq ?_
  refine .bind (.bind (.eq (call_ret (ds := [.ob i, .int m]) rfl rfl) ?_))
  refine (take (k := k + 9) (by omega) (by omega) P5).mono ?_
  rintro d S6 ⟨v, rfl, a0, a1, P6⟩
  obtain ⟨j, rfl⟩ := Int.eq_ofNat_of_zero_le a0
  refine .of (a := .int j) rfl ?_
  refine .bind (.bind (.eq (call_ret (ds := [.ob i, .int n]) rfl rfl) ?_))
  refine (take (k := k + 8) (by omega) (by omega) P6).mono ?_
  rintro d S7 ⟨v, rfl, b0, b1, P7⟩
  obtain ⟨t, rfl⟩ := Int.eq_ofNat_of_zero_le b0
  refine .of (a := .int t) rfl ?_
  have hj : j < m := by omega
  have ht : t < n := by omega
  refine .of (a := .nx (dK i m n w p x2 v4 (some (.d (.tup (row.map mvD)))) none none none due (some (.d (.int j))) (some (.d (.int t))))) rfl ⟨_, rfl, ?_⟩
  refine .seqR (δ1 := dK i m n w p x2 v4 (some (.d (.tup (row.map mvD)))) none none none due (some (.d (.int j))) (some (.d (.int t)))) ((ifS_false (tV_ret (fRepr_neS (d := tuI (p.set j (t : Int))) ((callK_ret (ds := [.int t, .int j, tuI p, .int n, WW m w]) rfl ⟨rfl, rfl⟩).trans (movedP hm hn h hp hj ht)) ((call_ret (ds := [tuI p, .int j, .int t]) rfl rfl).trans (lawDone (by omega) (by omega) _)) (sml_plan hm.2 hn.2 (set_rows hp ht))))).trans rfl) ?_
  -- the best
  have hne : (rowsOf n m).map (val n w) ≠ [] := fun z => rows_ne (n := n) (m := m) hn.1 (List.map_eq_nil_iff.mp z)
  have eb : f1 dMax1 (fLc (iSeq (fCall m__law_plans 2 (fCons (gv 8) (fCons (gv 9) fNil)))) (ggName 17) tYesM (f1 dSum (fCall m__law_each 3 (fCons (gv 10) (fCons (gv 17) (fCons (gv 9) fNil))))) [17]) (dK i m n w p x2 v4 (some (.d (.tup (row.map mvD)))) none none none due (some (.d (.int j))) (some (.d (.int t)))) = M.ret (.int (maxL ((rowsOf n m).map (val n w)))) := by
    refine f1_ret (x := .lst (((rowsOf n m).map (val n w)).map D.int)) ?_ (dMax1_ints hne)
    rw [List.map_map]
    exact fLc_mapA (emb := tuI) (seqL_ret ((call_ret (ds := [.int m, .int n]) rfl rfl).trans (plansL hm hn))) fun q hq => ⟨_, rfl, f1_ret ((call_ret (ds := [tabD m w, tuI q, .int n]) rfl rfl).trans (eachL hm hn w hq)) (dSum_ints _)⟩
  obtain ⟨o, ho, hbo⟩ := List.mem_map.mp (maxL_mem hne)
  refine .seqR (δ1 := dK i m n w p x2 v4 (some (.d (.tup (row.map mvD)))) (some (.d (.int (maxL ((rowsOf n m).map (val n w)))))) none none due (some (.d (.int j))) (some (.d (.int t)))) (set_ret eb) ?_
  refine .seqR (δ1 := dK i m n w p x2 v4 (some (.d (.tup (row.map mvD)))) (some (.d (.int (maxL ((rowsOf n m).map (val n w)))))) (some (.d (tuI p))) none due (some (.d (.int j))) (some (.d (.int t)))) (set_ret rfl) ?_
  rw [okRow_seq, Bool.and_eq_true] at hok
  obtain ⟨y', el⟩ := lastLoop (w := w) (p := p) (i := i) (x2 := x2) (y3 := v4) (x4 := some (.d (.tup (row.map mvD)))) (b := some (.d (.int (maxL ((rowsOf n m).map (val n w)))))) (x14 := due) (x15 := some (.d (.int j))) (x16 := some (.d (.int t))) hm row p none hp hok.1
  refine .seqR (δ1 := dK i m n w p x2 v4 (some (.d (.tup (row.map mvD)))) (some (.d (.int (maxL ((rowsOf n m).map (val n w)))))) (some (.d (tuI (lastP p row)))) y' due (some (.d (.int j))) (some (.d (.int t)))) (for_ret (seqT_ret rfl) el) ?_
  have hlast := seq_rows row p hp hok.1
  have hs0 : moves m n w (lastP p row) = [] := List.isEmpty_iff.mp hok.2
  have b1 := settledHalf h hlast ho hs0
  have b2 := greedyHalf h hm hn.1 ho
  rw [hbo] at b1 b2
  have v1 := val_bd (n := n) h (lastP p row)
  have v2 := val_bd (n := n) h (gre n w m)
  have f1' : f2 dGe (f2 dMul (fun _ => M.ret (.int 2)) (f1 dSum (fCall m__law_each 3 (fCons (gv 10) (fCons (gv 6) (fCons (gv 9) fNil)))))) (gv 5) (dK i m n w p x2 v4 (some (.d (.tup (row.map mvD)))) (some (.d (.int (maxL ((rowsOf n m).map (val n w)))))) (some (.d (tuI (lastP p row)))) y' due (some (.d (.int j))) (some (.d (.int t)))) = M.ret (.bl true) := by
    refine f2_ret (f2_ret rfl (f1_ret ((call_ret (ds := [tabD m w, tuI (lastP p row), .int n]) rfl rfl).trans (eachL hm hn w hlast)) (dSum_ints _)) (dmul2 (x := val n w (lastP p row)) v1.1 (by omega))) rfl ?_
    show M.ret (D.bl (decide (maxL ((rowsOf n m).map (val n w)) ≤ 2 * val n w (lastP p row)))) = _
    rw [decide_eq_true b1]
  refine .bind (.eq (fAnd_true f1') ?_)
  refine .bind (.bind (.of (a := .int 2) rfl (.bind (.bind ?_))))
  refine .bind (.bind (.of (a := tabD m w) rfl (.bind (.bind (.eq (call_ret (ds := [WW m w, .int n]) rfl rfl) (.ok (greedyP hm hn h P7.flat) ?_))))))
  refine .of (a := [tuI (gre n w m), .int n]) rfl ?_
  refine .of (a := [tabD m w, tuI (gre n w m), .int n]) rfl ?_
  refine .of (a := .lst ((each n w (gre n w m)).map D.int)) (eachL hm hn w hgr) ?_
  refine .of (a := .int (val n w (gre n w m))) (dSum_ints _) ?_
  refine .of (a := .int (2 * val n w (gre n w m))) (dmul2 v2.1 (by omega)) ?_
  refine .bind (.of (a := .int (maxL ((rowsOf n m).map (val n w)))) rfl ?_)
  refine .of (a := .bl true) ?_ ?_
  · show M.ret (D.bl (decide (maxL ((rowsOf n m).map (val n w)) ≤ 2 * val n w (gre n w m)))) = _
    rw [decide_eq_true b2]
  exact .of (a := .rt (.bl true)) rfl ⟨_, rfl, rfl, P7.mono (by omega)⟩
/-- the whole law, by data -/
theorem plain : ∀ ns : List Int, ns.length ≤ 63 → ∃ S', m_law [.scr ns] [] = .ok (.bl true) S' := by
  intro ns hl
  suffices Okw (m_law [.scr ns]) [] fun d S' => d = .bl true by
    obtain ⟨d, S', e, rfl⟩ := this
    exact ⟨S', e⟩
  refine Okw.fn rfl ?_
  show Okw (b_law [some (.d (.scr ns)), none, none, none]) [] _
  unfold b_law
  obtain ⟨ps, hps, hp2⟩ : ∃ ps : List Int, m__law_cells [.scr ns, .int 3] = M.ret (.lst (ps.map D.int)) ∧ ∀ p ∈ ps, 0 ≤ p ∧ p ≤ 2 := by
    have e : ∀ j : Nat, j ≤ 3 → dListRange (.int j) = M.ret (.lst (((List.range j).map fun i : Nat => (i : Int)).map D.int)) := fun j hj => by
      have : j = 0 ∨ j = 1 ∨ j = 2 ∨ j = 3 := by omega
      rcases this with rfl | rfl | rfl | rfl <;> rfl
    obtain ⟨j, hj, ej⟩ : ∃ j : Nat, j ≤ 3 ∧ f2 dMax (fun _ => M.ret (.int 1)) (f2 dMin (gv 1) (f1 dLen (gv 0))) [some (.d (.scr ns)), some (.d (.int 3))] = M.ret (.int j) := by
      refine ⟨if (if (ns.length : Int) < 3 then (ns.length : Int) else 3) > 1 then (if (ns.length : Int) < 3 then (ns.length : Int) else 3).toNat else 1, by split <;> (try split) <;> omega, ?_⟩
      show M.ret (D.int (if (if (ns.length : Int) < 3 then (ns.length : Int) else 3) > 1 then (if (ns.length : Int) < 3 then (ns.length : Int) else 3) else 1)) = _
      congr 2
      split <;> (try split) <;> omega
    refine ⟨(List.range j).map fun i : Nat => (i : Int), fn_ret rfl (ret_ret (f1_ret ej (e j hj))), fun p hp => ?_⟩
    obtain ⟨i, hi, rfl⟩ := List.mem_map.mp hp
    have := List.mem_range.mp hi
    omega
  refine .seq ?_
  refine .bind (.of (a := ps.map D.int) ?_ ?_)
  · show M.bind (m__law_cells [.scr ns, .int 3]) _ = _
    rw [hps]
    rfl
  refine (loopM_okw (k := 0) (emb := D.int) (fun _ δ S => S.all SO.flat = true ∧ ∃ x1 x2, δ = [some (.d (.scr ns)), x1, x2, none]) (fun p hp j δ S => ?_) ⟨rfl, none, none, rfl⟩).mono ?_
  · rintro ⟨hF, x1, x2, rfl⟩
    refine ⟨[some (.d (.scr ns)), some (.d (.int p)), x2, none], rfl, ?_⟩
    refine .seq ?_
    refine .bind (.eq (call_ret (ds := [.scr ns, .int p]) rfl rfl) ?_)
    refine (pot hF (hp2 p hp).1 (hp2 p hp).2).mono ?_
    rintro d S1 ⟨rfl, P1⟩
    refine .of (a := .nx [some (.d (.scr ns)), some (.d (.int p)), some (.d (.ob S.length)), none]) rfl ⟨_, rfl, ?_⟩
    refine .bind (.bind (.bind (.bind ?_)))
    refine .bind (.of (a := [D.int 0, .int 1]) rfl ?_)
    refine .bind ((lcM_okwA (k := 0) (emb := D.int) (xs := [0, 1]) (fun j S' => Pot S.length (200 + 60 * j) S') (fun _ y => y = .bl true) (fun x _ j S' hP => ⟨_, rfl, ?_⟩) (P1.mono (by decide))).mono ?_)
    · refine .eq (call_ret (ds := [.ob S.length]) rfl rfl) ?_
      exact (lawRight (k := 200 + 60 * j) (hP.mono (by omega))).mono fun d S'' h => ⟨h.1, h.2⟩
    rintro ys S2 ⟨P2, zs, e, e2, hz⟩
    have hys : ys = [.bl true, .bl true] := by
      have hall : ∀ y ∈ ys, y = .bl true := by
        rw [e]
        intro y hy
        obtain ⟨z, hz1, rfl⟩ := List.mem_map.mp hy
        exact hz z hz1
      have hlen : ys.length = 2 := by
        have := congrArg List.length e2
        rw [e, List.length_map]
        simpa using this
      match ys, hlen with
      | [a, b], _ => rw [hall a (by simp), hall b (by simp)]
    subst hys
    refine .ret ?_
    refine .of (a := .bl true) rfl ?_
    refine .of (a := true) rfl ?_
    refine .of (a := false) rfl ?_
    exact .of (a := .nx [some (.d (.scr ns)), some (.d (.int p)), some (.d (.ob S.length)), none]) rfl ⟨_, rfl, P2.flat, _, _, rfl⟩
  · rintro o S1 ⟨δ', rfl, _, x1, x2, rfl⟩
    exact ⟨_, rfl, .of (a := .rt (.bl true)) rfl ⟨_, rfl, rfl⟩⟩
end K06

set_option Elab.async false
set_option maxRecDepth 100000
set_option maxHeartbeats 4000000
open PySem PySem.Spec PyProof.Rows L2 DL in
theorem K06.fin {P : PySem.Program} {w : PySem.World} {K : PySem.W.Frag} {mg : PySem.Str → Option PySem.Value} {fa : PySem.Addr} (T : K06.Tops K mg) (hmg : mg "law" = some (.ref fa)) : ∃ fd : PySem.FuncData, (∀ (s : PySem.Shared) (u : PySem.Value), BindsTo s fd ⟨[u], []⟩ [("script", u)]) ∧ ∀ base : PySem.Heap, K.In base → base.Ns PySem.mainGlobals mg → L2.FnG P w K mg base L2.CX0 11 fa fd ["script"] (DL.spScr K) :=
  DL.law_end T.f_law hmg (T.f_law.F.bind1 fun _ _ _ _ _ _ _ => rfl) (fun base => K06.ok_law T) rfl (K06.plain)
open PySem PySem.W PyProof.Rows
set_option maxHeartbeats 0 in
theorem PySem.Challenge.cw_eachaddsless_k06_whole_posts_moved_till_holds : PySem.Challenge.rw_eachaddsless_k06_whole_posts_moved_till.Holds := by
  w_on; o_law; k_head; (case hw => w_witness2)
  k_fill
  refine L2.walk_ofG (l := PySem.Challenge.rw_eachaddsless_k06_whole_posts_moved_till) (n := 63) (k := 11) (x := "script") (CX := fun _ => L2.CX0) (sp := fun w => DL.spScr _) rfl (by decide) rfl ⟨rfl, by decide, by decide⟩ (fun w h Y => PySem.W.kIn_of Y) ?F (fun _ _ a ns hl hO hS => ⟨a, ns, rfl, DL.scrAt hO hS, hl, fun _ _ e => e⟩) (fun _ _ _ _ _ h => h)
  case F =>
    intro w mg fa h KX G hmg
    refine' K06.fin ?T hmg
    case T =>
      refine' {
        c_FALLS := DL.topStr KX G ?c_FALLS,
        c_GROWS := DL.topStr KX G ?c_GROWS,
        c_LESS := DL.topStr KX G ?c_LESS,
        c_MORE := DL.topStr KX G ?c_MORE,
        c_MOST_NIGHTS := DL.topInt KX G ?c_MOST_NIGHTS,
        c_MOST_POSTS := DL.topInt KX G ?c_MOST_POSTS,
        c_MOST_WORTH := DL.topInt KX G ?c_MOST_WORTH,
        c_MOVE := DL.topStr KX G ?c_MOVE,
        c_SETTLED := DL.topStr KX G ?c_SETTLED,
        c_THREE := DL.topInt KX G ?c_THREE,
        b_abs := DL.topNone KX G ?b_abs,
        b_all := DL.topNone KX G ?b_all,
        b_any := DL.topNone KX G ?b_any,
        b_bool := DL.topNone KX G ?b_bool,
        b_dict := DL.topNone KX G ?b_dict,
        b_enumerate := DL.topNone KX G ?b_enumerate,
        b_int := DL.topNone KX G ?b_int,
        b_isinstance := DL.topNone KX G ?b_isinstance,
        b_len := DL.topNone KX G ?b_len,
        b_list := DL.topNone KX G ?b_list,
        b_max := DL.topNone KX G ?b_max,
        b_min := DL.topNone KX G ?b_min,
        b_range := DL.topNone KX G ?b_range,
        b_repr := DL.topNone KX G ?b_repr,
        b_sorted := DL.topNone KX G ?b_sorted,
        b_str := DL.topNone KX G ?b_str,
        b_sum := DL.topNone KX G ?b_sum,
        b_tuple := DL.topNone KX G ?b_tuple,
        b_zip := DL.topNone KX G ?b_zip,
        f__law_cells := DL.topFn_mk KX G ?a__law_cells ?l__law_cells ?c__law_cells ?k__law_cells,
        f__law_pot := DL.topFn_mk KX G ?a__law_pot ?l__law_pot ?c__law_pot ?k__law_pot,
        f__law_lots := DL.topFn_mk KX G ?a__law_lots ?l__law_lots ?c__law_lots ?k__law_lots,
        f__law_take := DL.topFn_mk KX G ?a__law_take ?l__law_take ?c__law_take ?k__law_take,
        f__law_worths := DL.topFn_mk KX G ?a__law_worths ?l__law_worths ?c__law_worths ?k__law_worths,
        f_is_integer := DL.topFn_mk KX G ?a_is_integer ?l_is_integer ?c_is_integer ?k_is_integer,
        f_is_between := DL.topFn_mk KX G ?a_is_between ?l_is_between ?c_is_between ?k_is_between,
        f_are_between := DL.topFn_mk KX G ?a_are_between ?l_are_between ?c_are_between ?k_are_between,
        f_lots_of := DL.topFn_mk KX G ?a_lots_of ?l_lots_of ?c_lots_of ?k_lots_of,
        f_all_of := DL.topFn_mk KX G ?a_all_of ?l_all_of ?c_all_of ?k_all_of,
        f_every_of := DL.topFn_mk KX G ?a_every_of ?l_every_of ?c_every_of ?k_every_of,
        f_are_worths := DL.topFn_mk KX G ?a_are_worths ?l_are_worths ?c_are_worths ?k_are_worths,
        f_check_worths := DL.topFn_mk KX G ?a_check_worths ?l_check_worths ?c_check_worths ?k_check_worths,
        f_table_of := DL.topFn_mk KX G ?a_table_of ?l_table_of ?c_table_of ?k_table_of,
        f_less_of := DL.topFn_mk KX G ?a_less_of ?l_less_of ?c_less_of ?k_less_of,
        f_rest_of := DL.topFn_mk KX G ?a_rest_of ?l_rest_of ?c_rest_of ?k_rest_of,
        f_with_post := DL.topFn_mk KX G ?a_with_post ?l_with_post ?c_with_post ?k_with_post,
        f_extra := DL.topFn_mk KX G ?a_extra ?l_extra ?c_extra ?k_extra,
        f_all_extras := DL.topFn_mk KX G ?a_all_extras ?l_all_extras ?c_all_extras ?k_all_extras,
        f_is_less := DL.topFn_mk KX G ?a_is_less ?l_is_less ?c_is_less ?k_is_less,
        f_all_gains := DL.topFn_mk KX G ?a_all_gains ?l_all_gains ?c_all_gains ?k_all_gains,
        f_does_grow := DL.topFn_mk KX G ?a_does_grow ?l_does_grow ?c_does_grow ?k_does_grow,
        f_told_less := DL.topFn_mk KX G ?a_told_less ?l_told_less ?c_told_less ?k_told_less,
        f_grows := DL.topFn_mk KX G ?a_grows ?l_grows ?c_grows ?k_grows,
        f_check_less := DL.topFn_mk KX G ?a_check_less ?l_check_less ?c_check_less ?k_check_less,
        f_check_nights := DL.topFn_mk KX G ?a_check_nights ?l_check_nights ?c_check_nights ?k_check_nights,
        f_is_plan := DL.topFn_mk KX G ?a_is_plan ?l_is_plan ?c_is_plan ?k_is_plan,
        f_check_plan := DL.topFn_mk KX G ?a_check_plan ?l_check_plan ?c_check_plan ?k_check_plan,
        f_check_settling := DL.topFn_mk KX G ?a_check_settling ?l_check_settling ?c_check_settling ?k_check_settling,
        f_lots_by := DL.topFn_mk KX G ?a_lots_by ?l_lots_by ?c_lots_by ?k_lots_by,
        f_worths_by_night := DL.topFn_mk KX G ?a_worths_by_night ?l_worths_by_night ?c_worths_by_night ?k_worths_by_night,
        f_move_done := DL.topFn_mk KX G ?a_move_done ?l_move_done ?c_move_done ?k_move_done,
        f_is_better := DL.topFn_mk KX G ?a_is_better ?l_is_better ?c_is_better ?k_is_better,
        f_better_moves := DL.topFn_mk KX G ?a_better_moves ?l_better_moves ?c_better_moves ?k_better_moves,
        f_settling := DL.topFn_mk KX G ?a_settling ?l_settling ?c_settling ?k_settling,
        f__law_table := DL.topFn_mk KX G ?a__law_table ?l__law_table ?c__law_table ?k__law_table,
        f__law_nights := DL.topFn_mk KX G ?a__law_nights ?l__law_nights ?c__law_nights ?k__law_nights,
        f__law_each := DL.topFn_mk KX G ?a__law_each ?l__law_each ?c__law_each ?k__law_each,
        f__law_done := DL.topFn_mk KX G ?a__law_done ?l__law_done ?c__law_done ?k__law_done,
        f__law_better := DL.topFn_mk KX G ?a__law_better ?l__law_better ?c__law_better ?k__law_better,
        f_settled := DL.topFn_mk KX G ?a_settled ?l_settled ?c_settled ?k_settled,
        f__law_is_row := DL.topFn_mk KX G ?a__law_is_row ?l__law_is_row ?c__law_is_row ?k__law_is_row,
        f_check_post := DL.topFn_mk KX G ?a_check_post ?l_check_post ?c_check_post ?k_check_post,
        f_moved := DL.topFn_mk KX G ?a_moved ?l_moved ?c_moved ?k_moved,
        f_shows_settled := DL.topFn_mk KX G ?a_shows_settled ?l_shows_settled ?c_shows_settled ?k_shows_settled,
        f_is_move := DL.topFn_mk KX G ?a_is_move ?l_is_move ?c_is_move ?k_is_move,
        f_shows_settling := DL.topFn_mk KX G ?a_shows_settling ?l_shows_settling ?c_shows_settling ?k_shows_settling,
        f_check_asked := DL.topFn_mk KX G ?a_check_asked ?l_check_asked ?c_check_asked ?k_check_asked,
        f_greedy_plan := DL.topFn_mk KX G ?a_greedy_plan ?l_greedy_plan ?c_greedy_plan ?k_greedy_plan,
        f__law_greedy := DL.topFn_mk KX G ?a__law_greedy ?l__law_greedy ?c__law_greedy ?k__law_greedy,
        f__law_plans := DL.topFn_mk KX G ?a__law_plans ?l__law_plans ?c__law_plans ?k__law_plans,
        f__law_right := DL.topFn_mk KX G ?a__law_right ?l__law_right ?c__law_right ?k__law_right,
        f_law := DL.topFn_mk KX G ?a_law ?l_law ?c_law ?k_law }
      (case c_FALLS => k_is)
      (case c_GROWS => k_is)
      (case c_LESS => k_is)
      (case c_MORE => k_is)
      (case c_MOST_NIGHTS => k_is)
      (case c_MOST_POSTS => k_is)
      (case c_MOST_WORTH => k_is)
      (case c_MOVE => k_is)
      (case c_SETTLED => k_is)
      (case c_THREE => k_is)
      (case b_abs => k_is)
      (case b_all => k_is)
      (case b_any => k_is)
      (case b_bool => k_is)
      (case b_dict => k_is)
      (case b_enumerate => k_is)
      (case b_int => k_is)
      (case b_isinstance => k_is)
      (case b_len => k_is)
      (case b_list => k_is)
      (case b_max => k_is)
      (case b_min => k_is)
      (case b_range => k_is)
      (case b_repr => k_is)
      (case b_sorted => k_is)
      (case b_str => k_is)
      (case b_sum => k_is)
      (case b_tuple => k_is)
      (case b_zip => k_is)
      (case a__law_cells => k_is)
      (case l__law_cells => k_is)
      (case c__law_cells => k_is)
      (case k__law_cells => k_is)
      (case a__law_pot => k_is)
      (case l__law_pot => k_is)
      (case c__law_pot => k_is)
      (case k__law_pot => k_is)
      (case a__law_lots => k_is)
      (case l__law_lots => k_is)
      (case c__law_lots => k_is)
      (case k__law_lots => k_is)
      (case a__law_take => k_is)
      (case l__law_take => k_is)
      (case c__law_take => k_is)
      (case k__law_take => k_is)
      (case a__law_worths => k_is)
      (case l__law_worths => k_is)
      (case c__law_worths => k_is)
      (case k__law_worths => k_is)
      (case a_is_integer => k_is)
      (case l_is_integer => k_is)
      (case c_is_integer => k_is)
      (case k_is_integer => k_is)
      (case a_is_between => k_is)
      (case l_is_between => k_is)
      (case c_is_between => k_is)
      (case k_is_between => k_is)
      (case a_are_between => k_is)
      (case l_are_between => k_is)
      (case c_are_between => k_is)
      (case k_are_between => k_is)
      (case a_lots_of => k_is)
      (case l_lots_of => k_is)
      (case c_lots_of => k_is)
      (case k_lots_of => k_is)
      (case a_all_of => k_is)
      (case l_all_of => k_is)
      (case c_all_of => k_is)
      (case k_all_of => k_is)
      (case a_every_of => k_is)
      (case l_every_of => k_is)
      (case c_every_of => k_is)
      (case k_every_of => k_is)
      (case a_are_worths => k_is)
      (case l_are_worths => k_is)
      (case c_are_worths => k_is)
      (case k_are_worths => k_is)
      (case a_check_worths => k_is)
      (case l_check_worths => k_is)
      (case c_check_worths => k_is)
      (case k_check_worths => k_is)
      (case a_table_of => k_is)
      (case l_table_of => k_is)
      (case c_table_of => k_is)
      (case k_table_of => k_is)
      (case a_less_of => k_is)
      (case l_less_of => k_is)
      (case c_less_of => k_is)
      (case k_less_of => k_is)
      (case a_rest_of => k_is)
      (case l_rest_of => k_is)
      (case c_rest_of => k_is)
      (case k_rest_of => k_is)
      (case a_with_post => k_is)
      (case l_with_post => k_is)
      (case c_with_post => k_is)
      (case k_with_post => k_is)
      (case a_extra => k_is)
      (case l_extra => k_is)
      (case c_extra => k_is)
      (case k_extra => k_is)
      (case a_all_extras => k_is)
      (case l_all_extras => k_is)
      (case c_all_extras => k_is)
      (case k_all_extras => k_is)
      (case a_is_less => k_is)
      (case l_is_less => k_is)
      (case c_is_less => k_is)
      (case k_is_less => k_is)
      (case a_all_gains => k_is)
      (case l_all_gains => k_is)
      (case c_all_gains => k_is)
      (case k_all_gains => k_is)
      (case a_does_grow => k_is)
      (case l_does_grow => k_is)
      (case c_does_grow => k_is)
      (case k_does_grow => k_is)
      (case a_told_less => k_is)
      (case l_told_less => k_is)
      (case c_told_less => k_is)
      (case k_told_less => k_is)
      (case a_grows => k_is)
      (case l_grows => k_is)
      (case c_grows => k_is)
      (case k_grows => k_is)
      (case a_check_less => k_is)
      (case l_check_less => k_is)
      (case c_check_less => k_is)
      (case k_check_less => k_is)
      (case a_check_nights => k_is)
      (case l_check_nights => k_is)
      (case c_check_nights => k_is)
      (case k_check_nights => k_is)
      (case a_is_plan => k_is)
      (case l_is_plan => k_is)
      (case c_is_plan => k_is)
      (case k_is_plan => k_is)
      (case a_check_plan => k_is)
      (case l_check_plan => k_is)
      (case c_check_plan => k_is)
      (case k_check_plan => k_is)
      (case a_check_settling => k_is)
      (case l_check_settling => k_is)
      (case c_check_settling => k_is)
      (case k_check_settling => k_is)
      (case a_lots_by => k_is)
      (case l_lots_by => k_is)
      (case c_lots_by => k_is)
      (case k_lots_by => k_is)
      (case a_worths_by_night => k_is)
      (case l_worths_by_night => k_is)
      (case c_worths_by_night => k_is)
      (case k_worths_by_night => k_is)
      (case a_move_done => k_is)
      (case l_move_done => k_is)
      (case c_move_done => k_is)
      (case k_move_done => k_is)
      (case a_is_better => k_is)
      (case l_is_better => k_is)
      (case c_is_better => k_is)
      (case k_is_better => k_is)
      (case a_better_moves => k_is)
      (case l_better_moves => k_is)
      (case c_better_moves => k_is)
      (case k_better_moves => k_is)
      (case a_settling => k_is)
      (case l_settling => k_is)
      (case c_settling => k_is)
      (case k_settling => k_is)
      (case a__law_table => k_is)
      (case l__law_table => k_is)
      (case c__law_table => k_is)
      (case k__law_table => k_is)
      (case a__law_nights => k_is)
      (case l__law_nights => k_is)
      (case c__law_nights => k_is)
      (case k__law_nights => k_is)
      (case a__law_each => k_is)
      (case l__law_each => k_is)
      (case c__law_each => k_is)
      (case k__law_each => k_is)
      (case a__law_done => k_is)
      (case l__law_done => k_is)
      (case c__law_done => k_is)
      (case k__law_done => k_is)
      (case a__law_better => k_is)
      (case l__law_better => k_is)
      (case c__law_better => k_is)
      (case k__law_better => k_is)
      (case a_settled => k_is)
      (case l_settled => k_is)
      (case c_settled => k_is)
      (case k_settled => k_is)
      (case a__law_is_row => k_is)
      (case l__law_is_row => k_is)
      (case c__law_is_row => k_is)
      (case k__law_is_row => k_is)
      (case a_check_post => k_is)
      (case l_check_post => k_is)
      (case c_check_post => k_is)
      (case k_check_post => k_is)
      (case a_moved => k_is)
      (case l_moved => k_is)
      (case c_moved => k_is)
      (case k_moved => k_is)
      (case a_shows_settled => k_is)
      (case l_shows_settled => k_is)
      (case c_shows_settled => k_is)
      (case k_shows_settled => k_is)
      (case a_is_move => k_is)
      (case l_is_move => k_is)
      (case c_is_move => k_is)
      (case k_is_move => k_is)
      (case a_shows_settling => k_is)
      (case l_shows_settling => k_is)
      (case c_shows_settling => k_is)
      (case k_shows_settling => k_is)
      (case a_check_asked => k_is)
      (case l_check_asked => k_is)
      (case c_check_asked => k_is)
      (case k_check_asked => k_is)
      (case a_greedy_plan => k_is)
      (case l_greedy_plan => k_is)
      (case c_greedy_plan => k_is)
      (case k_greedy_plan => k_is)
      (case a__law_greedy => k_is)
      (case l__law_greedy => k_is)
      (case c__law_greedy => k_is)
      (case k__law_greedy => k_is)
      (case a__law_plans => k_is)
      (case l__law_plans => k_is)
      (case c__law_plans => k_is)
      (case k__law_plans => k_is)
      (case a__law_right => k_is)
      (case l__law_right => k_is)
      (case c__law_right => k_is)
      (case k__law_right => k_is)
      (case a_law => k_is)
      (case l_law => k_is)
      (case c_law => k_is)
      (case k_law => k_is)

