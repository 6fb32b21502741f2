import PyProof.Rows.All
import Wide.All
import OpenK.AllK
import Wide.FinOn
import HandS.ForMost
import HandS.IsInst
import HandS.Deep
import HandS.DictComp
import HandS.Zip
import HandS.TupAny
import HandS.Flow
import HandS.Style
import HandS.TupMul
import HandS.Wide
import HandS.Defaults
import HandS.EndBits
import PySem.Challenge.RW_blamekeep_k98_whole_wide_types_without_r
set_option Elab.async false
set_option linter.all false
set_option maxRecDepth 100000
/-! DV: plain data values over the hand layer: what a walk computes, as functions of data. -/
namespace DV
open L2 PySem PySem.Spec PyProof.Rows

/-- plain data -/
inductive D where
  | non | bl (b : Bool) | int (i : Int) | str (x : Str) | ty (n : String) | fn (x : Str)
  | tup (xs : List D) | lst (xs : List D) | dic (ks vs : List D) | scr (ns : List Int)
  | ins (c : Str) (ns : List Str) (os : List Bool) (vs : List D)

structure Kc where
  K : PySem.W.Frag
  mg : Str → Option Value

def dkey : Key → D
  | .inl i => .int i
  | .inr x => .str x

mutual
/-- the value v stands for d: F are the addresses that never change any more -/
def Rep (K : Kc) (F : Addr → Prop) (H : Hp) : D → V → Prop
  | .non, v => v = .non
  | .bl b, v => v = .bl b
  | .int i, v => v = .int i
  | .str x, v => v = .str x
  | .ty n, v => v = .ty n
  | .fn x, v => ∃ f, v = .ref f ∧ K.mg x = some (.ref f)
  | .tup ds, v => ∃ a vs, v = .ref a ∧ SqT K.K H a vs ∧ RepL K F H ds vs
  | .scr ns, v => ∃ a, v = .ref a ∧ ((∃ o, H a = some (.frz o (.lst (ns.map V.int)))) ∨ ∀ H', SqL K.K H' a (ns.map V.int))
  | .lst ds, v => ∃ a vs, v = .ref a ∧ F a ∧ H a = some (.lst vs) ∧ RepL K F H ds vs
  | .dic ks ds, v => ∃ a kvs, v = .ref a ∧ F a ∧ Rd H a (.dK kvs) ∧ ks = kvs.map (fun p => dkey p.1) ∧ RepL K F H ds (kvs.map (·.2))
  | .ins _ _ _ _, _ => False
def RepL (K : Kc) (F : Addr → Prop) (H : Hp) : List D → List V → Prop
  | [], vs => vs = []
  | d :: ds, vs => ∃ v r, vs = v :: r ∧ Rep K F H d v ∧ RepL K F H ds r
end

/-- what a reading leans on is still there -/
structure Stb (F : Addr → Prop) (H : Hp) (F2 : Addr → Prop) (H2 : Hp) : Prop where
  fm : ∀ b, F b → F2 b
  tu : ∀ b vs, Rd H b (.tup vs) → Rd H2 b (.tup vs)
  ls : ∀ b vs, F b → H b = some (.lst vs) → H2 b = some (.lst vs)
  rd : ∀ b kvs, F b → Rd H b (.dK kvs) → Rd H2 b (.dK kvs)
  fz : ∀ b o vs, H b = some (.frz o (.lst vs)) → H2 b = some (.frz o (.lst vs))
theorem Stb.refl {F : Addr → Prop} {H : Hp} : Stb F H F H := ⟨fun _ h => h, fun _ _ h => h, fun _ _ _ h => h, fun _ _ _ h => h, fun _ _ _ h => h⟩
theorem Stb.trans {F F1 F2 : Addr → Prop} {H H1 H2 : Hp} (a : Stb F H F1 H1) (b : Stb F1 H1 F2 H2) : Stb F H F2 H2 :=
  ⟨fun x h => b.fm x (a.fm x h), fun x vs h => b.tu x vs (a.tu x vs h), fun x u f h => b.ls x u (a.fm x f) (a.ls x u f h), fun x u f h => b.rd x u (a.fm x f) (a.rd x u f h), fun x o u h => b.fz x o u (a.fz x o u h)⟩
theorem Stb.sqT {F F2 : Addr → Prop} {H H2 : Hp} (s : Stb F H F2 H2) {K : PySem.W.Frag} {a : Addr} {vs : List V} (h : SqT K H a vs) : SqT K H2 a vs := by
  rcases h with h | h
  · exact .inl (s.tu _ _ h)
  · exact .inr h

mutual
theorem Rep.stb {K : Kc} {F F2 : Addr → Prop} {H H2 : Hp} (s : Stb F H F2 H2) : ∀ (d : D) (v : V), Rep K F H d v → Rep K F2 H2 d v
  | .non, v, h => by unfold Rep at h ⊢; exact h
  | .bl b, v, h => by unfold Rep at h ⊢; exact h
  | .int i, v, h => by unfold Rep at h ⊢; exact h
  | .str x, v, h => by unfold Rep at h ⊢; exact h
  | .ty n, v, h => by unfold Rep at h ⊢; exact h
  | .fn x, v, h => by unfold Rep at h ⊢; exact h
  | .tup ds, v, h => by
    unfold Rep at h ⊢
    obtain ⟨a, vs, e, h1, h2⟩ := h
    exact ⟨a, vs, e, s.sqT h1, RepL.stb s ds vs h2⟩
  | .lst ds, v, h => by
    unfold Rep at h ⊢
    obtain ⟨a, vs, e, h0, h1, h2⟩ := h
    exact ⟨a, vs, e, s.fm a h0, s.ls a _ h0 h1, RepL.stb s ds vs h2⟩
  | .scr ns, v, h => by
    unfold Rep at h ⊢
    obtain ⟨a, e, h1⟩ := h
    exact ⟨a, e, h1.imp_left fun ⟨o, h1⟩ => ⟨o, s.fz a o _ h1⟩⟩
  | .dic ks ds, v, h => by
    unfold Rep at h ⊢
    obtain ⟨a, kvs, e, h0, h1, h3, h2⟩ := h
    exact ⟨a, kvs, e, s.fm a h0, s.rd a _ h0 h1, h3, RepL.stb s ds _ h2⟩
  | .ins _ _ _ _, v, h => by unfold Rep at h; exact h.elim
theorem RepL.stb {K : Kc} {F F2 : Addr → Prop} {H H2 : Hp} (s : Stb F H F2 H2) : ∀ (ds : List D) (vs : List V), RepL K F H ds vs → RepL K F2 H2 ds vs
  | [], vs, h => by unfold RepL at h ⊢; exact h
  | d :: ds, vs, h => by
    unfold RepL at h ⊢
    obtain ⟨v, r, e, h1, h2⟩ := h
    exact ⟨v, r, e, Rep.stb s d v h1, RepL.stb s ds r h2⟩
end

theorem RepL.length {K : Kc} {F : Addr → Prop} {H : Hp} : ∀ {ds : List D} {vs : List V}, RepL K F H ds vs → vs.length = ds.length
  | [], vs, h => by unfold RepL at h; subst h; rfl
  | d :: ds, vs, h => by
    unfold RepL at h
    obtain ⟨v, r, rfl, h1, h2⟩ := h
    simp [RepL.length h2]
theorem RepL.nil {K : Kc} {F : Addr → Prop} {H : Hp} : RepL K F H [] [] := by unfold RepL; rfl
theorem RepL.cons {K : Kc} {F : Addr → Prop} {H : Hp} {d : D} {ds : List D} {v : V} {vs : List V} (h : Rep K F H d v) (t : RepL K F H ds vs) : RepL K F H (d :: ds) (v :: vs) := by
  unfold RepL; exact ⟨v, vs, rfl, h, t⟩
theorem RepL.append {K : Kc} {F : Addr → Prop} {H : Hp} : ∀ {ds es : List D} {vs us : List V}, RepL K F H ds vs → RepL K F H es us → RepL K F H (ds ++ es) (vs ++ us)
  | [], es, vs, us, h, k => by unfold RepL at h; subst h; exact k
  | d :: ds, es, vs, us, h, k => by
    unfold RepL at h
    obtain ⟨v, r, rfl, h1, h2⟩ := h
    exact RepL.cons h1 (RepL.append h2 k)
theorem RepL.get {K : Kc} {F : Addr → Prop} {H : Hp} : ∀ {ds : List D} {vs : List V} {i : Nat} {d : D}, RepL K F H ds vs → ds[i]? = some d → ∃ v, vs[i]? = some v ∧ Rep K F H d v
  | [], _, _, _, _, e => by simp at e
  | d :: ds, vs, 0, d', h, e => by
    unfold RepL at h
    obtain ⟨v, r, rfl, h1, h2⟩ := h
    simp at e; subst e
    exact ⟨v, rfl, h1⟩
  | d :: ds, vs, i + 1, d', h, e => by
    unfold RepL at h
    obtain ⟨v, r, rfl, h1, h2⟩ := h
    obtain ⟨v', e', q⟩ := RepL.get (i := i) h2 (by simpa using e)
    exact ⟨v', by simpa using e', q⟩
theorem RepL.set {K : Kc} {F : Addr → Prop} {H : Hp} {d' : D} {v' : V} (q : Rep K F H d' v') : ∀ {ds : List D} {vs : List V} (i : Nat), RepL K F H ds vs → RepL K F H (ds.set i d') (vs.set i v')
  | [], _, _, h => by unfold RepL at h; subst h; exact RepL.nil
  | d :: ds, vs, 0, h => by
    unfold RepL at h
    obtain ⟨v, r, rfl, h1, h2⟩ := h
    exact RepL.cons q h2
  | d :: ds, vs, i + 1, h => by
    unfold RepL at h
    obtain ⟨v, r, rfl, h1, h2⟩ := h
    exact RepL.cons h1 (RepL.set q i h2)
theorem RepL.drop {K : Kc} {F : Addr → Prop} {H : Hp} : ∀ {ds : List D} {vs : List V} (n : Nat), RepL K F H ds vs → RepL K F H (ds.drop n) (vs.drop n)
  | _, _, 0, h => h
  | [], _, n + 1, h => by unfold RepL at h; subst h; exact RepL.nil
  | d :: ds, vs, n + 1, h => by
    unfold RepL at h
    obtain ⟨v, r, rfl, h1, h2⟩ := h
    exact RepL.drop n h2
theorem RepL.take {K : Kc} {F : Addr → Prop} {H : Hp} : ∀ {ds : List D} {vs : List V} (n : Nat), RepL K F H ds vs → RepL K F H (ds.take n) (vs.take n)
  | _, _, 0, h => RepL.nil
  | [], _, n + 1, h => by unfold RepL at h; subst h; exact RepL.nil
  | d :: ds, vs, n + 1, h => by
    unfold RepL at h
    obtain ⟨v, r, rfl, h1, h2⟩ := h
    exact RepL.cons h1 (RepL.take n h2)

/-- from one state to a later one: as is what may change (the frame's own things) -/
structure Ext (F : Addr → Prop) (as : List Addr) (H : Hp) (F' : Addr → Prop) (as' : List Addr) (H' : Hp) : Prop where
  stb : Stb F H F' H'
  keep : ∀ b u, H b = some u → b ∉ as → H' b = some u
  dom : ∀ b, H' b = none → H b = none
  fnew : ∀ b, F' b → F b ∨ b ∈ as ∨ H b = none
  anew : ∀ b, b ∈ as' → b ∈ as ∨ H b = none
  fk : (∀ b, F b → H b ≠ none) → ∀ b, F' b → H' b ≠ none
theorem Ext.refl {F : Addr → Prop} {as : List Addr} {H : Hp} : Ext F as H F as H := ⟨.refl, fun _ _ h _ => h, fun _ h => h, fun _ h => .inl h, fun _ h => .inl h, fun h => h⟩
theorem Ext.trans {F F1 F2 : Addr → Prop} {as as1 as2 : List Addr} {H H1 H2 : Hp} (a : Ext F as H F1 as1 H1) (b : Ext F1 as1 H1 F2 as2 H2) : Ext F as H F2 as2 H2 := by
  refine ⟨a.stb.trans b.stb, fun x u h n => ?_, fun x h => a.dom x (b.dom x h), fun x h => ?_, fun x h => ?_, fun h => b.fk (a.fk h)⟩
  · refine b.keep x u (a.keep x u h n) fun m => ?_
    rcases a.anew x m with z | z
    · exact n z
    · rw [h] at z; cases z
  · rcases b.fnew x h with z | z | z
    · exact a.fnew x z
    · exact .inr (a.anew x z)
    · exact .inr (.inr (a.dom x z))
  · rcases b.anew x h with z | z
    · exact a.anew x z
    · exact .inr (a.dom x z)
/-- fewer own things at the end, more at the start -/
theorem Ext.sub {F F1 : Addr → Prop} {as as1 as2 : List Addr} {H H1 : Hp} (a : Ext F as H F1 as1 H1) (h : ∀ b, b ∈ as2 → b ∈ as1) : Ext F as H F1 as2 H1 :=
  ⟨a.stb, a.keep, a.dom, a.fnew, fun x m => a.anew x (h x m), a.fk⟩
/-- a frame around -/
theorem Ext.frame {F F1 : Addr → Prop} {as as1 fr : List Addr} {H H1 : Hp} (a : Ext F as H F1 as1 H1) : Ext F (as ++ fr) H F1 (as1 ++ fr) H1 :=
  ⟨a.stb, fun x u h n => a.keep x u h fun m => n (List.mem_append_left _ m), a.dom, fun x h => (a.fnew x h).imp_right (·.imp_left fun m => List.mem_append_left _ m),
    fun x h => (List.mem_append.mp h).elim (fun m => (a.anew x m).imp_left fun m => List.mem_append_left _ m) fun m => .inl (List.mem_append_right _ m), a.fk⟩
theorem Ext.frameL {F F1 : Addr → Prop} {as as1 fr : List Addr} {H H1 : Hp} (a : Ext F as H F1 as1 H1) : Ext F (fr ++ as) H F1 (fr ++ as1) H1 :=
  ⟨a.stb, fun x u h n => a.keep x u h fun m => n (List.mem_append_right _ m), a.dom, fun x h => (a.fnew x h).imp_right (·.imp_left fun m => List.mem_append_right _ m),
    fun x h => (List.mem_append.mp h).elim (fun m => .inl (List.mem_append_left _ m)) fun m => (a.anew x m).imp_left fun m => List.mem_append_right _ m, a.fk⟩
/-- nothing of the frame's own was touched -/
theorem Ext.pure {F F1 : Addr → Prop} {as : List Addr} {H H1 : Hp} (a : Ext F [] H F1 [] H1) : Ext F as H F1 as H1 :=
  ⟨a.stb, fun x u h _ => a.keep x u h (by simp), a.dom, fun x h => (a.fnew x h).imp_right (·.imp_left fun m => absurd m (by simp)), fun x h => .inl h, a.fk⟩

theorem Rd.upd {H : Hp} {p b : Addr} {o u : HO} (hp : H p = none) (h : Rd H b u) : Rd (upd H p o) b u := by
  rcases h with h | ⟨w, h⟩
  · exact .inl (by rw [upd_ne (ne_of_none h hp)]; exact h)
  · exact .inr ⟨w, by rw [upd_ne (ne_of_none h hp)]; exact h⟩
/-- a new object: among what never changes -/
theorem Ext.newF {F : Addr → Prop} {as : List Addr} {H : Hp} {p : Addr} {o : HO} (hp : H p = none) : Ext F as H (fun b => F b ∨ b = p) as (L2.upd H p o) := by
  refine ⟨⟨fun b h => .inl h, fun b vs h => Rd.upd hp h, fun b vs _ h => by rw [upd_ne (ne_of_none h hp)]; exact h, fun b u _ h => Rd.upd hp h, fun b o vs h => by rw [upd_ne (ne_of_none h hp)]; exact h⟩, fun b u h _ => by rw [upd_ne (ne_of_none h hp)]; exact h, fun b h => ?_, fun b h => ?_, fun b h => .inl h, fun k b h => ?_⟩
  · by_cases e : b = p
    · rw [e]; exact hp
    · rw [upd_ne e] at h; exact h
  · rcases h with h | h
    · exact .inl h
    · exact .inr (.inr (by rw [h]; exact hp))
  · by_cases e : b = p
    · rw [e, upd_same]; exact fun z => by cases z
    · rw [upd_ne e]; exact k b (h.resolve_right e)
/-- .. the frame's own -/
theorem Ext.newO {F : Addr → Prop} {as : List Addr} {H : Hp} {p : Addr} {o : HO} (hp : H p = none) : Ext F as H F (p :: as) (L2.upd H p o) := by
  refine ⟨⟨fun b h => h, fun b vs h => Rd.upd hp h, fun b vs _ h => by rw [upd_ne (ne_of_none h hp)]; exact h, fun b u _ h => Rd.upd hp h, fun b o vs h => by rw [upd_ne (ne_of_none h hp)]; exact h⟩, fun b u h _ => by rw [upd_ne (ne_of_none h hp)]; exact h, fun b h => ?_, fun b h => .inl h, fun b h => ?_, fun k b h => ?_⟩
  · by_cases e : b = p
    · rw [e]; exact hp
    · rw [upd_ne e] at h; exact h
  · rcases List.mem_cons.mp h with h | h
    · exact .inr (by rw [h]; exact hp)
    · exact .inl h
  · by_cases e : b = p
    · rw [e, upd_same]; exact fun z => by cases z
    · rw [upd_ne e]; exact k b h
/-- an own object is written -/
theorem Ext.write {F : Addr → Prop} {as : List Addr} {H : Hp} {p : Addr} {o u : HO} (hp : H p = some u) (hm : ∀ vs, u ≠ .tup vs) (hz : ∀ q w, u ≠ .frz q w) (ha : p ∈ as) (hf : ¬ F p) : Ext F as H F as (L2.upd H p o) := by
  have rd : ∀ b w, b ≠ p → Rd H b w → Rd (L2.upd H p o) b w := fun b w n h => by
    rcases h with h | ⟨z, h⟩
    · exact .inl (by rw [upd_ne n]; exact h)
    · exact .inr ⟨z, by rw [upd_ne n]; exact h⟩
  refine ⟨⟨fun b h => h, fun b vs h => rd b _ (fun e => ?_) h, fun b w f h => by rw [upd_ne (fun e => hf (by rw [← e]; exact f))]; exact h, fun b w f h => rd b _ (fun e => hf (by rw [← e]; exact f)) h, fun b q vs h => by rw [upd_ne (fun e => hz q _ (by rw [e, hp] at h; exact Option.some.inj h))]; exact h⟩, fun b w h n => by rw [upd_ne (fun e => n (by rw [e]; exact ha))]; exact h, fun b h => ?_, fun b h => .inl h, fun b h => .inl h, fun k b h => ?_⟩
  · subst e
    rcases h with h | ⟨z, h⟩
    · rw [hp] at h; exact hm vs (Option.some.inj h)
    · rw [hp] at h; exact hz z _ (Option.some.inj h)
  · by_cases e : b = p
    · rw [e, upd_same] at h; cases h
    · rw [upd_ne e] at h; exact h
  · by_cases e : b = p
    · rw [e, upd_same]; exact fun z => by cases z
    · rw [upd_ne e]; exact k b h
/-- an own object is frozen -/
theorem Ext.freeze {F : Addr → Prop} {as as' bs : List Addr} {H : Hp} (hs : ∀ b, b ∈ bs → b ∈ as) (h' : ∀ b, b ∈ as' → b ∈ as) (ht : ∀ b, b ∈ bs → H b ≠ none) : Ext F as H (fun b => F b ∨ b ∈ bs) as' H :=
  ⟨⟨fun b h => .inl h, fun _ _ h => h, fun _ _ _ h => h, fun _ _ _ h => h, fun _ _ _ h => h⟩, fun _ _ h _ => h, fun _ h => h, fun b h => h.elim .inl fun m => .inr (.inl (hs b m)), fun b h => .inl (h' b h), fun k b h => h.elim (k b) (ht b)⟩

/-! ### what one frame owns -/
def OwnC (K : Kc) (F : Addr → Prop) (H : Hp) : D → V → List Addr → Prop
  | .lst ds, v, as => ∃ a vs, v = .ref a ∧ H a = some (.lst vs) ∧ RepL K F H ds vs ∧ as = [a]
  | .dic ks ds, v, as => ∃ a kvs, v = .ref a ∧ H a = some (.dK kvs) ∧ ks = kvs.map (fun p => dkey p.1) ∧ RepL K F H ds (kvs.map (·.2)) ∧ as = [a]
  | _, _, _ => False
def OwnFs (K : Kc) (F : Addr → Prop) (H : Hp) : List Bool → List D → List V → List Addr → Prop
  | [], [], vs, as => vs = [] ∧ as = []
  | o :: os, d :: ds, vs, as => ∃ v r a1 a2, vs = v :: r ∧ as = a1 ++ a2 ∧ (if o then OwnC K F H d v a1 else Rep K F H d v ∧ a1 = []) ∧ OwnFs K F H os ds r a2
  | _, _, _, _ => False
def OwnI (K : Kc) (F : Addr → Prop) (H : Hp) (c : Str) (ns : List Str) (os : List Bool) (ds : List D) (v : V) (as : List Addr) : Prop :=
  ∃ a C dx fs a2, v = .ref a ∧ K.mg c = some (.ref C) ∧ H a = some (.ins C dx fs) ∧ H dx = some (.own a) ∧ fs.map (·.1) = ns ∧ OwnFs K F H os ds (fs.map (·.2)) a2 ∧ as = a :: dx :: a2
def Own (K : Kc) (F : Addr → Prop) (H : Hp) : D → V → List Addr → Prop
  | .ins c ns os ds, v, as => OwnI K F H c ns os ds v as
  | d, v, as => OwnC K F H d v as

/-- these are kept -/
def Kept (bs : List Addr) (H H2 : Hp) : Prop := ∀ b, b ∈ bs → ∀ u, H b = some u → H2 b = some u
theorem Kept.left {a b : List Addr} {H H2 : Hp} (k : Kept (a ++ b) H H2) : Kept a H H2 := fun x m => k x (List.mem_append_left _ m)
theorem Kept.right {a b : List Addr} {H H2 : Hp} (k : Kept (a ++ b) H H2) : Kept b H H2 := fun x m => k x (List.mem_append_right _ m)
theorem Kept.of {bs : List Addr} {H H2 : Hp} (h : ∀ b u, H b = some u → H2 b = some u) : Kept bs H H2 := fun b _ u q => h b u q
theorem Ext.kept {F F' : Addr → Prop} {as as' bs : List Addr} {H H' : Hp} (e : Ext F as H F' as' H') (h : ∀ b, b ∈ bs → b ∉ as) : Kept bs H H' := fun b m u q => e.keep b u q (h b m)

theorem OwnC.stb {K : Kc} {F F2 : Addr → Prop} {H H2 : Hp} (s : Stb F H F2 H2) {d : D} {v : V} {as : List Addr} (h : OwnC K F H d v as) (k : Kept as H H2) : OwnC K F2 H2 d v as := by
  cases d <;> unfold OwnC at h ⊢ <;> try exact h
  case lst ds =>
    obtain ⟨a, vs, e, h1, h2, h3⟩ := h
    subst h3
    exact ⟨a, vs, e, k a (by simp) _ h1, RepL.stb s _ _ h2, rfl⟩
  case dic ks ds =>
    obtain ⟨a, kvs, e, h1, h4, h2, h3⟩ := h
    subst h3
    exact ⟨a, kvs, e, k a (by simp) _ h1, h4, RepL.stb s _ _ h2, rfl⟩
theorem OwnFs.stb {K : Kc} {F F2 : Addr → Prop} {H H2 : Hp} (s : Stb F H F2 H2) : ∀ {os : List Bool} {ds : List D} {vs : List V} {as : List Addr}, OwnFs K F H os ds vs as → Kept as H H2 → OwnFs K F2 H2 os ds vs as
  | [], [], vs, as, h, k => by unfold OwnFs at h ⊢; exact h
  | o :: os, d :: ds, vs, as, h, k => by
    unfold OwnFs at h ⊢
    obtain ⟨v, r, a1, a2, e1, e2, h1, h2⟩ := h
    subst e2
    refine ⟨v, r, a1, a2, e1, rfl, ?_, OwnFs.stb s h2 k.right⟩
    cases o with
    | true => simp only [if_true] at h1 ⊢; exact h1.stb s k.left
    | false => simp only [Bool.false_eq_true, if_false] at h1 ⊢; exact ⟨Rep.stb s _ _ h1.1, h1.2⟩
  | [], _ :: _, _, _, h, _ => by unfold OwnFs at h; exact h.elim
  | _ :: _, [], _, _, h, _ => by unfold OwnFs at h; exact h.elim
theorem Own.stb {K : Kc} {F F2 : Addr → Prop} {H H2 : Hp} (s : Stb F H F2 H2) {d : D} {v : V} {as : List Addr} (h : Own K F H d v as) (k : Kept as H H2) : Own K F2 H2 d v as := by
  cases d <;> unfold Own at h ⊢ <;> try exact h.stb s k
  case ins c ns os ds =>
    obtain ⟨a, C, dx, fs, a2, e, h1, h2, h3, h4, h5, h6⟩ := h
    subst h6
    exact ⟨a, C, dx, fs, a2, e, h1, k a (by simp) _ h2, k dx (by simp) _ h3, h4, h5.stb s fun b m => k b (by simp [m]), rfl⟩

theorem OwnC.there {K : Kc} {F : Addr → Prop} {H : Hp} {d : D} {v : V} {as : List Addr} (h : OwnC K F H d v as) : ∀ a, a ∈ as → ∃ u, H a = some u := by
  cases d <;> unfold OwnC at h <;> try exact h.elim
  case lst ds =>
    obtain ⟨a, vs, e, h1, h2, h3⟩ := h
    subst h3
    intro b m
    have : b = a := by simpa using m
    exact ⟨_, by rw [this]; exact h1⟩
  case dic ks ds =>
    obtain ⟨a, kvs, e, h1, h4, h2, h3⟩ := h
    subst h3
    intro b m
    have : b = a := by simpa using m
    exact ⟨_, by rw [this]; exact h1⟩
theorem OwnFs.there {K : Kc} {F : Addr → Prop} {H : Hp} : ∀ {os : List Bool} {ds : List D} {vs : List V} {as : List Addr}, OwnFs K F H os ds vs as → ∀ a, a ∈ as → ∃ u, H a = some u
  | [], [], vs, as, h => by unfold OwnFs at h; rw [h.2]; intro a m; cases m
  | o :: os, d :: ds, vs, as, h => by
    unfold OwnFs at h
    obtain ⟨v, r, a1, a2, e1, e2, h1, h2⟩ := h
    subst e2
    intro b m
    rcases List.mem_append.mp m with m | m
    · cases o with
      | true => simp only [if_true] at h1; exact h1.there b m
      | false => simp only [Bool.false_eq_true, if_false] at h1; rw [h1.2] at m; cases m
    · exact OwnFs.there h2 b m
  | [], _ :: _, _, _, h => by unfold OwnFs at h; exact h.elim
  | _ :: _, [], _, _, h => by unfold OwnFs at h; exact h.elim
theorem Own.there {K : Kc} {F : Addr → Prop} {H : Hp} {d : D} {v : V} {as : List Addr} (h : Own K F H d v as) : ∀ a, a ∈ as → ∃ u, H a = some u := by
  cases d <;> unfold Own at h <;> try exact h.there
  case ins c ns os ds =>
    obtain ⟨a, C, dx, fs, a2, e, h1, h2, h3, h4, h5, h6⟩ := h
    subst h6
    intro b m
    rcases List.mem_cons.mp m with m | m
    · exact ⟨_, by rw [m]; exact h2⟩
    · rcases List.mem_cons.mp m with m | m
      · exact ⟨_, by rw [m]; exact h3⟩
      · exact h5.there b m

def isC : D → Bool
  | .lst _ => true
  | .dic _ _ => true
  | _ => false
/-- an own list or dict that is shared from now on -/
theorem Own.frozen {K : Kc} {F : Addr → Prop} {H : Hp} {d : D} {v : V} {as : List Addr} (h : Own K F H d v as) (hc : isC d = true) : Rep K (fun b => F b ∨ b ∈ as) H d v := by
  have s : Stb F H (fun b => F b ∨ b ∈ as) H := ⟨fun b h => .inl h, fun _ _ h => h, fun _ _ _ h => h, fun _ _ _ h => h, fun _ _ _ h => h⟩
  cases d with
  | lst ds =>
    unfold Own OwnC at h
    unfold Rep
    obtain ⟨a, vs, e, h1, h2, h3⟩ := h
    exact ⟨a, vs, e, .inr (by rw [h3]; simp), h1, RepL.stb s _ _ h2⟩
  | dic ks ds =>
    unfold Own OwnC at h
    unfold Rep
    obtain ⟨a, kvs, e, h1, h4, h2, h3⟩ := h
    exact ⟨a, kvs, e, .inr (by rw [h3]; simp), .inl h1, h4, RepL.stb s _ _ h2⟩
  | _ => exact absurd hc (by simp [isC])

/-! ### the names of a frame -/
inductive Sl where
  | no | sh (d : D) | ow (d : D) | bo (k : Nat) (d : D)
abbrev Env := List Sl
def SlR (K : Kc) (F : Addr → Prop) (B : List Addr) (H : Hp) : Sl → Option V → List Addr → Prop
  | .no, _, as => as = []
  | .sh d, o, as => as = [] ∧ ∃ v, o = some v ∧ Rep K F H d v
  | .ow d, o, as => ∃ v, o = some v ∧ Own K F H d v as
  | .bo k d, o, as => ∃ a, o = some (.ref a) ∧ B[k]? = some a ∧ Own K F H d (.ref a) as
def EnvR (K : Kc) (F : Addr → Prop) (B : List Addr) (H : Hp) : Env → L2.St → List Addr → Prop
  | [], σ, as => σ = [] ∧ as = []
  | s :: ρ, σ, as => ∃ o r a1 a2, σ = o :: r ∧ as = a1 ++ a2 ∧ SlR K F B H s o a1 ∧ EnvR K F B H ρ r a2
structure Sit (K : Kc) (F : Addr → Prop) (B : List Addr) (H : Hp) (ρ : Env) (σ : L2.St) (as : List Addr) : Prop where
  env : EnvR K F B H ρ σ as
  nd : as.Nodup
  nf : ∀ a, a ∈ as → ¬ F a
  fk : ∀ b, F b → H b ≠ none

theorem SlR.stb {K : Kc} {F F2 : Addr → Prop} {B : List Addr} {H H2 : Hp} (s : Stb F H F2 H2) {x : Sl} {o : Option V} {as : List Addr} (h : SlR K F B H x o as) (k : Kept as H H2) : SlR K F2 B H2 x o as := by
  cases x <;> unfold SlR at h ⊢
  case no => exact h
  case sh d => obtain ⟨e, v, e2, r⟩ := h; exact ⟨e, v, e2, Rep.stb s _ _ r⟩
  case ow d => obtain ⟨v, e, r⟩ := h; exact ⟨v, e, r.stb s k⟩
  case bo n d => obtain ⟨a, e, e2, r⟩ := h; exact ⟨a, e, e2, r.stb s k⟩
theorem SlR.there {K : Kc} {F : Addr → Prop} {B : List Addr} {H : Hp} {x : Sl} {o : Option V} {as : List Addr} (h : SlR K F B H x o as) : ∀ a, a ∈ as → ∃ u, H a = some u := by
  cases x <;> unfold SlR at h
  case no => rw [h]; intro a m; cases m
  case sh d => rw [h.1]; intro a m; cases m
  case ow d => obtain ⟨v, e, r⟩ := h; exact r.there
  case bo n d => obtain ⟨a, e, e2, r⟩ := h; exact r.there
theorem EnvR.stb {K : Kc} {F F2 : Addr → Prop} {B : List Addr} {H H2 : Hp} (s : Stb F H F2 H2) : ∀ {ρ : Env} {σ : L2.St} {as : List Addr}, EnvR K F B H ρ σ as → Kept as H H2 → EnvR K F2 B H2 ρ σ as
  | [], _, _, h, _ => by unfold EnvR at h ⊢; exact h
  | x :: ρ, σ, as, h, k => by
    unfold EnvR at h ⊢
    obtain ⟨o, r, a1, a2, e1, e2, h1, h2⟩ := h
    subst e2
    exact ⟨o, r, a1, a2, e1, rfl, h1.stb s k.left, EnvR.stb s h2 k.right⟩
theorem EnvR.there {K : Kc} {F : Addr → Prop} {B : List Addr} {H : Hp} : ∀ {ρ : Env} {σ : L2.St} {as : List Addr}, EnvR K F B H ρ σ as → ∀ a, a ∈ as → ∃ u, H a = some u
  | [], _, _, h => by unfold EnvR at h; rw [h.2]; intro a m; cases m
  | x :: ρ, σ, as, h => by
    unfold EnvR at h
    obtain ⟨o, r, a1, a2, e1, e2, h1, h2⟩ := h
    subst e2
    intro b m
    exact (List.mem_append.mp m).elim (h1.there b) (EnvR.there h2 b)
theorem EnvR.length {K : Kc} {F : Addr → Prop} {B : List Addr} {H : Hp} : ∀ {ρ : Env} {σ : L2.St} {as : List Addr}, EnvR K F B H ρ σ as → σ.length = ρ.length
  | [], _, _, h => by unfold EnvR at h; rw [h.1]; rfl
  | x :: ρ, σ, as, h => by
    unfold EnvR at h
    obtain ⟨o, r, a1, a2, e1, e2, h1, h2⟩ := h
    subst e1
    simp [EnvR.length h2]
/-- one name, and the others around it -/
theorem EnvR.split {K : Kc} {F : Addr → Prop} {B : List Addr} {H : Hp} : ∀ {ρ : Env} {σ : L2.St} {as : List Addr} {i : Nat} {x : Sl}, EnvR K F B H ρ σ as → ρ[i]? = some x →
    ∃ o p a q, as = p ++ (a ++ q) ∧ σ[i]? = some o ∧ SlR K F B H x o a ∧
      ∀ {F2 : Addr → Prop} {H2 : Hp} (x' : Sl) (o' : Option V) (a' : List Addr), Stb F H F2 H2 → Kept (p ++ q) H H2 → SlR K F2 B H2 x' o' a' → EnvR K F2 B H2 (ρ.set i x') (σ.set i o') (p ++ (a' ++ q))
  | [], _, _, _, _, _, e => by simp at e
  | y :: ρ, σ, as, 0, x, h, e => by
    unfold EnvR at h
    obtain ⟨o, r, a1, a2, e1, e2, h1, h2⟩ := h
    subst e1 e2
    simp at e; subst e
    refine ⟨o, [], a1, a2, rfl, rfl, h1, fun x' o' a' s k h' => ?_⟩
    simp only [List.set_cons_zero, List.nil_append]
    unfold EnvR
    exact ⟨o', r, a', a2, rfl, rfl, h', h2.stb s (by simpa using k)⟩
  | y :: ρ, σ, as, i + 1, x, h, e => by
    unfold EnvR at h
    obtain ⟨o, r, a1, a2, e1, e2, h1, h2⟩ := h
    subst e1 e2
    obtain ⟨o2, p, a, q, ea, eo, hs, hr⟩ := EnvR.split (i := i) h2 (by simpa using e)
    subst ea
    refine ⟨o2, a1 ++ p, a, q, by simp, by simpa using eo, hs, fun x' o' a' s k h' => ?_⟩
    simp only [List.set_cons_succ]
    unfold EnvR
    refine ⟨o, r.set i o', a1, p ++ (a' ++ q), rfl, by simp, h1.stb s fun b m => k b (by simp [m]), hr x' o' a' s (fun b m => k b ?_) h'⟩
    rcases List.mem_append.mp m with m | m <;> simp [m]

/-- nothing of the frame's own was touched: the same names mean the same -/
theorem Sit.step {K : Kc} {F F2 : Addr → Prop} {B : List Addr} {H H2 : Hp} {ρ : Env} {σ : L2.St} {as : List Addr} (S : Sit K F B H ρ σ as) (e : Ext F [] H F2 [] H2) : Sit K F2 B H2 ρ σ as := by
  refine ⟨S.env.stb e.stb (Kept.of fun b u h => e.keep b u h (by simp)), S.nd, fun a m f => ?_, e.fk S.fk⟩
  rcases e.fnew a f with z | z | z
  · exact S.nf a m z
  · cases z
  · obtain ⟨u, q⟩ := S.env.there a m
    rw [q] at z; cases z
theorem ne_none {α : Type} {o : Option α} (h : ∃ u, o = some u) : o ≠ none := fun e => by
  obtain ⟨u, q⟩ := h
  rw [q] at e; cases e
theorem set_same {α : Type} : ∀ {l : List α} {i : Nat} {x : α}, l[i]? = some x → l.set i x = l
  | [], _, _, h => by simp at h
  | y :: l, 0, x, h => by simp at h; subst h; rfl
  | y :: l, i + 1, x, h => by
    simp only [List.set_cons_succ]
    rw [set_same (by simpa using h)]
end DV

/-! DV2: what an expression computes. -/
namespace DV
open L2 PySem PySem.Spec PyProof.Rows
abbrev kc (X : Cx) : Kc := ⟨X.K, X.mg⟩
abbrev FD := Env → Option (D × Env)
abbrev FW := Env → Option (D × Bool × Env)
abbrev FT := Env → Option (Bool × Env)
abbrev FL := Env → Option (List D × Env)
/-- an operand: a name (looked up late), or a value -/
inductive Opd where
  | at (i : Nat) | va (d : D)
abbrev FO := Env → Option (Opd × Env)

def tD (K : Kc) (g : FD) : TE := fun σ H Q => ∃ F B as ρ d ρ', Sit K F B H ρ σ as ∧ g ρ = some (d, ρ') ∧
  ∀ v H' F' as', Ext F as H F' as' H' → Sit K F' B H' ρ' σ as' → Rep K F' H' d v → Q v H'
structure Sit2 (K : Kc) (F : Addr → Prop) (B : List Addr) (H : Hp) (ρ : Env) (σ : L2.St) (as : List Addr) (d : D) (w : Bool) (v : V) (bs : List Addr) : Prop where
  env : EnvR K F B H ρ σ as
  nd : (bs ++ as).Nodup
  nf : ∀ a, a ∈ bs ++ as → ¬ F a
  fk : ∀ b, F b → H b ≠ none
  res : if w = true then Own K F H d v bs else bs = [] ∧ Rep K F H d v
def tW (K : Kc) (g : FW) : TE := fun σ H Q => ∃ F B as ρ d w ρ', Sit K F B H ρ σ as ∧ g ρ = some (d, w, ρ') ∧
  ∀ v H' F' as' bs, Ext F as H F' (bs ++ as') H' → Sit2 K F' B H' ρ' σ as' d w v bs → Q v H'
def tB (K : Kc) (g : FT) : TT := fun σ H Q => ∃ F B as ρ b ρ', Sit K F B H ρ σ as ∧ g ρ = some (b, ρ') ∧
  ∀ H' F' as', Ext F as H F' as' H' → Sit K F' B H' ρ' σ as' → Q b H'
def tL (K : Kc) (g : FL) : TA := fun σ H Q => ∃ F B as ρ ds ρ', Sit K F B H ρ σ as ∧ g ρ = some (ds, ρ') ∧
  ∀ vs H' F' as', Ext F as H F' as' H' → Sit K F' B H' ρ' σ as' → RepL K F' H' ds vs → Q vs H'
def OpdR (K : Kc) (F : Addr → Prop) (H : Hp) (σ : L2.St) : Opd → V → Prop
  | .va d, v => Rep K F H d v
  | .at i, v => σ[i]? = some (some v)
def tO (K : Kc) (g : FO) : TE := fun σ H Q => ∃ F B as ρ o ρ', Sit K F B H ρ σ as ∧ g ρ = some (o, ρ') ∧
  ∀ v H' F' as', Ext F as H F' as' H' → Sit K F' B H' ρ' σ as' → OpdR K F' H' σ o v → Q v H'

theorem PE.to {X : Cx} {e : Expr} {t t' : TE} (h : PE X e t) (c : ∀ σ H Q, t' σ H Q → t σ H Q) : PE X e t' := ⟨fun pins s σ H Q I hq => h.run pins s σ H Q I (c σ H Q hq)⟩
theorem PT.to {X : Cx} {e : Expr} {t t' : TT} (h : PT X e t) (c : ∀ σ H Q, t' σ H Q → t σ H Q) : PT X e t' := ⟨fun pins s σ H Q I hq => h.run pins s σ H Q I (c σ H Q hq)⟩
theorem PA.to {X : Cx} {es : List Expr} {t t' : TA} (h : PA X es t) (c : ∀ σ H Q, t' σ H Q → t σ H Q) : PA X es t' := ⟨fun pos pins s σ H Q I hq => h.run pos pins s σ H Q I (c σ H Q hq)⟩

/-! ### a thing that is looked at: its parts never change -/
def Vw (K : Kc) (F : Addr → Prop) (H : Hp) : D → V → Prop
  | .lst ds, v => ∃ a vs, v = .ref a ∧ H a = some (.lst vs) ∧ RepL K F H ds vs
  | .dic ks ds, v => ∃ a kvs, v = .ref a ∧ Rd H a (.dK kvs) ∧ ks = kvs.map (fun p => dkey p.1) ∧ RepL K F H ds (kvs.map (·.2))
  | .ins c ns os ds, v => ∃ as, OwnI K F H c ns os ds v as
  | d, v => Rep K F H d v
theorem Rep.vw {K : Kc} {F : Addr → Prop} {H : Hp} {d : D} {v : V} (h : Rep K F H d v) : Vw K F H d v := by
  cases d with
  | lst ds => unfold Rep at h; unfold Vw; obtain ⟨a, vs, e, _, h1, h2⟩ := h; exact ⟨a, vs, e, h1, h2⟩
  | dic ks ds => unfold Rep at h; unfold Vw; obtain ⟨a, vs, e, _, h1, h3, h2⟩ := h; exact ⟨a, vs, e, h1, h3, h2⟩
  | ins c ns os ds => unfold Rep at h; exact h.elim
  | _ => unfold Vw; exact h
theorem Own.vw {K : Kc} {F : Addr → Prop} {H : Hp} {d : D} {v : V} {as : List Addr} (h : Own K F H d v as) : Vw K F H d v := by
  cases d with
  | lst ds => unfold Own OwnC at h; unfold Vw; obtain ⟨a, vs, e, h1, h2, _⟩ := h; exact ⟨a, vs, e, h1, h2⟩
  | dic ks ds => unfold Own OwnC at h; unfold Vw; obtain ⟨a, vs, e, h1, h3, h2, _⟩ := h; exact ⟨a, vs, e, .inl h1, h3, h2⟩
  | ins c ns os ds => unfold Own at h; unfold Vw; exact ⟨as, h⟩
  | _ => unfold Own OwnC at h; exact h.elim

def look (ρ : Env) (i : Nat) : Option D := match ρ[i]? with
  | some (.sh d) => some d
  | some (.ow d) => some d
  | some (.bo _ d) => some d
  | _ => none
def res (ρ : Env) : Opd → Option D
  | .va d => some d
  | .at i => look ρ i
theorem Sit.look {K : Kc} {F : Addr → Prop} {B : List Addr} {H : Hp} {ρ : Env} {σ : L2.St} {as : List Addr} (S : Sit K F B H ρ σ as) {i : Nat} {d : D} {v : V} (e : look ρ i = some d) (hv : σ[i]? = some (some v)) : Vw K F H d v := by
  unfold DV.look at e
  split at e
  · rename_i d' q
    cases e
    obtain ⟨o, p, a, qq, _, eo, hs, _⟩ := S.env.split q
    rw [hv] at eo; cases eo
    unfold SlR at hs
    obtain ⟨_, v', e1, r⟩ := hs
    cases e1; exact r.vw
  · rename_i d' q
    cases e
    obtain ⟨o, p, a, qq, _, eo, hs, _⟩ := S.env.split q
    rw [hv] at eo; cases eo
    unfold SlR at hs
    obtain ⟨v', e1, r⟩ := hs
    cases e1; exact r.vw
  · rename_i k d' q
    cases e
    obtain ⟨o, p, a, qq, _, eo, hs, _⟩ := S.env.split q
    rw [hv] at eo; cases eo
    unfold SlR at hs
    obtain ⟨v', e1, _, r⟩ := hs
    cases e1; exact r.vw
  · cases e
theorem Sit.there {K : Kc} {F : Addr → Prop} {B : List Addr} {H : Hp} {ρ : Env} {σ : L2.St} {as : List Addr} (S : Sit K F B H ρ σ as) {i : Nat} {d : D} (e : DV.look ρ i = some d) : ∃ v, σ[i]? = some (some v) := by
  unfold DV.look at e
  split at e
  · rename_i d' q
    obtain ⟨o, p, a, qq, _, eo, hs, _⟩ := S.env.split q
    unfold SlR at hs
    obtain ⟨_, v', e1, r⟩ := hs
    subst e1; exact ⟨v', eo⟩
  · rename_i d' q
    obtain ⟨o, p, a, qq, _, eo, hs, _⟩ := S.env.split q
    unfold SlR at hs
    obtain ⟨v', e1, r⟩ := hs
    subst e1; exact ⟨v', eo⟩
  · rename_i k d' q
    obtain ⟨o, p, a, qq, _, eo, hs, _⟩ := S.env.split q
    unfold SlR at hs
    obtain ⟨v', e1, _, r⟩ := hs
    subst e1; exact ⟨_, eo⟩
  · cases e
theorem Sit.res {K : Kc} {F : Addr → Prop} {B : List Addr} {H : Hp} {ρ : Env} {σ : L2.St} {as : List Addr} (S : Sit K F B H ρ σ as) {o : Opd} {d : D} {v : V} (e : DV.res ρ o = some d) (h : OpdR K F H σ o v) : Vw K F H d v := by
  cases o with
  | va d' => cases e; exact Rep.vw h
  | «at» i => exact S.look e h
theorem OpdR.stb {K : Kc} {F F2 : Addr → Prop} {H H2 : Hp} {σ : L2.St} (s : Stb F H F2 H2) {o : Opd} {v : V} (h : OpdR K F H σ o v) : OpdR K F2 H2 σ o v := by
  cases o with
  | va d => exact Rep.stb s _ _ h
  | «at» i => exact h

/-- two in a row -/
theorem seqOO {K : Kc} {ga gb : FO} {σ : L2.St} {H : Hp} {R : V → V → Hp → Prop} {F : Addr → Prop} {B : List Addr} {as : List Addr} {ρ ρ1 ρ2 : Env} {x y : Opd} (S : Sit K F B H ρ σ as) (e1 : ga ρ = some (x, ρ1)) (e2 : gb ρ1 = some (y, ρ2))
    (h : ∀ vx vy H2 F2 as2, Ext F as H F2 as2 H2 → Sit K F2 B H2 ρ2 σ as2 → OpdR K F2 H2 σ x vx → OpdR K F2 H2 σ y vy → R vx vy H2) : tO K ga σ H fun vx H1 => tO K gb σ H1 fun vy H2 => R vx vy H2 :=
  ⟨F, B, as, ρ, x, ρ1, S, e1, fun vx H1 F1 as1 E1 S1 r1 => ⟨F1, B, as1, ρ1, y, ρ2, S1, e2, fun vy H2 F2 as2 E2 S2 r2 => h vx vy H2 F2 as2 (E1.trans E2) S2 (r1.stb E2.stb) r2⟩⟩

section
variable {X : Cx} {pos : Pos}
/-! ### constants and names -/
theorem cd_int {i j} : PE X (.Constant (.int i) j pos) (tD (kc X) fun ρ => some (.int i, ρ)) := PE.to pe_int fun σ H Q ⟨F, B, as, ρ, d, ρ', S, e, h⟩ => by
  cases e; exact h _ H F as .refl S (by unfold Rep; rfl)
theorem cd_bl {i j} : PE X (.Constant (.bool i) j pos) (tD (kc X) fun ρ => some (.bl i, ρ)) := PE.to pe_bl fun σ H Q ⟨F, B, as, ρ, d, ρ', S, e, h⟩ => by
  cases e; exact h _ H F as .refl S (by unfold Rep; rfl)
theorem cd_non {j} : PE X (.Constant .none j pos) (tD (kc X) fun ρ => some (.non, ρ)) := PE.to pe_non fun σ H Q ⟨F, B, as, ρ, d, ρ', S, e, h⟩ => by
  cases e; exact h _ H F as .refl S (by unfold Rep; rfl)
theorem cd_str {i j} : PE X (.Constant (.str i) j pos) (tD (kc X) fun ρ => some (.str i, ρ)) := PE.to pe_str fun σ H Q ⟨F, B, as, ρ, d, ρ', S, e, h⟩ => by
  cases e; exact h _ H F as .refl S (by unfold Rep; rfl)
/-- a constant of the module -/
structure GlD (X : Cx) (x : Str) (d : D) : Prop where
  gl : Gl X x
  at_ : ∃ u v, X.mg x = some u ∧ RelV v u ∧ ∀ F H, Rep (kc X) F H d v
theorem cd_glob {x : Str} {d : D} (G : GlD X x d) (hd : (x == ("__debug__" : Str)) = false := by decide) : PE X (.Name x pos) (tD (kc X) fun ρ => some (d, ρ)) := by
  obtain ⟨u, v, hm, r, hr⟩ := G.at_
  exact PE.to (pe_glob G.gl hm r hd) fun σ H Q ⟨F, B, as, ρ, d, ρ', S, e, h⟩ => by cases e; exact h _ H F as .refl S (hr F H)
/-- a built-in type as a value -/
theorem cd_type {x : Str} {n : String} (hg : Gl X x) (hm : X.mg x = none) (hv : bootBuiltins x = some (.type n)) (hn : x ≠ "__name__" := by decide) (hd : (x == ("__debug__" : Str)) = false := by decide) : PE X (.Name x pos) (tD (kc X) fun ρ => some (.ty n, ρ)) :=
  PE.to (pe_bltn (v := .ty n) hg hm hv rfl hn hd) fun σ H Q ⟨F, B, as, ρ, d, ρ', S, e, h⟩ => by cases e; exact h _ H F as .refl S (by unfold Rep; rfl)
def gNm (i : Nat) : FD := fun ρ => match ρ[i]? with
  | some (.sh d) => some (d, ρ)
  | some (.ow d) => if isC d = true then some (d, ρ.set i (.sh d)) else none
  | _ => none
theorem nodup_mid {p a q : List Addr} (h : (p ++ (a ++ q)).Nodup) : (p ++ q).Nodup ∧ ∀ b, b ∈ p ++ q → b ∉ a := by
  rw [List.nodup_append] at h
  obtain ⟨h1, h2, h3⟩ := h
  rw [List.nodup_append] at h2
  obtain ⟨h4, h5, h6⟩ := h2
  refine ⟨List.nodup_append.mpr ⟨h1, h5, fun x hx y hy => h3 x hx y (List.mem_append_right _ hy)⟩, fun b hb ha => ?_⟩
  rcases List.mem_append.mp hb with hb | hb
  · exact h3 b hb b (List.mem_append_left _ ha) rfl
  · exact h6 b ha b hb rfl
/-- an own list or dict of a name is shared from now on -/
theorem Sit.freeze {K : Kc} {F : Addr → Prop} {B : List Addr} {H : Hp} {ρ : Env} {σ : L2.St} {as : List Addr} (S : Sit K F B H ρ σ as) {i : Nat} {d : D} (e : ρ[i]? = some (.ow d)) (hc : isC d = true) :
    ∃ v F' as', σ[i]? = some (some v) ∧ Ext F as H F' as' H ∧ Sit K F' B H (ρ.set i (.sh d)) σ as' ∧ Rep K F' H d v := by
  obtain ⟨o, p, a, q, ea, eo, hs, hr⟩ := S.env.split e
  unfold SlR at hs
  obtain ⟨v, e1, r⟩ := hs
  subst e1 ea
  have fz := r.frozen hc
  obtain ⟨n1, n2⟩ := nodup_mid S.nd
  have th : ∀ b, b ∈ a → H b ≠ none := fun b m => ne_none (r.there b m)
  refine ⟨v, fun b => F b ∨ b ∈ a, p ++ q, eo, Ext.freeze (fun b m => by simp [m]) (fun b m => ?_) th, ⟨?_, n1, fun b m f => ?_, fun b h => h.elim (S.fk b) (th b)⟩, fz⟩
  · rcases List.mem_append.mp m with m | m <;> simp [m]
  · have s : Stb F H (fun b => F b ∨ b ∈ a) H := ⟨fun b h => .inl h, fun _ _ h => h, fun _ _ _ h => h, fun _ _ _ h => h, fun _ _ _ h => h⟩
    have z := hr (.sh d) (some v) [] s (Kept.of fun _ _ h => h) (by unfold SlR; exact ⟨rfl, v, rfl, fz⟩)
    rw [set_same eo] at z
    simpa using z
  · rcases f with f | f
    · refine S.nf b ?_ f
      rcases List.mem_append.mp m with m | m <;> simp [m]
    · exact n2 b m f
theorem cd_name {i : Nat} {x : Str} (hN : X.N[i]? = some x := by rfl) (hv : Vis X.env.scope x := by first | exact Or.inl rfl | exact Or.inr (Or.inl rfl) | exact Or.inr (Or.inr rfl)) (hd : (x == ("__debug__" : Str)) = false := by decide)
    (hcd : (x == ("__classdict__" : Str)) = false := by decide) : PE X (.Name x pos) (tD (kc X) (gNm i)) := PE.to (pe_var hN hv hd hcd) fun σ H Q ⟨F, B, as, ρ, d, ρ', S, e, h⟩ => by
  unfold gNm at e
  split at e
  · rename_i d' q
    cases e
    obtain ⟨o, p, a, qq, _, eo, hs, _⟩ := S.env.split q
    unfold SlR at hs
    obtain ⟨_, v, e1, r⟩ := hs
    subst e1
    exact ⟨v, eo, h v H F as .refl S r⟩
  · rename_i d' q
    split at e
    · rename_i hc
      cases e
      obtain ⟨v, F', as', ev, E, S', r⟩ := S.freeze q hc
      exact ⟨v, ev, h v H F' as' E S' r⟩
    · cases e
  · cases e
/-- a name as an operand -/
theorem co_name {i : Nat} {x : Str} (hN : X.N[i]? = some x := by rfl) (hv : Vis X.env.scope x := by first | exact Or.inl rfl | exact Or.inr (Or.inl rfl) | exact Or.inr (Or.inr rfl)) (hd : (x == ("__debug__" : Str)) = false := by decide)
    (hcd : (x == ("__classdict__" : Str)) = false := by decide) : PE X (.Name x pos) (tO (kc X) fun ρ => (look ρ i).map fun _ => (.at i, ρ)) := PE.to (pe_var hN hv hd hcd) fun σ H Q ⟨F, B, as, ρ, o, ρ', S, e, h⟩ => by
  obtain ⟨d, hl, e2⟩ := Option.map_eq_some_iff.mp e
  cases e2
  obtain ⟨v, ev⟩ := S.there hl
  exact ⟨v, ev, h v H F as .refl S ev⟩
theorem co_of {e : Expr} {g : FD} (h : PE X e (tD (kc X) g)) : PE X e (tO (kc X) fun ρ => (g ρ).map fun p => (.va p.1, p.2)) := PE.to h fun σ H Q ⟨F, B, as, ρ, o, ρ', S, e, h⟩ => by
  obtain ⟨p, hl, e2⟩ := Option.map_eq_some_iff.mp e
  cases e2
  exact ⟨F, B, as, ρ, p.1, p.2, S, hl, fun v H' F' as' E S' r => h v H' F' as' E S' r⟩

/-! ### owned results -/
theorem cw_of {e : Expr} {g : FD} (h : PE X e (tD (kc X) g)) : PE X e (tW (kc X) fun ρ => (g ρ).map fun p => (p.1, false, p.2)) := PE.to h fun σ H Q ⟨F, B, as, ρ, d, w, ρ', S, e, h⟩ => by
  obtain ⟨p, hl, e2⟩ := Option.map_eq_some_iff.mp e
  cases e2
  exact ⟨F, B, as, ρ, p.1, p.2, S, hl, fun v H' F' as' E S' r => h v H' F' as' [] E ⟨S'.env, S'.nd, S'.nf, S'.fk, by simp [r]⟩⟩
def shW (g : FW) : FD := fun ρ => match g ρ with
  | some (d, true, ρ') => if isC d = true then some (d, ρ') else none
  | some (d, false, ρ') => some (d, ρ')
  | none => none
theorem Sit2.frozen {K : Kc} {F : Addr → Prop} {B : List Addr} {H : Hp} {ρ : Env} {σ : L2.St} {as : List Addr} {d : D} {v : V} {bs : List Addr} (S : Sit2 K F B H ρ σ as d true v bs) (hc : isC d = true) :
    Ext F (bs ++ as) H (fun b => F b ∨ b ∈ bs) as H ∧ Sit K (fun b => F b ∨ b ∈ bs) B H ρ σ as ∧ Rep K (fun b => F b ∨ b ∈ bs) H d v := by
  have r := S.res
  simp only [if_true] at r
  have s : Stb F H (fun b => F b ∨ b ∈ bs) H := ⟨fun b h => .inl h, fun _ _ h => h, fun _ _ _ h => h, fun _ _ _ h => h, fun _ _ _ h => h⟩
  have n := List.nodup_append.mp S.nd
  have th : ∀ b, b ∈ bs → H b ≠ none := fun b m => ne_none (r.there b m)
  refine ⟨Ext.freeze (fun b m => by simp [m]) (fun b m => by simp [m]) th, ⟨S.env.stb s (Kept.of fun _ _ h => h), n.2.1, fun b m f => ?_, fun b h => h.elim (S.fk b) (th b)⟩, r.frozen hc⟩
  rcases f with f | f
  · exact S.nf b (List.mem_append_right _ m) f
  · exact n.2.2 b f b m rfl
theorem Sit2.plain {K : Kc} {F : Addr → Prop} {B : List Addr} {H : Hp} {ρ : Env} {σ : L2.St} {as : List Addr} {d : D} {v : V} {bs : List Addr} (S : Sit2 K F B H ρ σ as d false v bs) : bs = [] ∧ Sit K F B H ρ σ as ∧ Rep K F H d v := by
  have r := S.res
  simp only [Bool.false_eq_true, if_false] at r
  obtain ⟨rfl, r⟩ := r
  exact ⟨rfl, ⟨S.env, S.nd, S.nf, S.fk⟩, r⟩
theorem cd_of {e : Expr} {g : FW} (h : PE X e (tW (kc X) g)) : PE X e (tD (kc X) (shW g)) := PE.to h fun σ H Q ⟨F, B, as, ρ, d, ρ', S, e, h⟩ => by
  unfold shW at e
  split at e
  · rename_i d' ρ2 q
    split at e
    · rename_i hc
      cases e
      refine ⟨F, B, as, ρ, _, true, _, S, q, fun v H' F' as' bs E S' => ?_⟩
      obtain ⟨E2, S2, r⟩ := S'.frozen hc
      exact h v H' _ as' (E.trans E2) S2 r
    · cases e
  · rename_i d' ρ2 q
    cases e
    refine ⟨F, B, as, ρ, _, false, _, S, q, fun v H' F' as' bs E S' => ?_⟩
    obtain ⟨rfl, S2, r⟩ := S'.plain
    exact h v H' F' as' E S2 r
  · cases e
/-- a name that is given up (returned) -/
def gMv (i : Nat) : FW := fun ρ => match ρ[i]? with
  | some (.sh d) => some (d, false, ρ)
  | some (.ow d) => some (d, true, ρ.set i .no)
  | _ => none
theorem cw_move {i : Nat} {x : Str} (hN : X.N[i]? = some x := by rfl) (hv : Vis X.env.scope x := by first | exact Or.inl rfl | exact Or.inr (Or.inl rfl) | exact Or.inr (Or.inr rfl)) (hd : (x == ("__debug__" : Str)) = false := by decide)
    (hcd : (x == ("__classdict__" : Str)) = false := by decide) : PE X (.Name x pos) (tW (kc X) (gMv i)) := PE.to (pe_var hN hv hd hcd) fun σ H Q ⟨F, B, as, ρ, d, w, ρ', S, e, h⟩ => by
  unfold gMv at e
  split at e
  · rename_i d' q
    cases e
    obtain ⟨o, p, a, qq, _, eo, hs, _⟩ := S.env.split q
    unfold SlR at hs
    obtain ⟨_, v, e1, r⟩ := hs
    subst e1
    exact ⟨v, eo, h v H F as [] .refl ⟨S.env, S.nd, S.nf, S.fk, by simp [r]⟩⟩
  · rename_i d' q
    cases e
    obtain ⟨o, p, a, qq, ea, eo, hs, hr⟩ := S.env.split q
    unfold SlR at hs
    obtain ⟨v, e1, r⟩ := hs
    subst e1 ea
    obtain ⟨n1, n2⟩ := nodup_mid S.nd
    have z := hr .no (some v) [] .refl (Kept.of fun _ _ h => h) (by unfold SlR; rfl)
    rw [set_same eo] at z
    have na : a.Nodup := by
      have := List.nodup_append.mp S.nd
      exact (List.nodup_append.mp this.2.1).1
    have mem : ∀ b, b ∈ a ++ (p ++ qq) → b ∈ p ++ (a ++ qq) := fun b m => by
      simp only [List.mem_append] at m ⊢
      rcases m with m | m | m <;> simp [m]
    refine ⟨v, eo, h v H F (p ++ qq) a (Ext.refl.sub mem) ⟨by simpa using z, List.nodup_append.mpr ⟨na, n1, fun x hx y hy e => n2 y hy (e ▸ hx)⟩, fun b m => S.nf b (mem b m), S.fk, by simp [r]⟩⟩
  · cases e

/-! ### argument lists -/
theorem cl_nil : PA X [] (tL (kc X) fun ρ => some ([], ρ)) := PA.to pa_nil fun σ H Q ⟨F, B, as, ρ, d, ρ', S, e, h⟩ => by
  cases e; exact h _ H F as .refl S RepL.nil
def gCons (ga : FD) (gr : FL) : FL := fun ρ => match ga ρ with
  | some (d, ρ1) => match gr ρ1 with
    | some (ds, ρ2) => some (d :: ds, ρ2)
    | none => none
  | none => none
theorem gCons_some {ga : FD} {gr : FL} {ρ : Env} {ds : List D} {ρ' : Env} (h : gCons ga gr ρ = some (ds, ρ')) : ∃ d ρ1 r, ga ρ = some (d, ρ1) ∧ gr ρ1 = some (r, ρ') ∧ ds = d :: r := by
  unfold gCons at h
  split at h
  · rename_i d ρ1 q
    split at h
    · rename_i r ρ2 q2
      cases h
      exact ⟨d, ρ1, r, q, q2, rfl⟩
    · cases h
  · cases h
theorem cl_cons {e : Expr} {es : List Expr} {ga : FD} {gr : FL} (ha : PE X e (tD (kc X) ga)) (hr : PA X es (tL (kc X) gr)) (hs : starEach (e :: es) X.env = (false, eval e X.env) :: starEach es X.env := by rfl) : PA X (e :: es) (tL (kc X) (gCons ga gr)) :=
  PA.to (pa_cons ha hr hs) fun σ H Q ⟨F, B, as, ρ, ds, ρ', S, e, h⟩ => by
    obtain ⟨d, ρ1, r, e1, e2, rfl⟩ := gCons_some e
    exact ⟨F, B, as, ρ, d, ρ1, S, e1, fun v H1 F1 as1 E1 S1 r1 => ⟨F1, B, as1, ρ1, r, ρ', S1, e2, fun vs H2 F2 as2 E2 S2 r2 => h _ H2 F2 as2 (E1.trans E2) S2 (RepL.cons (Rep.stb E2.stb _ _ r1) r2)⟩⟩

/-! ### displays -/
def SZ : Nat := 100000
theorem sz_le {n : Nat} (h : n ≤ SZ) : n ≤ sizeLine := by rw [sizeLine_eq]; unfold SZ at h; omega
theorem sz_lt {n : Nat} (h : n ≤ SZ) : n < sizeLine := by rw [sizeLine_eq]; unfold SZ at h; omega
theorem Rep.newF {K : Kc} {F : Addr → Prop} {H : Hp} {p : Addr} {o : HO} (hp : H p = none) {as : List Addr} : Stb F H (fun b => F b ∨ b = p) (upd H p o) := (Ext.newF (as := as) hp).stb
/-- a new tuple -/
theorem new_tup {K : Kc} {F : Addr → Prop} {H : Hp} {p : Addr} {ds : List D} {vs : List V} (hp : H p = none) (r : RepL K F H ds vs) : Ext F [] H F [] (upd H p (.tup vs)) ∧ Rep K F (upd H p (.tup vs)) (.tup ds) (.ref p) := by
  have E : Ext F [] H F [p] (upd H p (.tup vs)) := Ext.newO hp
  refine ⟨E.sub (fun b m => by cases m), ?_⟩
  unfold Rep
  exact ⟨p, vs, rfl, SqT.of upd_same, RepL.stb E.stb _ _ r⟩
def gTup (g : FL) : FD := fun ρ => match g ρ with
  | some (ds, ρ') => if ds.length ≤ SZ then some (.tup ds, ρ') else none
  | none => none
theorem cd_tup {es : List Expr} {g : FL} {k} (h : PA X es (tL (kc X) g)) : PE X (.Tuple es k pos) (tD (kc X) (gTup g)) := PE.to (pe_tup h) fun σ H Q ⟨F, B, as, ρ, d, ρ', S, e, h⟩ => by
  unfold gTup at e
  split at e
  · rename_i ds ρ2 q
    split at e
    · rename_i hz
      cases e
      refine ⟨F, B, as, ρ, ds, _, S, q, fun vs H' F' as' E S' r => ⟨sz_le (by rw [r.length]; exact hz), fun p hp => ?_⟩⟩
      obtain ⟨E2, r2⟩ := new_tup hp r
      exact h _ _ F' as' (E.trans E2.pure) (S'.step E2) r2
    · cases e
  · cases e
/-- a fresh own container -/
theorem new_own {K : Kc} {F : Addr → Prop} {B : List Addr} {H : Hp} {ρ : Env} {σ : L2.St} {as : List Addr} {p : Addr} {o : HO} {d : D} (hp : H p = none) (S : Sit K F B H ρ σ as) (r : Own K F (upd H p o) d (.ref p) [p]) :
    Ext F as H F ([p] ++ as) (upd H p o) ∧ Sit2 K F B (upd H p o) ρ σ as d true (.ref p) [p] := by
  have E : Ext F as H F (p :: as) (upd H p o) := Ext.newO hp
  have hf : ¬ F p := fun f => S.fk p f hp
  refine ⟨E, ⟨S.env.stb E.stb (Kept.of fun b u h => by rw [upd_ne (ne_of_none h hp)]; exact h), ?_, fun b m => ?_, E.fk S.fk, by simp only [if_true]; exact r⟩⟩
  · refine List.nodup_cons.mpr ⟨fun m => ?_, S.nd⟩
    obtain ⟨u, q⟩ := S.env.there p m
    rw [hp] at q; cases q
  · rcases List.mem_cons.mp m with m | m
    · rw [m]; exact hf
    · exact S.nf b m
end
end DV

/-! DV3: operators, comparisons, subscripts, tests, built-ins. -/
namespace DV
open L2 PySem PySem.Spec PyProof.Rows

/-! ### data as the library's data -/
mutual
def toPy : D → PyData
  | .non => .none
  | .bl b => .bool b
  | .int i => .int i
  | .str x => .str x
  | .lst xs => .list (toPyL xs)
  | .tup xs => .tuple (toPyL xs)
  | .ty _ => .dict []
  | .fn _ => .dict []
  | .dic _ _ => .dict []
  | .scr _ => .dict []
  | .ins _ _ _ _ => .dict []
def toPyL : List D → List PyData
  | [] => []
  | d :: ds => toPy d :: toPyL ds
end
def okPy (d : D) : Bool := SeqAt.shaped (toPy d)
mutual
theorem Rep.dp {K : Kc} {F : Addr → Prop} {H : Hp} : ∀ (d : D) (v : V), Rep K F H d v → (toPy d).canLay0 = true → Dp K.K H v (toPy d)
  | .non, v, h, _ => by unfold Rep at h; subst h; unfold toPy; exact .non
  | .bl b, v, h, _ => by unfold Rep at h; subst h; unfold toPy; exact .bl b
  | .int i, v, h, _ => by unfold Rep at h; subst h; unfold toPy; exact .int i
  | .str x, v, h, _ => by unfold Rep at h; subst h; unfold toPy; exact .str x
  | .lst ds, v, h, c => by
    unfold Rep at h
    obtain ⟨a, vs, rfl, _, h1, h2⟩ := h
    unfold toPy at c ⊢
    exact .lst (SqL.of h1) (RepL.dp ds vs h2 (by simpa [PyData.canLay0] using c))
  | .tup ds, v, h, c => by
    unfold Rep at h
    obtain ⟨a, vs, rfl, h1, h2⟩ := h
    unfold toPy at c ⊢
    exact .tup h1 (RepL.dp ds vs h2 (by simpa [PyData.canLay0] using c))
  | .ty _, _, _, c => by simp [toPy, PyData.canLay0] at c
  | .fn _, _, _, c => by simp [toPy, PyData.canLay0] at c
  | .dic _ _, _, _, c => by simp [toPy, PyData.canLay0] at c
  | .scr _, _, _, c => by simp [toPy, PyData.canLay0] at c
  | .ins _ _ _ _, _, _, c => by simp [toPy, PyData.canLay0] at c
theorem RepL.dp {K : Kc} {F : Addr → Prop} {H : Hp} : ∀ (ds : List D) (vs : List V), RepL K F H ds vs → PyData.canLayAll0 (toPyL ds) = true → DpAll K.K H vs (toPyL ds)
  | [], vs, h, _ => by unfold RepL at h; subst h; unfold toPyL; exact .nil
  | d :: ds, vs, h, c => by
    unfold RepL at h
    obtain ⟨v, r, rfl, h1, h2⟩ := h
    unfold toPyL at c ⊢
    simp only [PyData.canLayAll0, Bool.and_eq_true] at c
    exact .cons (Rep.dp d v h1 c.1) (RepL.dp ds r h2 c.2)
end
theorem Vw.dp {K : Kc} {F : Addr → Prop} {H : Hp} {d : D} {v : V} (h : Vw K F H d v) (c : okPy d = true) : Dp K.K H v (toPy d) := by
  have c := SeqAt.canLay_of_shaped c
  cases d with
  | lst ds =>
    unfold Vw at h
    obtain ⟨a, vs, rfl, h1, h2⟩ := h
    unfold toPy at c ⊢
    exact .lst (SqL.of h1) (RepL.dp ds vs h2 (by simpa [PyData.canLay0] using c))
  | dic ks ds => simp [toPy, PyData.canLay0] at c
  | ins _ _ _ _ => simp [toPy, PyData.canLay0] at c
  | _ => unfold Vw at h; exact Rep.dp _ _ h c

/-! ### values that are not objects -/
theorem Vw.int {K : Kc} {F : Addr → Prop} {H : Hp} {i : Int} {v : V} (h : Vw K F H (.int i) v) : v = .int i := by unfold Vw Rep at h; exact h
theorem Vw.str {K : Kc} {F : Addr → Prop} {H : Hp} {i : Str} {v : V} (h : Vw K F H (.str i) v) : v = .str i := by unfold Vw Rep at h; exact h
theorem Vw.bl {K : Kc} {F : Addr → Prop} {H : Hp} {i : Bool} {v : V} (h : Vw K F H (.bl i) v) : v = .bl i := by unfold Vw Rep at h; exact h
theorem Vw.non {K : Kc} {F : Addr → Prop} {H : Hp} {v : V} (h : Vw K F H .non v) : v = .non := by unfold Vw Rep at h; exact h
theorem Vw.tup {K : Kc} {F : Addr → Prop} {H : Hp} {ds : List D} {v : V} (h : Vw K F H (.tup ds) v) : ∃ a vs, v = .ref a ∧ SqT K.K H a vs ∧ RepL K F H ds vs := by unfold Vw Rep at h; exact h
theorem Vw.lst {K : Kc} {F : Addr → Prop} {H : Hp} {ds : List D} {v : V} (h : Vw K F H (.lst ds) v) : ∃ a vs, v = .ref a ∧ H a = some (.lst vs) ∧ RepL K F H ds vs := by unfold Vw at h; exact h
theorem Rep.int' {K : Kc} {F : Addr → Prop} {H : Hp} {i : Int} : Rep K F H (.int i) (.int i) := by unfold Rep; rfl
theorem Rep.str' {K : Kc} {F : Addr → Prop} {H : Hp} {i : Str} : Rep K F H (.str i) (.str i) := by unfold Rep; rfl
theorem Rep.bl' {K : Kc} {F : Addr → Prop} {H : Hp} {i : Bool} : Rep K F H (.bl i) (.bl i) := by unfold Rep; rfl
theorem Rep.non' {K : Kc} {F : Addr → Prop} {H : Hp} : Rep K F H .non .non := by unfold Rep; rfl
theorem Rep.tup' {K : Kc} {F : Addr → Prop} {H : Hp} {ds : List D} {a : Addr} {vs : List V} (h : SqT K.K H a vs) (r : RepL K F H ds vs) : Rep K F H (.tup ds) (.ref a) := by unfold Rep; exact ⟨a, vs, rfl, h, r⟩

/-! ### two-place operations -/
def PureR (K : Kc) (r : R2) (f : D → D → Option D) : Prop := ∀ (F : Addr → Prop) (H : Hp) (dx dy d : D) (vx vy : V) (Q : VK), (∀ b, F b → H b ≠ none) → f dx dy = some d → Vw K F H dx vx → Vw K F H dy vy →
  (∀ v F' H', Ext F [] H F' [] H' → Rep K F' H' d v → Q v H') → r vx vy H Q
theorem PureR.or {K : Kc} {r r' : R2} {f g : D → D → Option D} (h : PureR K r f) (h' : PureR K r' g) : PureR K (fun x y H Q => r x y H Q ∨ r' x y H Q) (fun x y => (f x y).or (g x y)) := by
  intro F H dx dy d vx vy Q fk e wx wy k
  cases q : f dx dy with
  | some d' =>
    simp only [q, Option.some_or] at e
    cases e
    exact .inl (h F H dx dy _ vx vy Q fk q wx wy k)
  | none =>
    simp only [q, Option.none_or] at e
    exact .inr (h' F H dx dy _ vx vy Q fk e wx wy k)
def gOp2 (f : D → D → Option D) (oa ob : FO) : FD := fun ρ => match oa ρ with
  | some (x, ρ1) => match ob ρ1 with
    | some (y, ρ2) => match res ρ2 x, res ρ2 y with
      | some dx, some dy => match f dx dy with
        | some d => some (d, ρ2)
        | none => none
      | _, _ => none
    | none => none
  | none => none
theorem gOp2_some {f : D → D → Option D} {oa ob : FO} {ρ : Env} {d : D} {ρ' : Env} (h : gOp2 f oa ob ρ = some (d, ρ')) : ∃ x ρ1 y dx dy, oa ρ = some (x, ρ1) ∧ ob ρ1 = some (y, ρ') ∧ res ρ' x = some dx ∧ res ρ' y = some dy ∧ f dx dy = some d := by
  unfold gOp2 at h
  split at h
  · rename_i x ρ1 q1
    split at h
    · rename_i y ρ2 q2
      split at h
      · rename_i dx dy q3 q4
        split at h
        · rename_i d' q5
          cases h
          exact ⟨x, ρ1, y, dx, dy, q1, q2, q3, q4, q5⟩
        · cases h
      · cases h
    · cases h
  · cases h
theorem op2_fit {K : Kc} {r : R2} {f : D → D → Option D} {oa ob : FO} (hp : PureR K r f) {σ : L2.St} {H : Hp} {Q : VK} (h : tD K (gOp2 f oa ob) σ H Q) : tOp r (tO K oa) (tO K ob) σ H Q := by
  obtain ⟨F, B, as, ρ, d, ρ', S, e, k⟩ := h
  obtain ⟨x, ρ1, y, dx, dy, e1, e2, e3, e4, e5⟩ := gOp2_some e
  exact seqOO S e1 e2 fun vx vy H2 F2 as2 E S2 rx ry => hp F2 H2 dx dy d vx vy Q S2.fk e5 (S2.res e3 rx) (S2.res e4 ry) fun v F' H' E' r => k v H' F' as2 (E.trans E'.pure) (S2.step E') r
section
variable {X : Cx} {pos : Pos}
theorem cd_bin {op : Operator} {r : R2} {f : D → D → Option D} {oa ob : FO} {a b : Expr} (ho : OpR X (binaryOp op) r) (hp : PureR (kc X) r f) (ha : PE X a (tO (kc X) oa)) (hb : PE X b (tO (kc X) ob)) : PE X (.BinOp a op b pos) (tD (kc X) (gOp2 f oa ob)) :=
  PE.to (pe_op ho ha hb) fun σ H Q h => op2_fit hp h
theorem cd_cmp {op : CmpOp} {r : R2} {f : D → D → Option D} {oa ob : FO} {a b : Expr} (ho : OpR X (compareOp op) r) (hp : PureR (kc X) r f) (ha : PE X a (tO (kc X) oa)) (hb : PE X b (tO (kc X) ob)) (hm : behindInMarks op b = false) : PE X (.Compare a [op] [b] pos) (tD (kc X) (gOp2 f oa ob)) :=
  PE.to (pe_cmpR ho ha hb hm) fun σ H Q h => op2_fit hp h
/-- as a test -/
def gT (g : FD) : FT := fun ρ => match g ρ with
  | some (.bl b, ρ') => some (b, ρ')
  | _ => none
theorem gT_some {g : FD} {ρ : Env} {b : Bool} {ρ' : Env} (h : gT g ρ = some (b, ρ')) : g ρ = some (.bl b, ρ') := by
  unfold gT at h
  split at h
  · rename_i b' ρ2 q; cases h; exact q
  · cases h
theorem tB_fit {K : Kc} {g : FD} {σ : L2.St} {H : Hp} {Q : Bool → Hp → Prop} (h : tB K (gT g) σ H Q) : tD K g σ H fun x H1 => ∃ k, x = .bl k ∧ Q k H1 := by
  obtain ⟨F, B, as, ρ, b, ρ', S, e, k⟩ := h
  exact ⟨F, B, as, ρ, .bl b, ρ', S, gT_some e, fun v H' F' as' E S' r => ⟨b, by unfold Rep at r; exact r, k H' F' as' E S'⟩⟩
theorem ct_cmp {op : CmpOp} {r : R2} {f : D → D → Option D} {oa ob : FO} {a b : Expr} (ho : OpR X (compareOp op) r) (hp : PureR (kc X) r f) (ha : PE X a (tO (kc X) oa)) (hb : PE X b (tO (kc X) ob)) (hm : behindInMarks op b = false) : PT X (.Compare a [op] [b] pos) (tB (kc X) (gT (gOp2 f oa ob))) :=
  PT.to (pt_cmpR ho ha hb hm) fun σ H Q h => op2_fit hp (tB_fit h)
theorem ct_val {e : Expr} {g : FD} (h : PE X e (tD (kc X) g)) (he : ∀ whole, isTrue e X.env whole = (do let v ← whole; standAt e.pos; holding [v] (truthy v)) := by intro _; rfl) : PT X e (tB (kc X) (gT g)) :=
  PT.to (pt_val h he) fun σ H Q h => tB_fit h
/-! ### and, or, not, if -/
def gAnd (a b : FT) : FT := fun ρ => match a ρ with
  | some (true, ρ1) => b ρ1
  | some (false, ρ1) => some (false, ρ1)
  | none => none
def gOr (a b : FT) : FT := fun ρ => match a ρ with
  | some (true, ρ1) => some (true, ρ1)
  | some (false, ρ1) => b ρ1
  | none => none
def gNot (a : FT) : FT := fun ρ => match a ρ with
  | some (c, ρ1) => some (!c, ρ1)
  | none => none
structure CB (X : Cx) (e : Expr) (g : FT) : Prop where
  run : PW X e (tB (kc X) g)
theorem CB.pt {e : Expr} {g : FT} (h : CB X e g) : PT X e (tB (kc X) g) := h.run.pt
theorem PW.to {e : Expr} {t t' : TT} (h : PW X e t) (c : ∀ σ H Q, t' σ H Q → t σ H Q) : PW X e t' := ⟨fun wh pins s σ H Q I hq => h.run wh pins s σ H Q I (c σ H Q hq)⟩
theorem cb_and1 {a : Expr} {g : FT} (h : PT X a (tB (kc X) g)) : CB X (.BoolOp .And [a] pos) g := ⟨pw_and1 h⟩
theorem cb_or1 {a : Expr} {g : FT} (h : PT X a (tB (kc X) g)) : CB X (.BoolOp .Or [a] pos) g := ⟨pw_or1 h⟩
theorem cb_and {a b : Expr} {rest : List Expr} {ga gb : FT} (ha : PT X a (tB (kc X) ga)) (hb : CB X (.BoolOp .And (b :: rest) pos) gb) : CB X (.BoolOp .And (a :: b :: rest) pos) (gAnd ga gb) :=
  ⟨PW.to (pw_and ha hb.run) fun σ H Q ⟨F, B, as, ρ, c, ρ', S, e, k⟩ => by
    unfold gAnd at e
    split at e
    · rename_i ρ1 q
      exact ⟨F, B, as, ρ, true, ρ1, S, q, fun H1 F1 as1 E1 S1 => by simp only [if_true]; exact ⟨F1, B, as1, ρ1, c, ρ', S1, e, fun H2 F2 as2 E2 S2 => k H2 F2 as2 (E1.trans E2) S2⟩⟩
    · rename_i ρ1 q
      cases e
      exact ⟨F, B, as, ρ, false, _, S, q, fun H1 F1 as1 E1 S1 => by simp only [Bool.false_eq_true, if_false]; exact k H1 F1 as1 E1 S1⟩
    · cases e⟩
theorem cb_or {a b : Expr} {rest : List Expr} {ga gb : FT} (ha : PT X a (tB (kc X) ga)) (hb : CB X (.BoolOp .Or (b :: rest) pos) gb) : CB X (.BoolOp .Or (a :: b :: rest) pos) (gOr ga gb) :=
  ⟨PW.to (pw_or ha hb.run) fun σ H Q ⟨F, B, as, ρ, c, ρ', S, e, k⟩ => by
    unfold gOr at e
    split at e
    · rename_i ρ1 q
      cases e
      exact ⟨F, B, as, ρ, true, _, S, q, fun H1 F1 as1 E1 S1 => by simp only [if_true]; exact k H1 F1 as1 E1 S1⟩
    · rename_i ρ1 q
      exact ⟨F, B, as, ρ, false, ρ1, S, q, fun H1 F1 as1 E1 S1 => by simp only [Bool.false_eq_true, if_false]; exact ⟨F1, B, as1, ρ1, c, ρ', S1, e, fun H2 F2 as2 E2 S2 => k H2 F2 as2 (E1.trans E2) S2⟩⟩
    · cases e⟩
theorem ct_not {a : Expr} {ga : FT} (ha : PT X a (tB (kc X) ga)) : PT X (.UnaryOp .Not a pos) (tB (kc X) (gNot ga)) := PT.to (pt_not ha) fun σ H Q ⟨F, B, as, ρ, c, ρ', S, e, k⟩ => by
  unfold gNot at e
  split at e
  · rename_i c' ρ1 q
    cases e
    exact ⟨F, B, as, ρ, c', _, S, q, fun H1 F1 as1 E1 S1 => k H1 F1 as1 E1 S1⟩
  · cases e
/-- .. as values -/
def gAndV (a b : FD) : FD := fun ρ => match a ρ with
  | some (.bl true, ρ1) => b ρ1
  | some (.bl false, ρ1) => some (.bl false, ρ1)
  | _ => none
def gOrV (a b : FD) : FD := fun ρ => match a ρ with
  | some (.bl true, ρ1) => some (.bl true, ρ1)
  | some (.bl false, ρ1) => b ρ1
  | _ => none
def gNotV (a : FD) : FD := fun ρ => match a ρ with
  | some (.bl c, ρ1) => some (.bl (!c), ρ1)
  | _ => none
theorem cd_one {op} {a : Expr} {g : FD} (h : PE X a (tD (kc X) g)) : PE X (.BoolOp op [a] pos) (tD (kc X) g) := pe_one h
theorem cd_and {a b : Expr} {rest : List Expr} {ga gb : FD} (ha : PE X a (tD (kc X) ga)) (hb : PE X (.BoolOp .And (b :: rest) pos) (tD (kc X) gb)) : PE X (.BoolOp .And (a :: b :: rest) pos) (tD (kc X) (gAndV ga gb)) :=
  PE.to (pe_and ha hb) fun σ H Q ⟨F, B, as, ρ, c, ρ', S, e, k⟩ => by
    unfold gAndV at e
    split at e
    · rename_i ρ1 q
      exact ⟨F, B, as, ρ, .bl true, ρ1, S, q, fun v H1 F1 as1 E1 S1 r => ⟨true, by unfold Rep at r; exact r, by simp only [if_true]; exact ⟨F1, B, as1, ρ1, c, ρ', S1, e, fun v H2 F2 as2 E2 S2 r => k v H2 F2 as2 (E1.trans E2) S2 r⟩⟩⟩
    · rename_i ρ1 q
      cases e
      exact ⟨F, B, as, ρ, .bl false, _, S, q, fun v H1 F1 as1 E1 S1 r => ⟨false, by unfold Rep at r; exact r, by simp only [Bool.false_eq_true, if_false]; exact k _ H1 F1 as1 E1 S1 Rep.bl'⟩⟩
    · cases e
theorem cd_or {a b : Expr} {rest : List Expr} {ga gb : FD} (ha : PE X a (tD (kc X) ga)) (hb : PE X (.BoolOp .Or (b :: rest) pos) (tD (kc X) gb)) : PE X (.BoolOp .Or (a :: b :: rest) pos) (tD (kc X) (gOrV ga gb)) :=
  PE.to (pe_or ha hb) fun σ H Q ⟨F, B, as, ρ, c, ρ', S, e, k⟩ => by
    unfold gOrV at e
    split at e
    · rename_i ρ1 q
      cases e
      exact ⟨F, B, as, ρ, .bl true, _, S, q, fun v H1 F1 as1 E1 S1 r => ⟨true, by unfold Rep at r; exact r, by simp only [if_true]; exact k _ H1 F1 as1 E1 S1 Rep.bl'⟩⟩
    · rename_i ρ1 q
      exact ⟨F, B, as, ρ, .bl false, ρ1, S, q, fun v H1 F1 as1 E1 S1 r => ⟨false, by unfold Rep at r; exact r, by simp only [Bool.false_eq_true, if_false]; exact ⟨F1, B, as1, ρ1, c, ρ', S1, e, fun v H2 F2 as2 E2 S2 r => k v H2 F2 as2 (E1.trans E2) S2 r⟩⟩⟩
    · cases e
theorem cd_not {a : Expr} {g : FD} (h : PE X a (tD (kc X) g)) : PE X (.UnaryOp .Not a pos) (tD (kc X) (gNotV g)) := PE.to (pe_not h) fun σ H Q ⟨F, B, as, ρ, c, ρ', S, e, k⟩ => by
  unfold gNotV at e
  split at e
  · rename_i c' ρ1 q
    cases e
    exact ⟨F, B, as, ρ, .bl c', _, S, q, fun v H1 F1 as1 E1 S1 r => ⟨c', by unfold Rep at r; exact r, k _ H1 F1 as1 E1 S1 Rep.bl'⟩⟩
  · cases e
def gIf (t : FT) (a b : FD) : FD := fun ρ => match t ρ with
  | some (true, ρ1) => a ρ1
  | some (false, ρ1) => b ρ1
  | none => none
def gIfW (t : FT) (a b : FW) : FW := fun ρ => match t ρ with
  | some (true, ρ1) => a ρ1
  | some (false, ρ1) => b ρ1
  | none => none
theorem cd_if {c a b : Expr} {t : FT} {ga gb : FD} (hc : PT X c (tB (kc X) t)) (ha : PE X a (tD (kc X) ga)) (hb : PE X b (tD (kc X) gb)) : PE X (.IfExp c a b pos) (tD (kc X) (gIf t ga gb)) :=
  PE.to (pe_ifExp hc ha hb) fun σ H Q ⟨F, B, as, ρ, d, ρ', S, e, k⟩ => by
    unfold gIf at e
    split at e
    · rename_i ρ1 q
      exact ⟨F, B, as, ρ, true, ρ1, S, q, fun H1 F1 as1 E1 S1 => by simp only [if_true]; exact ⟨F1, B, as1, ρ1, d, ρ', S1, e, fun v H2 F2 as2 E2 S2 r => k v H2 F2 as2 (E1.trans E2) S2 r⟩⟩
    · rename_i ρ1 q
      exact ⟨F, B, as, ρ, false, ρ1, S, q, fun H1 F1 as1 E1 S1 => by simp only [Bool.false_eq_true, if_false]; exact ⟨F1, B, as1, ρ1, d, ρ', S1, e, fun v H2 F2 as2 E2 S2 r => k v H2 F2 as2 (E1.trans E2) S2 r⟩⟩
    · cases e
theorem cw_if {c a b : Expr} {t : FT} {ga gb : FW} (hc : PT X c (tB (kc X) t)) (ha : PE X a (tW (kc X) ga)) (hb : PE X b (tW (kc X) gb)) : PE X (.IfExp c a b pos) (tW (kc X) (gIfW t ga gb)) :=
  PE.to (pe_ifExp hc ha hb) fun σ H Q ⟨F, B, as, ρ, d, w, ρ', S, e, k⟩ => by
    unfold gIfW at e
    split at e
    · rename_i ρ1 q
      exact ⟨F, B, as, ρ, true, ρ1, S, q, fun H1 F1 as1 E1 S1 => by simp only [if_true]; exact ⟨F1, B, as1, ρ1, d, w, ρ', S1, e, fun v H2 F2 as2 bs E2 S2 => k v H2 F2 as2 bs (E1.trans E2) S2⟩⟩
    · rename_i ρ1 q
      exact ⟨F, B, as, ρ, false, ρ1, S, q, fun H1 F1 as1 E1 S1 => by simp only [Bool.false_eq_true, if_false]; exact ⟨F1, B, as1, ρ1, d, w, ρ', S1, e, fun v H2 F2 as2 bs E2 S2 => k v H2 F2 as2 bs (E1.trans E2) S2⟩⟩
    · cases e

/-! ### one-argument built-ins -/
def PureC (K : Kc) (r : List V → Hp → VK → Prop) (f : D → Option D) : Prop := ∀ (F : Addr → Prop) (H : Hp) (dx d : D) (vx : V) (Q : VK), (∀ b, F b → H b ≠ none) → f dx = some d → Vw K F H dx vx →
  (∀ v F' H', Ext F [] H F' [] H' → Rep K F' H' d v → Q v H') → r [vx] H Q
def gOp1 (f : D → Option D) (oa : FO) : FD := fun ρ => match oa ρ with
  | some (x, ρ1) => match res ρ1 x with
    | some dx => match f dx with
      | some d => some (d, ρ1)
      | none => none
    | none => none
  | none => none
theorem gOp1_some {f : D → Option D} {oa : FO} {ρ : Env} {d : D} {ρ' : Env} (h : gOp1 f oa ρ = some (d, ρ')) : ∃ x dx, oa ρ = some (x, ρ') ∧ res ρ' x = some dx ∧ f dx = some d := by
  unfold gOp1 at h
  split at h
  · rename_i x ρ1 q1
    split at h
    · rename_i dx q2
      split at h
      · rename_i d' q3
        cases h
        exact ⟨x, dx, q1, q2, q3⟩
      · cases h
    · cases h
  · cases h
theorem op1_fit {K : Kc} {r : List V → Hp → VK → Prop} {f : D → Option D} {oa : FO} (hp : PureC K r f) {σ : L2.St} {H : Hp} {Q : VK} (h : tD K (gOp1 f oa) σ H Q) : tCB r (tCons (tO K oa) tNil) σ H Q := by
  obtain ⟨F, B, as, ρ, d, ρ', S, e, k⟩ := h
  obtain ⟨x, dx, e1, e3, e5⟩ := gOp1_some e
  exact ⟨F, B, as, ρ, x, ρ', S, e1, fun vx H2 F2 as2 E S2 rx => hp F2 H2 dx d vx Q S2.fk e5 (S2.res e3 rx) fun v F' H' E' r => k v H' F' as2 (E.trans E'.pure) (S2.step E') r⟩
theorem cd_call1 {x : Str} {id : String} {p : Pos} {a : Expr} {r : List V → Hp → VK → Prop} {f : D → Option D} {oa : FO} (hc : CallR X (.builtin id) r) (hp : PureC (kc X) r f) (hg : Gl X x) (hm : X.mg x = none) (hv : bootBuiltins x = some (.builtin id)) (ha : PE X a (tO (kc X) oa))
    (hn : x ≠ "__name__" := by decide) (hdb : (x == ("__debug__" : Str)) = false := by decide) (he : starEach [a] X.env = (false, eval a X.env) :: starEach [] X.env := by rfl) (hpl : (backTo pos (starEach [] X.env)).any (·.1) = false := by rfl) : PE X (.Call (.Name x p) [a] [] pos) (tD (kc X) (gOp1 f oa)) :=
  PE.to (pe_callB hc hg hm hv (pa_cons ha pa_nil he) hn hdb he hpl) fun σ H Q h => op1_fit hp h
theorem cd_callT1 {x : Str} {T : String} {p : Pos} {a : Expr} {r : List V → Hp → VK → Prop} {f : D → Option D} {oa : FO} (hc : CallR X (.type T) r) (hp : PureC (kc X) r f) (hg : Gl X x) (hm : X.mg x = none) (hv : bootBuiltins x = some (.type T)) (ha : PE X a (tO (kc X) oa))
    (hn : x ≠ "__name__" := by decide) (hdb : (x == ("__debug__" : Str)) = false := by decide) (he : starEach [a] X.env = (false, eval a X.env) :: starEach [] X.env := by rfl) (hpl : (backTo pos (starEach [] X.env)).any (·.1) = false := by rfl) : PE X (.Call (.Name x p) [a] [] pos) (tD (kc X) (gOp1 f oa)) :=
  PE.to (pe_callTy hc hg hm hv (pa_cons ha pa_nil he) hn hdb he hpl) fun σ H Q h => op1_fit hp h
/-- .. whose answer is a fresh own thing -/
def PureW (K : Kc) (r : List V → Hp → VK → Prop) (f : D → Option D) : Prop := ∀ (F : Addr → Prop) (H : Hp) (dx d : D) (vx : V) (Q : VK), (∀ b, F b → H b ≠ none) → f dx = some d → Vw K F H dx vx →
  (∀ p o, H p = none → Own K F (upd H p o) d (.ref p) [p] → Q (.ref p) (upd H p o)) → r [vx] H Q
def gOp1W (f : D → Option D) (oa : FO) : FW := fun ρ => (gOp1 f oa ρ).map fun p => (p.1, true, p.2)
theorem op1W_fit {K : Kc} {r : List V → Hp → VK → Prop} {f : D → Option D} {oa : FO} (hp : PureW K r f) {σ : L2.St} {H : Hp} {Q : VK} (h : tW K (gOp1W f oa) σ H Q) : tCB r (tCons (tO K oa) tNil) σ H Q := by
  obtain ⟨F, B, as, ρ, d, w, ρ', S, e, k⟩ := h
  obtain ⟨p, e9, e2⟩ := Option.map_eq_some_iff.mp e
  cases e2
  obtain ⟨x, dx, e1, e3, e5⟩ := gOp1_some e9
  exact ⟨F, B, as, ρ, x, p.2, S, e1, fun vx H2 F2 as2 E S2 rx => hp F2 H2 dx p.1 vx Q S2.fk e5 (S2.res e3 rx) fun q o hq r => by
    obtain ⟨E3, S3⟩ := new_own hq S2 r
    exact k _ _ F2 as2 [q] (E.trans E3) S3⟩
theorem cw_callT1 {x : Str} {T : String} {p : Pos} {a : Expr} {r : List V → Hp → VK → Prop} {f : D → Option D} {oa : FO} (hc : CallR X (.type T) r) (hp : PureW (kc X) r f) (hg : Gl X x) (hm : X.mg x = none) (hv : bootBuiltins x = some (.type T)) (ha : PE X a (tO (kc X) oa))
    (hn : x ≠ "__name__" := by decide) (hdb : (x == ("__debug__" : Str)) = false := by decide) (he : starEach [a] X.env = (false, eval a X.env) :: starEach [] X.env := by rfl) (hpl : (backTo pos (starEach [] X.env)).any (·.1) = false := by rfl) : PE X (.Call (.Name x p) [a] [] pos) (tW (kc X) (gOp1W f oa)) :=
  PE.to (pe_callTy hc hg hm hv (pa_cons ha pa_nil he) hn hdb he hpl) fun σ H Q h => op1W_fit hp h
theorem cw_callB1 {x : Str} {id : String} {p : Pos} {a : Expr} {r : List V → Hp → VK → Prop} {f : D → Option D} {oa : FO} (hc : CallR X (.builtin id) r) (hp : PureW (kc X) r f) (hg : Gl X x) (hm : X.mg x = none) (hv : bootBuiltins x = some (.builtin id)) (ha : PE X a (tO (kc X) oa))
    (hn : x ≠ "__name__" := by decide) (hdb : (x == ("__debug__" : Str)) = false := by decide) (he : starEach [a] X.env = (false, eval a X.env) :: starEach [] X.env := by rfl) (hpl : (backTo pos (starEach [] X.env)).any (·.1) = false := by rfl) : PE X (.Call (.Name x p) [a] [] pos) (tW (kc X) (gOp1W f oa)) :=
  PE.to (pe_callB hc hg hm hv (pa_cons ha pa_nil he) hn hdb he hpl) fun σ H Q h => op1W_fit hp h
end

/-! ### numbers -/
def addI : D → D → Option D
  | .int i, .int j => some (.int (i + j))
  | _, _ => none
def subI : D → D → Option D
  | .int i, .int j => some (.int (i - j))
  | _, _ => none
def mulI : D → D → Option D
  | .int i, .int j => if (-(2 ^ 64) < i ∧ i < 2 ^ 64) ∨ (-(2 ^ 64) < j ∧ j < 2 ^ 64) then some (.int (i * j)) else none
  | _, _ => none
def divI : D → D → Option D
  | .int i, .int j => if 0 < j ∧ j < 1073741824 then some (.int (i / j)) else none
  | _, _ => none
def modI : D → D → Option D
  | .int i, .int j => if 0 < j then some (.int (i % j)) else none
  | _, _ => none
def powI : D → D → Option D
  | .int i, .int j => if 0 ≤ j ∧ j ≤ 1000000 ∧ i.natAbs < 2 ^ 64 then some (.int (i ^ j.toNat)) else none
  | _, _ => none
def ltI : D → D → Option D
  | .int i, .int j => some (.bl (decide (i < j)))
  | _, _ => none
def leI : D → D → Option D
  | .int i, .int j => some (.bl (decide (i ≤ j)))
  | _, _ => none
def gtI : D → D → Option D
  | .int i, .int j => some (.bl (decide (j < i)))
  | _, _ => none
def geI : D → D → Option D
  | .int i, .int j => some (.bl (decide (j ≤ i)))
  | _, _ => none
section
variable {K : Kc}
theorem pr_i0 {g : Int → Int → V} {gd : Int → Int → D} (h : ∀ i j F H, Rep K F H (gd i j) (g i j)) : PureR K (rI0 g) (fun x y => match x, y with | .int i, .int j => some (gd i j) | _, _ => none) := by
  intro F H dx dy d vx vy Q fk e wx wy k
  dsimp only at e
  split at e
  · cases e
    exact ⟨_, _, wx.int, wy.int, k _ F H .refl (h _ _ _ _)⟩
  · cases e
theorem pr_add : PureR K (rI0 fun i j => .int (i + j)) addI := pr_i0 (gd := fun i j => .int (i + j)) fun _ _ _ _ => Rep.int'
theorem pr_sub : PureR K (rI0 fun i j => .int (i - j)) subI := pr_i0 (gd := fun i j => .int (i - j)) fun _ _ _ _ => Rep.int'
theorem pr_lt : PureR K (rI0 fun i j => .bl (decide (i < j))) ltI := pr_i0 (gd := fun i j => .bl (decide (i < j))) fun _ _ _ _ => Rep.bl'
theorem pr_le : PureR K (rI0 fun i j => .bl (decide (i ≤ j))) leI := pr_i0 (gd := fun i j => .bl (decide (i ≤ j))) fun _ _ _ _ => Rep.bl'
theorem pr_gt : PureR K (rI0 fun i j => .bl (decide (j < i))) gtI := pr_i0 (gd := fun i j => .bl (decide (j < i))) fun _ _ _ _ => Rep.bl'
theorem pr_ge : PureR K (rI0 fun i j => .bl (decide (j ≤ i))) geI := pr_i0 (gd := fun i j => .bl (decide (j ≤ i))) fun _ _ _ _ => Rep.bl'
theorem pr_iC {C : Int → Int → Prop} {c : Int → Int → Prop} [∀ i j, Decidable (c i j)] {g : Int → Int → Int} (hc : ∀ i j, c i j → C i j) : PureR K (rI C fun i j => .int (g i j)) (fun x y => match x, y with | .int i, .int j => if c i j then some (.int (g i j)) else none | _, _ => none) := by
  intro F H dx dy d vx vy Q fk e wx wy k
  dsimp only at e
  split at e
  · split at e
    · rename_i q
      cases e
      exact ⟨_, _, wx.int, wy.int, hc _ _ q, k _ F H .refl Rep.int'⟩
    · cases e
  · cases e
theorem pr_mul : PureR K (rI CMul fun i j => .int (i * j)) mulI := pr_iC (c := fun i j => (-(2 ^ 64) < i ∧ i < 2 ^ 64) ∨ (-(2 ^ 64) < j ∧ j < 2 ^ 64)) fun _ _ h => h
theorem pr_div : PureR K (rI CDiv fun i j => .int (i / j)) divI := pr_iC (c := fun i j => 0 < j ∧ j < 1073741824) fun _ _ h => h
theorem pr_mod : PureR K (rI (fun _ j => 0 < j) fun i j => .int (i % j)) modI := pr_iC (c := fun _ j => 0 < j) fun _ _ h => h
theorem pr_pow : PureR K (rI CPow fun i j => .int (i ^ j.toNat)) powI := pr_iC (c := fun i j => 0 ≤ j ∧ j ≤ 1000000 ∧ i.natAbs < 2 ^ 64) fun _ _ h => h
end

/-! ### + -/
def catT : D → D → Option D
  | .tup xs, .tup ys => if xs.length + ys.length ≤ SZ then some (.tup (xs ++ ys)) else none
  | _, _ => none
def catS : D → D → Option D
  | .str x, .str y => if x.length + y.length ≤ SZ then some (.str (x ++ y)) else none
  | _, _ => none
def catL : D → D → Option D
  | .lst xs, .lst ys => if xs.length + ys.length ≤ SZ then some (.lst (xs ++ ys)) else none
  | _, _ => none
def addD : D → D → Option D
  | .int i, .int j => some (.int (i + j))
  | .str x, .str y => if x.length + y.length ≤ SZ then some (.str (x ++ y)) else none
  | .tup xs, .tup ys => if xs.length + ys.length ≤ SZ then some (.tup (xs ++ ys)) else none
  | .lst xs, .lst ys => if xs.length + ys.length ≤ SZ then some (.lst (xs ++ ys)) else none
  | _, _ => none
section
variable {K : Kc}
theorem RepL.eq_nil {F : Addr → Prop} {H : Hp} {ds : List D} (r : RepL K F H ds []) : ds = [] := by
  have := r.length
  exact List.eq_nil_of_length_eq_zero (by simpa using this.symm)
theorem pr_catT : PureR K (rCatA K.K) catT := by
  intro F H dx dy d vx vy Q fk e wx wy k
  unfold catT at e
  split at e
  · rename_i xs ys
    split at e
    · rename_i hz
      cases e
      obtain ⟨a, us, rfl, h1, r1⟩ := wx.tup
      obtain ⟨b, ws, rfl, h2, r2⟩ := wy.tup
      refine ⟨a, b, us, ws, rfl, rfl, h1, h2, sz_le (by rw [r1.length, r2.length]; exact hz), fun z => ?_, fun z1 z2 => ?_, fun z1 z2 p hp => ?_⟩
      · subst z
        have z := r1.eq_nil
        subst z
        exact k _ F H .refl (Rep.tup' h2 r2)
      · subst z2
        have z := r2.eq_nil
        subst z
        rw [List.append_nil] at k
        exact k _ F H .refl (Rep.tup' h1 r1)
      · obtain ⟨E, r⟩ := new_tup hp (r1.append r2)
        exact k _ F _ E r
    · cases e
  · cases e
theorem pr_catS : PureR K (fun x y H Q => ∃ i j, x = .str i ∧ y = .str j ∧ i.length + j.length ≤ sizeLine ∧ Q (.str (i ++ j)) H) catS := by
  intro F H dx dy d vx vy Q fk e wx wy k
  unfold catS at e
  split at e
  · split at e
    · rename_i hz
      cases e
      exact ⟨_, _, wx.str, wy.str, sz_le hz, k _ F H .refl Rep.str'⟩
    · cases e
  · cases e
/-- a new list among what never changes -/
theorem new_lstF {F : Addr → Prop} {H : Hp} {p : Addr} {ds : List D} {vs : List V} (hp : H p = none) (r : RepL K F H ds vs) : Ext F [] H (fun b => F b ∨ b = p) [] (upd H p (.lst vs)) ∧ Rep K (fun b => F b ∨ b = p) (upd H p (.lst vs)) (.lst ds) (.ref p) := by
  have E : Ext F [] H (fun b => F b ∨ b = p) [] (upd H p (.lst vs)) := Ext.newF hp
  refine ⟨E, ?_⟩
  unfold Rep
  exact ⟨p, vs, rfl, .inr rfl, upd_same, RepL.stb E.stb _ _ r⟩
theorem pr_catL : PureR K rCat catL := by
  intro F H dx dy d vx vy Q fk e wx wy k
  unfold catL at e
  split at e
  · split at e
    · rename_i hz
      cases e
      obtain ⟨a, us, rfl, h1, r1⟩ := wx.lst
      obtain ⟨b, ws, rfl, h2, r2⟩ := wy.lst
      refine ⟨a, b, us, ws, rfl, rfl, h1, h2, sz_le (by rw [r1.length, r2.length]; exact hz), fun p hp => ?_⟩
      obtain ⟨E, r⟩ := new_lstF hp (r1.append r2)
      exact k _ _ _ E r
    · cases e
  · cases e
theorem PureR.eqf {r : R2} {f g : D → D → Option D} (h : PureR K r f) (e : ∀ x y d, g x y = some d → f x y = some d) : PureR K r g := fun F H dx dy d vx vy Q fk q => h F H dx dy d vx vy Q fk (e _ _ _ q)
def rAddAll (K : PySem.W.Frag) : R2 := fun x y H Q => rI0 (fun i j => .int (i + j)) x y H Q ∨ (fun x y H Q => (fun x y H Q => ∃ i j, x = .str i ∧ y = .str j ∧ i.length + j.length ≤ sizeLine ∧ Q (.str (i ++ j)) H) x y H Q ∨ (fun x y H Q => rCatA K x y H Q ∨ rCat x y H Q) x y H Q) x y H Q
theorem pr_addAll : PureR K (rAddAll K.K) addD := by
  refine PureR.eqf (PureR.or pr_add (PureR.or pr_catS (PureR.or pr_catT pr_catL))) fun x y d e => ?_
  unfold addD at e
  split at e
  · cases e; rfl
  · simp only [addI, catS, Option.none_or, e, Option.some_or]
  · simp only [addI, catS, catT, catL, Option.none_or, e, Option.or_none]
  · simp only [addI, catS, catT, catL, Option.none_or, e]
  · cases e
theorem or_addAll {X : Cx} : OpR X (binaryOp .Add) (rAddAll X.K) := op_add.or (op_add_str.or (op_catA.or op_cat))
end

/-! ### ==, != -/
def eqP (x y : D) : Option D := if okPy x = true ∧ okPy y = true then some (.bl (PyData.eqv (toPy x) (toPy y))) else none
def neP (x y : D) : Option D := if okPy x = true ∧ okPy y = true then some (.bl (!PyData.eqv (toPy x) (toPy y))) else none
def eqS : D → D → Option Bool
  | .str x, .str y => some (x == y)
  | .int x, .int y => some (x == y)
  | .bl x, .bl y => some (x == y)
  | .non, .non => some true
  | .non, .str _ => some false
  | .str _, .non => some false
  | _, _ => none
def eqD (x y : D) : Option D := ((eqS x y).map .bl).or (eqP x y)
def neD (x y : D) : Option D := ((eqS x y).map fun b => .bl (!b)).or (neP x y)
section
variable {K : Kc}
theorem eqS_scal {F : Addr → Prop} {H : Hp} {dx dy : D} {vx vy : V} {b : Bool} (e : eqS dx dy = some b) (wx : Vw K F H dx vx) (wy : Vw K F H dy vy) : scal vx vy = true ∧ decide (vx = vy) = b := by
  unfold eqS at e
  split at e <;> cases e
  · cases wx.str; cases wy.str; exact ⟨rfl, dec_str⟩
  · cases wx.int; cases wy.int; exact ⟨rfl, dec_int⟩
  · cases wx.bl; cases wy.bl; exact ⟨rfl, dec_bl⟩
  · cases wx.non; cases wy.non; exact ⟨rfl, by simp⟩
  · cases wx.non; cases wy.str; exact ⟨rfl, by simp⟩
  · cases wx.str; cases wy.non; exact ⟨rfl, by simp⟩
theorem pr_eqS : PureR K rEq (fun x y => (eqS x y).map .bl) := by
  intro F H dx dy d vx vy Q fk e wx wy k
  obtain ⟨b, e9, e2⟩ := Option.map_eq_some_iff.mp e
  cases e2
  obtain ⟨h1, h2⟩ := eqS_scal e9 wx wy
  exact ⟨h1, by rw [h2]; exact k _ F H .refl Rep.bl'⟩
theorem pr_neS : PureR K rNe (fun x y => (eqS x y).map fun b => .bl (!b)) := by
  intro F H dx dy d vx vy Q fk e wx wy k
  obtain ⟨b, e9, e2⟩ := Option.map_eq_some_iff.mp e
  cases e2
  obtain ⟨h1, h2⟩ := eqS_scal e9 wx wy
  exact ⟨h1, by rw [h2]; exact k _ F H .refl Rep.bl'⟩
theorem pr_eqP : PureR K (rEqD K.K) eqP := by
  intro F H dx dy d vx vy Q fk e wx wy k
  unfold eqP at e
  split at e
  · rename_i q
    cases e
    exact ⟨_, _, wx.dp q.1, wy.dp q.2, q.1, q.2, k _ F H .refl Rep.bl'⟩
  · cases e
theorem pr_neP : PureR K (rNeD K.K) neP := by
  intro F H dx dy d vx vy Q fk e wx wy k
  unfold neP at e
  split at e
  · rename_i q
    cases e
    exact ⟨_, _, wx.dp q.1, wy.dp q.2, q.1, q.2, k _ F H .refl Rep.bl'⟩
  · cases e
theorem pr_eq : PureR K (fun x y H Q => rEq x y H Q ∨ rEqD K.K x y H Q) eqD := pr_eqS.or pr_eqP
theorem pr_ne : PureR K (fun x y H Q => rNe x y H Q ∨ rNeD K.K x y H Q) neD := pr_neS.or pr_neP
theorem or_eq {X : Cx} (hu : X.A.units + 64 < cLine) : OpR X (compareOp .Eq) (fun x y H Q => rEq x y H Q ∨ rEqD X.K x y H Q) := op_eq.or (op_eqD hu)
theorem or_ne {X : Cx} (hu : X.A.units + 64 < cLine) : OpR X (compareOp .NotEq) (fun x y H Q => rNe x y H Q ∨ rNeD X.K x y H Q) := op_ne.or (op_neD hu)
end

/-! ### is -/
def isNon : D → Bool
  | .non => true
  | _ => false
def isP : D → D → Option Bool
  | x, .non => some (isNon x)
  | .bl a, .bl b => some (a == b)
  | _, _ => none
def isD (x y : D) : Option D := (isP x y).map .bl
def isnD (x y : D) : Option D := (isP x y).map fun b => .bl (!b)
section
variable {K : Kc}
theorem Vw.isNon {F : Addr → Prop} {H : Hp} {d : D} {v : V} (w : Vw K F H d v) : decide (v = .non) = DV.isNon d := by
  cases d with
  | non => cases w.non; simp [DV.isNon]
  | bl _ => cases w.bl; simp [DV.isNon]
  | int _ => cases w.int; simp [DV.isNon]
  | str _ => cases w.str; simp [DV.isNon]
  | ty _ => unfold Vw Rep at w; subst w; simp [DV.isNon]
  | fn _ => unfold Vw Rep at w; obtain ⟨f, rfl, _⟩ := w; simp [DV.isNon]
  | tup _ => obtain ⟨a, vs, rfl, _⟩ := w.tup; simp [DV.isNon]
  | lst _ => obtain ⟨a, vs, rfl, _⟩ := w.lst; simp [DV.isNon]
  | dic _ _ => unfold Vw at w; obtain ⟨a, vs, rfl, _⟩ := w; simp [DV.isNon]
  | scr _ => unfold Vw Rep at w; obtain ⟨a, rfl, _⟩ := w; simp [DV.isNon]
  | ins _ _ _ _ => unfold Vw at w; obtain ⟨as, a, _, _, _, _, rfl, _⟩ := w; simp [DV.isNon]
def rIsAll : R2 := fun x y H Q => (fun x y H Q => y = .non ∧ Q (.bl (decide (x = .non))) H) x y H Q ∨ rIsB x y H Q
def rIsnAll : R2 := fun x y H Q => (fun x y H Q => y = .non ∧ Q (.bl (!decide (x = .non))) H) x y H Q ∨ rNotB x y H Q
theorem pr_is : PureR K rIsAll isD := by
  intro F H dx dy d vx vy Q fk e wx wy k
  obtain ⟨b, e9, e2⟩ := Option.map_eq_some_iff.mp e
  cases e2
  clear e
  unfold isP at e9
  split at e9
  · cases e9
    exact .inl ⟨wy.non, by rw [wx.isNon]; exact k _ F H .refl Rep.bl'⟩
  · cases e9
    exact .inr ⟨_, _, wx.bl, wy.bl, by rw [← Bool.beq_eq_decide_eq]; exact k _ F H .refl Rep.bl'⟩
  · cases e9
theorem pr_isn : PureR K rIsnAll isnD := by
  intro F H dx dy d vx vy Q fk e wx wy k
  obtain ⟨b, e9, e2⟩ := Option.map_eq_some_iff.mp e
  cases e2
  clear e
  unfold isP at e9
  split at e9
  · cases e9
    exact .inl ⟨wy.non, by rw [wx.isNon]; exact k _ F H .refl Rep.bl'⟩
  · cases e9
    exact .inr ⟨_, _, wx.bl, wy.bl, by rw [← Bool.beq_eq_decide_eq]; exact k _ F H .refl Rep.bl'⟩
  · cases e9
theorem or_is {X : Cx} : OpR X (compareOp .Is) rIsAll := op_isN.or op_isBl
theorem or_isn {X : Cx} : OpR X (compareOp .IsNot) rIsnAll := op_notN.or op_notBl
end
end DV

/-! DV4: in, subscripts, slices, built-ins. -/
namespace DV
open L2 PySem PySem.Spec PyProof.Rows

/-! ### keys -/
def isKey : D → Bool
  | .int _ => true
  | .str _ => true
  | _ => false
def eqKey : D → D → Bool
  | .int i, .int j => i == j
  | .str x, .str y => x == y
  | _, _ => false
def dget : List D → List D → D → Option D
  | k' :: ks, v :: vs, k => if eqKey k' k = true then some v else dget ks vs k
  | _, _, _ => none
def toKey : D → Option Key
  | .int i => some (.inl i)
  | .str x => some (.inr x)
  | _ => none
theorem toKey_some {d : D} {k : Key} (h : toKey d = some k) : d = dkey k := by
  cases d <;> simp [toKey] at h <;> subst h <;> rfl
theorem isKey_to {d : D} (h : isKey d = true) : ∃ k, d = dkey k := by
  cases d <;> simp [isKey] at h
  · exact ⟨.inl _, rfl⟩
  · exact ⟨.inr _, rfl⟩
theorem eqKey_iff (a b : Key) : eqKey (dkey a) (dkey b) = decide (a = b) := by
  cases a <;> cases b <;> simp [dkey, eqKey]
  all_goals rfl
theorem Vw.key {K : Kc} {F : Addr → Prop} {H : Hp} {k : Key} {v : V} (w : Vw K F H (dkey k) v) : v = kV k := by
  cases k with
  | inl i => exact Vw.int w
  | inr x => exact Vw.str w
theorem dget_val {K : Kc} {F : Addr → Prop} {H : Hp} : ∀ {kvs : List (Key × V)} {ds : List D} (k : Key), RepL K F H ds (kvs.map (·.2)) →
    (dget (kvs.map fun p => dkey p.1) ds (dkey k) = none ∧ valV kvs k = none) ∨ ∃ d v, dget (kvs.map fun p => dkey p.1) ds (dkey k) = some d ∧ valV kvs k = some v ∧ Rep K F H d v
  | [], ds, k, r => by
    have := r.length
    have : ds = [] := List.eq_nil_of_length_eq_zero (by simpa using this.symm)
    subst this
    exact .inl ⟨rfl, rfl⟩
  | (k', v) :: kvs, [], k, r => by unfold RepL at r; simp at r
  | (k', v) :: kvs, d :: ds, k, r => by
    unfold RepL at r
    obtain ⟨v', r', e, h1, h2⟩ := r
    simp only [List.map_cons, List.cons.injEq] at e
    obtain ⟨rfl, rfl⟩ := e
    have ih := dget_val k h2
    simp only [List.map_cons, dget, eqKey_iff, decide_eq_true_eq]
    by_cases e : k' = k
    · rw [if_pos e, valV_pos e]
      exact .inr ⟨d, v, rfl, rfl, h1⟩
    · rw [if_neg e, valV_neg e]
      exact ih

/-! ### in -/
def inS : D → D → Option Bool
  | .str x, .str z => some (!(Builtin.Str.occurrences z x 0 z.length 1).isEmpty)
  | _, _ => none
def inK : D → D → Option Bool
  | k, .dic ks vs => if isKey k = true then some (dget ks vs k).isSome else none
  | _, _ => none
def seqOf : D → Option (List D)
  | .lst xs => some xs
  | .tup xs => some xs
  | _ => none
def flatD : D → Bool
  | .non => true
  | .bl _ => true
  | .int _ => true
  | .str _ => true
  | _ => false
def eqFl : D → D → Bool
  | .non, .non => true
  | .bl a, .bl b => a == b
  | .bl a, .int b => (if a then 1 else 0) == b
  | .int a, .bl b => a == (if b then 1 else 0)
  | .int a, .int b => a == b
  | .str a, .str b => a == b
  | _, _ => false
def inF (x y : D) : Option Bool := match seqOf y with
  | some xs => if flatD x = true ∧ xs.all flatD = true then some (xs.any fun z => eqFl z x) else none
  | none => none
def inP (x y : D) : Option Bool := match seqOf y with
  | some xs => if okPy x = true ∧ okPy y = true then some ((toPyL xs).any fun z => PyData.eqv z (toPy x)) else none
  | none => none
def inB (x y : D) : Option Bool := (inS x y).or ((inK x y).or ((inF x y).or (inP x y)))
def inD (x y : D) : Option D := (inB x y).map .bl
def ninD (x y : D) : Option D := (inB x y).map fun b => .bl (!b)

/-- y in x by values -/
def rInN (K : PySem.W.Frag) (n : Bool) : R2 := fun x y H Q =>
  (∃ i j, x = .str i ∧ y = .str j ∧ Q (.bl ((!(Builtin.Str.occurrences j i 0 j.length 1).isEmpty) != n)) H) ∨
  (∃ a o, y = .ref a ∧ DGet H a x o ∧ Q (.bl (o.isSome != n)) H) ∨
  (∃ p xs, y = .ref p ∧ (SqL K H p xs ∨ SqT K H p xs) ∧ flatV x = true ∧ xs.all flatV = true ∧ Q (.bl (inV x xs != n)) H) ∨
  (∃ d ds, Dp K H x d ∧ Dp K H y (.list ds) ∧ SeqAt.shaped d = true ∧ SeqAt.shaped (.list ds) = true ∧ Q (.bl ((ds.any fun z => PyData.eqv z d) != n)) H) ∨
  (∃ d ds, Dp K H x d ∧ Dp K H y (.tuple ds) ∧ SeqAt.shaped d = true ∧ SeqAt.shaped (.tuple ds) = true ∧ Q (.bl ((ds.any fun z => PyData.eqv z d) != n)) H)
section
variable {X : Cx}
theorem or_in (hu : X.A.units + 65 < cLine) : OpR X (compareOp .In) (rInN X.K false) := by
  intro pins s σ H x y v u Q I rx ry h
  rcases h with h | h | h | h | h
  · obtain ⟨i, j, e1, e2, q⟩ := h
    exact op_in_str pins s σ H x y v u Q I rx ry ⟨i, j, e1, e2, by simpa using q⟩
  · obtain ⟨a, o, e1, g, q⟩ := h
    subst e1
    cases ry
    exact d_in (by omega) I g rx fun s' I' => ⟨.bl o.isSome, H, I', rfl, by simpa using q⟩
  · obtain ⟨p, xs, e1, h1, h2, h3, q⟩ := h
    exact op_in_seq pins s σ H x y v u Q I rx ry ⟨p, xs, e1, h1, h2, h3, by simpa using q⟩
  · obtain ⟨d, ds, h1, h2, h3, h4, q⟩ := h
    exact op_inD hu pins s σ H x y v u Q I rx ry ⟨d, ds, h1, h2, h3, h4, by simpa using q⟩
  · obtain ⟨d, ds, h1, h2, h3, h4, q⟩ := h
    obtain ⟨as, r1⟩ := Dp.reads I d x v h1 rx
    obtain ⟨bs, r2⟩ := Dp.reads I (.tuple ds) y u h2 ry
    have cl : PyData.canLayAll0 ds = true := by simpa [PyData.canLay0] using SeqAt.canLay_of_shaped h4
    exact SeqAt.in_tuple_reads r2 r1 cl (SeqAt.canLay_of_shaped h3) (room_in_shaped h3 hu) ⟨.bl _, H, I, rfl, by simpa using q⟩
theorem or_nin (hu : X.A.units + 65 < cLine) : OpR X (compareOp .NotIn) (rInN X.K true) := by
  intro pins s σ H x y v u Q I rx ry h
  rcases h with h | h | h | h | h
  · obtain ⟨i, j, e1, e2, q⟩ := h
    exact op_notin_str pins s σ H x y v u Q I rx ry ⟨i, j, e1, e2, by simpa using q⟩
  · obtain ⟨a, o, e1, g, q⟩ := h
    subst e1
    cases ry
    exact d_notIn (by omega) I g rx fun s' I' => ⟨.bl (!o.isSome), H, I', rfl, by simpa using q⟩
  · obtain ⟨p, xs, e1, h1, h2, h3, q⟩ := h
    exact op_notIn_seq pins s σ H x y v u Q I rx ry ⟨p, xs, e1, h1, h2, h3, by simpa using q⟩
  · obtain ⟨d, ds, h1, h2, h3, h4, q⟩ := h
    exact op_notInD hu pins s σ H x y v u Q I rx ry ⟨d, ds, h1, h2, h3, h4, by simpa using q⟩
  · obtain ⟨d, ds, h1, h2, h3, h4, q⟩ := h
    obtain ⟨as, r1⟩ := Dp.reads I d x v h1 rx
    obtain ⟨bs, r2⟩ := Dp.reads I (.tuple ds) y u h2 ry
    have cl : PyData.canLayAll0 ds = true := by simpa [PyData.canLay0] using SeqAt.canLay_of_shaped h4
    exact SeqAt.notIn_tuple_reads r2 r1 cl (SeqAt.canLay_of_shaped h3) (room_in_shaped h3 hu) ⟨.bl _, H, I, rfl, by simpa using q⟩
end
section
variable {K : Kc} {F : Addr → Prop} {H : Hp}
theorem Rep.flat {d : D} {v : V} (h : Rep K F H d v) (f : flatD d = true) : flatV v = true := by
  cases d <;> simp [flatD] at f <;> (unfold Rep at h; subst h; rfl)
theorem Rep.eqFl {d e : D} {v u : V} (h : Rep K F H d v) (f : flatD d = true) (h' : Rep K F H e u) (f' : flatD e = true) : DV.eqFl d e = eqV v u := by
  cases d <;> simp [flatD] at f <;> cases e <;> simp [flatD] at f' <;> (unfold Rep at h h'; subst h; subst h'; rfl)
theorem RepL.flat : ∀ {ds : List D} {vs : List V}, RepL K F H ds vs → ds.all flatD = true → vs.all flatV = true
  | [], _, h, _ => by unfold RepL at h; subst h; rfl
  | d :: ds, _, h, f => by
    unfold RepL at h
    obtain ⟨v, r, rfl, h1, h2⟩ := h
    simp only [List.all_cons, Bool.and_eq_true] at f ⊢
    exact ⟨h1.flat f.1, RepL.flat h2 f.2⟩
theorem RepL.anyFl {x : D} {u : V} (hx : Rep K F H x u) (fx : flatD x = true) : ∀ {ds : List D} {vs : List V}, RepL K F H ds vs → ds.all flatD = true → (ds.any fun z => DV.eqFl z x) = inV u vs
  | [], _, h, _ => by unfold RepL at h; subst h; rfl
  | d :: ds, _, h, f => by
    unfold RepL at h
    obtain ⟨v, r, rfl, h1, h2⟩ := h
    simp only [List.all_cons, Bool.and_eq_true] at f
    have ih := RepL.anyFl hx fx h2 f.2
    unfold inV at ih ⊢
    simp only [List.any_cons, ih, h1.eqFl f.1 hx fx]
theorem Vw.flatRep {d : D} {v : V} (h : Vw K F H d v) (f : flatD d = true) : Rep K F H d v := by
  cases d <;> simp [flatD] at f <;> (unfold Vw at h; exact h)
theorem Vw.seq {d : D} {v : V} {xs : List D} (h : Vw K F H d v) (e : seqOf d = some xs) : ∃ p vs, v = .ref p ∧ (SqL K.K H p vs ∨ SqT K.K H p vs) ∧ RepL K F H xs vs := by
  cases d <;> simp [seqOf] at e
  · subst e; obtain ⟨a, vs, e, h1, h2⟩ := h.tup; exact ⟨a, vs, e, .inr h1, h2⟩
  · subst e; obtain ⟨a, vs, e, h1, h2⟩ := h.lst; exact ⟨a, vs, e, .inl (SqL.of h1), h2⟩
end
section
variable {K : Kc}
theorem pr_inN (n : Bool) : PureR K (rInN K.K n) (fun x y => (inB x y).map fun b => .bl (b != n)) := by
  intro F H dx dy d vx vy Q fk e wx wy k
  obtain ⟨b, e9, e2⟩ := Option.map_eq_some_iff.mp e
  clear e
  cases e2
  have fin : Q (.bl (b != n)) H := k _ F H .refl Rep.bl'
  unfold inB at e9
  cases q1 : inS dx dy with
  | some b1 =>
    rw [q1] at e9
    simp only [Option.some_or, Option.some.injEq] at e9
    subst e9
    unfold inS at q1
    split at q1
    · cases q1
      exact .inl ⟨_, _, wx.str, wy.str, fin⟩
    · cases q1
  | none =>
    rw [q1, Option.none_or] at e9
    cases q2 : inK dx dy with
    | some b1 =>
      rw [q2] at e9
      simp only [Option.some_or, Option.some.injEq] at e9
      subst e9
      unfold inK at q2
      split at q2
      · split at q2
        · rename_i hk
          cases q2
          obtain ⟨key, rfl⟩ := isKey_to hk
          unfold Vw at wy
          obtain ⟨a, kvs, rfl, h1, rfl, h3⟩ := wy
          cases wx.key
          refine .inr (.inl ⟨a, valV kvs key, rfl, .inl ⟨kvs, key, h1, rfl, rfl⟩, ?_⟩)
          rcases dget_val key h3 with ⟨z1, z2⟩ | ⟨d, v, z1, z2, _⟩
          · rw [z1] at fin; rw [z2]; exact fin
          · rw [z1] at fin; rw [z2]; exact fin
        · cases q2
      · cases q2
    | none =>
      rw [q2, Option.none_or] at e9
      cases q3 : inF dx dy with
      | some b1 =>
        rw [q3] at e9
        simp only [Option.some_or, Option.some.injEq] at e9
        subst e9
        unfold inF at q3
        split at q3
        · rename_i xs hs
          split at q3
          · rename_i hf
            cases q3
            obtain ⟨p, vs, rfl, h1, h2⟩ := wy.seq hs
            have hx := wx.flatRep hf.1
            refine .inr (.inr (.inl ⟨p, vs, rfl, h1, hx.flat hf.1, h2.flat hf.2, ?_⟩))
            rw [← RepL.anyFl hx hf.1 h2 hf.2]
            exact fin
          · cases q3
        · cases q3
      | none =>
        rw [q3, Option.none_or] at e9
        unfold inP at e9
        split at e9
        · rename_i xs hs
          split at e9
          · rename_i hf
            cases e9
            have d1 := wx.dp hf.1
            have d2 := wy.dp hf.2
            have s1 := hf.1
            have s2 := hf.2
            unfold okPy at s1 s2
            cases dy <;> simp [seqOf] at hs
            · subst hs
              unfold toPy at d2 s2
              exact .inr (.inr (.inr (.inr ⟨_, _, d1, d2, s1, s2, fin⟩)))
            · subst hs
              unfold toPy at d2 s2
              exact .inr (.inr (.inr (.inl ⟨_, _, d1, d2, s1, s2, fin⟩)))
          · cases e9
        · cases e9
theorem pr_in : PureR K (rInN K.K false) inD := by
  refine PureR.eqf (pr_inN false) fun x y d e => ?_
  unfold inD at e
  simpa using e
theorem pr_nin : PureR K (rInN K.K true) ninD := by
  refine PureR.eqf (pr_inN true) fun x y d e => ?_
  unfold ninD at e
  simpa using e
end

/-! ### subscripts -/
def ixD : D → D → Option D
  | .tup xs, .int i => atI xs i
  | .lst xs, .int i => atI xs i
  | .str z, .int i => if z.length ≤ SZ then (atI z.cps.toList i).map fun c => .str ⟨#[c]⟩ else none
  | .dic ks vs, k => if isKey k = true then dget ks vs k else none
  | _, _ => none
theorem RepL.atI {K : Kc} {F : Addr → Prop} {H : Hp} {ds : List D} {vs : List V} {i : Int} {d : D} (r : RepL K F H ds vs) (e : L2.atI ds i = some d) : ∃ v, L2.atI vs i = some v ∧ Rep K F H d v := by
  unfold L2.atI at e ⊢
  rw [r.length]
  cases q : ixN ds.length i with
  | none => rw [q] at e; cases e
  | some j =>
    rw [q] at e
    simp only [Option.bind_some] at e ⊢
    exact r.get e
def rIxAll (K : PySem.W.Frag) : R2 := fun x y H Q => rIx K x y H Q ∨ ∃ a v, x = .ref a ∧ DGet H a y (some v) ∧ Q v H
theorem ix_all {X : Cx} (hu : X.A.units + 1 < cLine) : IxR X (rIxAll X.K) := by
  refine ix_seq.or fun value slice pins s σ H x y v u Q I rx ry h hs => ?_
  obtain ⟨a, z, e1, g, q⟩ := h
  subst e1
  cases rx
  exact tail_any (dict_typeIs I g) PySem.F.slot_dict_getitem.lookup (d_getItem hu I g ry fun w' s' I' r => ⟨z, H, I', r, q⟩) hs
theorem pr_ix {K : Kc} : PureR K (rIxAll K.K) ixD := by
  intro F H dx dy d vx vy Q fk e wx wy k
  unfold ixD at e
  split at e
  · obtain ⟨a, vs, rfl, h1, r1⟩ := wx.tup
    obtain ⟨v, h2, r2⟩ := r1.atI e
    exact .inl (.inr (.inl ⟨a, vs, _, v, rfl, wy.int, h1, h2, k v F H .refl r2⟩))
  · obtain ⟨a, vs, rfl, h1, r1⟩ := wx.lst
    obtain ⟨v, h2, r2⟩ := r1.atI e
    exact .inl (.inl ⟨a, vs, _, v, rfl, wy.int, SqL.of h1, h2, k v F H .refl r2⟩)
  · split at e
    · rename_i hz
      obtain ⟨c, hc, e2⟩ := Option.map_eq_some_iff.mp e
      cases e2
      exact .inl (.inr (.inr ⟨_, _, c, wx.str, wy.int, sz_le hz, hc, k _ F H .refl Rep.str'⟩))
    · cases e
  · split at e
    · rename_i hk
      obtain ⟨key, rfl⟩ := isKey_to hk
      unfold Vw at wx
      obtain ⟨a, kvs, rfl, h1, rfl, h3⟩ := wx
      cases wy.key
      rcases dget_val key h3 with ⟨z1, z2⟩ | ⟨d', v, z1, z2, r⟩
      · rw [z1] at e; cases e
      · rw [z1] at e; cases e
        exact .inr ⟨a, v, rfl, .inl ⟨kvs, key, h1, rfl, z2.symm⟩, k v F H .refl r⟩
    · cases e
  · cases e
section
variable {X : Cx} {pos : Pos}
theorem cd_ix {a b : Expr} {oa ob : FO} (hu : X.A.units + 1 < cLine) (ha : PE X a (tO (kc X) oa)) (hb : PE X b (tO (kc X) ob)) (hs : PlainIx b) : PE X (.Subscript a b pos) (tD (kc X) (gOp2 ixD oa ob)) :=
  PE.to (pe_ix (ix_all hu) ha hb hs) fun σ H Q h => op2_fit pr_ix h

/-! ### slices -/
abbrev FP := Env → Option (Option Int × Env)
def tP (K : Kc) (g : FP) : TO := fun σ H Q => ∃ F B as ρ o ρ', Sit K F B H ρ σ as ∧ g ρ = some (o, ρ') ∧ ∀ H' F' as', Ext F as H F' as' H' → Sit K F' B H' ρ' σ as' → Q o H'
theorem PO.to {e : Option Expr} {t t' : TO} (h : PO X e t) (c : ∀ σ H Q, t' σ H Q → t σ H Q) : PO X e t' := ⟨fun pins s σ H Q I hq => h.run pins s σ H Q I (c σ H Q hq)⟩
theorem cp_none : PO X none (tP (kc X) fun ρ => some (none, ρ)) := PO.to po_none fun σ H Q ⟨F, B, as, ρ, o, ρ', S, e, k⟩ => by
  cases e; exact k H F as .refl S
def gPart (g : FD) : FP := fun ρ => match g ρ with
  | some (.int i, ρ1) => some (some i, ρ1)
  | _ => none
theorem cp_some {a : Expr} {g : FD} (ha : PE X a (tD (kc X) g)) : PO X (some a) (tP (kc X) (gPart g)) := PO.to (po_some ha) fun σ H Q ⟨F, B, as, ρ, o, ρ', S, e, k⟩ => by
  unfold gPart at e
  split at e
  · rename_i i ρ1 q
    cases e
    exact ⟨F, B, as, ρ, .int i, _, S, q, fun v H1 F1 as1 E1 S1 r => ⟨i, by unfold Rep at r; exact r, k H1 F1 as1 E1 S1⟩⟩
  · cases e
def cutD (xs : List D) (lo hi : Option Int) : List D := (xs.drop (HT.sIx xs.length 0 lo)).take (HT.sIx xs.length xs.length hi - HT.sIx xs.length 0 lo)
theorem RepL.cut {K : Kc} {F : Addr → Prop} {H : Hp} {ds : List D} {vs : List V} (r : RepL K F H ds vs) (lo hi : Option Int) : RepL K F H (cutD ds lo hi) (cutV vs lo hi) := by
  unfold cutD cutV
  rw [r.length]
  exact (r.drop _).take _
def slD : D → Option Int → Option Int → Option D
  | .tup xs, lo, hi => some (.tup (cutD xs lo hi))
  | .lst xs, lo, hi => some (.lst (cutD xs lo hi))
  | _, _, _ => none
def gSl (f : D → Option Int → Option Int → Option D) (oa : FO) (gl gh : FP) : FD := fun ρ => match oa ρ with
  | some (x, ρ1) => match gl ρ1 with
    | some (lo, ρ2) => match gh ρ2 with
      | some (hi, ρ3) => match res ρ3 x with
        | some dx => match f dx lo hi with
          | some d => some (d, ρ3)
          | none => none
        | none => none
      | none => none
    | none => none
  | none => none
theorem gSl_some {f : D → Option Int → Option Int → Option D} {oa : FO} {gl gh : FP} {ρ : Env} {d : D} {ρ' : Env} (h : gSl f oa gl gh ρ = some (d, ρ')) :
    ∃ x ρ1 lo ρ2 hi dx, oa ρ = some (x, ρ1) ∧ gl ρ1 = some (lo, ρ2) ∧ gh ρ2 = some (hi, ρ') ∧ res ρ' x = some dx ∧ f dx lo hi = some d := by
  unfold gSl at h
  split at h
  · rename_i x ρ1 q1
    split at h
    · rename_i lo ρ2 q2
      split at h
      · rename_i hi ρ3 q3
        split at h
        · rename_i dx q4
          split at h
          · rename_i d' q5
            cases h
            exact ⟨x, ρ1, lo, ρ2, hi, dx, q1, q2, q3, q4, q5⟩
          · cases h
        · cases h
      · cases h
    · cases h
  · cases h
def rSlAll (K : PySem.W.Frag) : V → Option Int → Option Int → Hp → VK → Prop := fun x lo hi H Q => rSlA K x lo hi H Q ∨ rSlL K x lo hi H Q
theorem cut_whole {n : Nat} {xs : List V} {lo hi : Option Int} (h : HT.sIx xs.length 0 lo = 0 ∧ HT.sIx xs.length xs.length hi = xs.length) : cutV xs lo hi = xs := by
  unfold cutV
  rw [h.1, h.2]
  simp
theorem cutD_whole {xs : List D} {lo hi : Option Int} (h : HT.sIx xs.length 0 lo = 0 ∧ HT.sIx xs.length xs.length hi = xs.length) : cutD xs lo hi = xs := by
  unfold cutD
  rw [h.1, h.2]
  simp
theorem cd_slice {a : Expr} {lo hi : Option Expr} {p2 : Pos} {oa : FO} {gl gh : FP} (ha : PE X a (tO (kc X) oa)) (hl : PO X lo (tP (kc X) gl)) (hh : PO X hi (tP (kc X) gh)) : PE X (.Subscript a (.Slice lo hi none p2) pos) (tD (kc X) (gSl slD oa gl gh)) :=
  PE.to (pe_slice (r := rSlAll X.K) (sl_tupA.or sl_list) ha hl hh) fun σ H Q ⟨F, B, as, ρ, d, ρ', S, e, k⟩ => by
    obtain ⟨x, ρ1, lo, ρ2, hi, dx, e1, e2, e3, e4, e5⟩ := gSl_some e
    refine ⟨F, B, as, ρ, x, ρ1, S, e1, fun vx H1 F1 as1 E1 S1 r1 => ⟨F1, B, as1, ρ1, lo, ρ2, S1, e2, fun H2 F2 as2 E2 S2 => ⟨F2, B, as2, ρ2, hi, ρ', S2, e3, fun H3 F3 as3 E3 S3 => ?_⟩⟩⟩
    have w := S3.res e4 ((r1.stb E2.stb).stb E3.stb)
    have E := (E1.trans E2).trans E3
    unfold slD at e5
    split at e5
    · cases e5
      obtain ⟨p, us, rfl, h1, q1⟩ := w.tup
      refine .inl ⟨p, us, rfl, h1, fun hw => ?_, fun hw q hq => ?_⟩
      · rw [q1.length] at hw
        rw [cutD_whole hw] at k
        exact k _ H3 F3 as3 E S3 (Rep.tup' h1 q1)
      · obtain ⟨E4, q2⟩ := new_tup hq (q1.cut lo hi)
        exact k _ _ F3 as3 (E.trans E4.pure) (S3.step E4) q2
    · cases e5
      obtain ⟨p, us, rfl, h1, q1⟩ := w.lst
      refine .inr ⟨p, us, rfl, SqL.of h1, fun q hq => ?_⟩
      obtain ⟨E4, q2⟩ := new_lstF hq (q1.cut lo hi)
      exact k _ _ _ as3 (E.trans E4.pure) (S3.step E4) q2
    · cases e5
end

/-! ### len, all, any, tuple, list, int -/
def lenD : D → Option D
  | .tup xs => some (.int xs.length)
  | .lst xs => some (.int xs.length)
  | .str z => if z.length ≤ SZ then some (.int z.length) else none
  | .dic ks _ => some (.int ks.length)
  | _ => none
def rLenAll (K : PySem.W.Frag) : List V → Hp → VK → Prop := fun xs H Q => (∃ x n, xs = [x] ∧ LenV K x H n ∧ Q (.int n) H) ∨ ∃ a kvs, xs = [.ref a] ∧ Rd H a (.dK kvs) ∧ Q (.int kvs.length) H
theorem cr_len {X : Cx} : CallR X (.builtin "len") (rLenAll X.K) := by
  intro pins s σ H xs us Q I r h
  rcases h with h | ⟨a, kvs, rfl, h, q⟩
  · exact call_len pins s σ H xs us Q I r h
  · have e := Vals.ref1 r
    subst e
    exact d_len I h fun t s' I' => ⟨.int kvs.length, H, I', ⟨t, rfl⟩, q⟩
theorem pc_len {K : Kc} : PureC K (rLenAll K.K) lenD := by
  intro F H dx d vx Q fk e w k
  unfold lenD at e
  split at e
  · cases e
    obtain ⟨a, vs, rfl, h1, r1⟩ := w.tup
    refine .inl ⟨_, vs.length, rfl, .inr ⟨vs, h1, rfl⟩, ?_⟩
    rw [r1.length]
    exact k _ F H .refl Rep.int'
  · cases e
    obtain ⟨a, vs, rfl, h1, r1⟩ := w.lst
    refine .inl ⟨_, vs.length, rfl, .inl ⟨vs, SqL.of h1, rfl⟩, ?_⟩
    rw [r1.length]
    exact k _ F H .refl Rep.int'
  · split at e
    · rename_i hz
      cases e
      cases w.str
      exact .inl ⟨_, _, rfl, ⟨sz_le hz, rfl⟩, k _ F H .refl Rep.int'⟩
    · cases e
  · cases e
    unfold Vw at w
    obtain ⟨a, kvs, rfl, h1, rfl, h3⟩ := w
    refine .inr ⟨a, kvs, rfl, h1, ?_⟩
    rw [List.length_map] at k
    exact k _ F H .refl Rep.int'
  · cases e
def blsOf : List D → Option (List Bool)
  | [] => some []
  | .bl b :: r => match blsOf r with
    | some bs => some (b :: bs)
    | none => none
  | _ => none
theorem RepL.bls {K : Kc} {F : Addr → Prop} {H : Hp} : ∀ {ds : List D} {vs : List V} {bs : List Bool}, RepL K F H ds vs → blsOf ds = some bs → vs = bs.map V.bl
  | [], _, _, h, e => by unfold RepL at h; subst h; cases e; rfl
  | .bl b :: r, _, bs, h, e => by
    unfold RepL at h
    obtain ⟨v, r', rfl, h1, h2⟩ := h
    unfold blsOf at e
    split at e
    · rename_i bs' q
      cases e
      unfold Rep at h1
      rw [h1, RepL.bls h2 q]
      rfl
    · cases e
  | .non :: r, _, _, _, e => by simp [blsOf] at e
  | .int _ :: r, _, _, _, e => by simp [blsOf] at e
  | .str _ :: r, _, _, _, e => by simp [blsOf] at e
  | .ty _ :: r, _, _, _, e => by simp [blsOf] at e
  | .fn _ :: r, _, _, _, e => by simp [blsOf] at e
  | .tup _ :: r, _, _, _, e => by simp [blsOf] at e
  | .lst _ :: r, _, _, _, e => by simp [blsOf] at e
  | .dic _ _ :: r, _, _, _, e => by simp [blsOf] at e
  | .scr _ :: r, _, _, _, e => by simp [blsOf] at e
  | .ins _ _ _ _ :: r, _, _, _, e => by simp [blsOf] at e
def allD : D → Option D
  | .lst ds => match blsOf ds with
    | some bs => some (.bl (bs.all id))
    | none => none
  | _ => none
def anyD : D → Option D
  | .lst ds => match blsOf ds with
    | some bs => some (.bl (bs.any id))
    | none => none
  | _ => none
theorem pc_all {K : Kc} : PureC K (rAll K.K) allD := by
  intro F H dx d vx Q fk e w k
  unfold allD at e
  split at e
  · split at e
    · rename_i bs q
      cases e
      obtain ⟨a, vs, rfl, h1, r1⟩ := w.lst
      have e := r1.bls q
      subst e
      exact ⟨a, bs, rfl, SqL.of h1, k _ F H .refl Rep.bl'⟩
    · cases e
  · cases e
theorem pc_any {K : Kc} : PureC K (rAny K.K) anyD := by
  intro F H dx d vx Q fk e w k
  unfold anyD at e
  split at e
  · split at e
    · rename_i bs q
      cases e
      obtain ⟨a, vs, rfl, h1, r1⟩ := w.lst
      have e := r1.bls q
      subst e
      exact ⟨a, bs, rfl, SqL.of h1, k _ F H .refl Rep.bl'⟩
    · cases e
  · cases e
def tupD : D → Option D
  | .lst xs => some (.tup xs)
  | .tup xs => some (.tup xs)
  | _ => none
theorem pc_tup {K : Kc} : PureC K (fun xs H Q => ∃ p ys, xs = [.ref p] ∧ ((SqL K.K H p ys ∧ ∀ l, H l = none → Q (.ref l) (upd H l (.tup ys))) ∨ (SqT K.K H p ys ∧ Q (.ref p) H))) tupD := by
  intro F H dx d vx Q fk e w k
  unfold tupD at e
  split at e
  · cases e
    obtain ⟨a, vs, rfl, h1, r1⟩ := w.lst
    refine ⟨a, vs, rfl, .inl ⟨SqL.of h1, fun l hl => ?_⟩⟩
    obtain ⟨E, r⟩ := new_tup hl r1
    exact k _ F _ E r
  · cases e
    obtain ⟨a, vs, rfl, h1, r1⟩ := w.tup
    exact ⟨a, vs, rfl, .inr ⟨h1, k _ F H .refl (Rep.tup' h1 r1)⟩⟩
  · cases e
def lstD : D → Option D
  | .lst xs => some (.lst xs)
  | .tup xs => some (.lst xs)
  | .scr ns => some (.lst (ns.map .int))
  | _ => none
theorem own_lst {K : Kc} {F : Addr → Prop} {H : Hp} {p : Addr} {ds : List D} {vs : List V} (hp : H p = none) (r : RepL K F H ds vs) : Own K F (upd H p (.lst vs)) (.lst ds) (.ref p) [p] := by
  have E : Ext F [] H F [p] (upd H p (.lst vs)) := Ext.newO hp
  unfold Own OwnC
  exact ⟨p, vs, rfl, upd_same, RepL.stb E.stb _ _ r, rfl⟩
theorem RepL.ints {K : Kc} {F : Addr → Prop} {H : Hp} : ∀ ns : List Int, RepL K F H (ns.map .int) (ns.map V.int)
  | [] => RepL.nil
  | n :: ns => RepL.cons Rep.int' (RepL.ints ns)
theorem pw_lst {K : Kc} : PureW K (fun xs H Q => ∃ p ys, xs = [.ref p] ∧ (SqL K.K H p ys ∨ SqT K.K H p ys) ∧ ∀ l, H l = none → Q (.ref l) (upd H l (.lst ys))) lstD := by
  intro F H dx d vx Q fk e w k
  unfold lstD at e
  split at e
  · cases e
    obtain ⟨a, vs, rfl, h1, r1⟩ := w.lst
    exact ⟨a, vs, rfl, .inl (SqL.of h1), fun l hl => k l _ hl (own_lst hl r1)⟩
  · cases e
    obtain ⟨a, vs, rfl, h1, r1⟩ := w.tup
    exact ⟨a, vs, rfl, .inr h1, fun l hl => k l _ hl (own_lst hl r1)⟩
  · cases e
    unfold Vw Rep at w
    obtain ⟨a, rfl, h1⟩ := w
    exact ⟨a, _, rfl, .inl (h1.elim (fun ⟨o, h1⟩ => .inl (.inr ⟨o, h1⟩)) fun h => h H), fun l hl => k l _ hl (own_lst hl (RepL.ints _))⟩
  · cases e
def intD : D → Option D
  | .int i => some (.int i)
  | .bl b => some (.int (if b then 1 else 0))
  | _ => none
theorem pc_int {K : Kc} : PureC K (fun xs H Q => (∃ i, xs = [.int i] ∧ Q (.int i) H) ∨ ∃ k, xs = [.bl k] ∧ Q (.int (if k then 1 else 0)) H) intD := by
  intro F H dx d vx Q fk e w k
  unfold intD at e
  split at e
  · cases e; cases w.int; exact .inl ⟨_, rfl, k _ F H .refl Rep.int'⟩
  · cases e; cases w.bl; exact .inr ⟨_, rfl, k _ F H .refl Rep.int'⟩
  · cases e

/-! ### isinstance -/
inductive Tg where
  | non | bl | int | str | tup | lst | dic
  deriving DecidableEq
def Tg.name : Tg → String
  | .non => "NoneType"
  | .bl => "bool"
  | .int => "int"
  | .str => "str"
  | .tup => "tuple"
  | .lst => "list"
  | .dic => "dict"
def tgD : D → Option Tg
  | .non => some .non
  | .bl _ => some .bl
  | .int _ => some .int
  | .str _ => some .str
  | .tup _ => some .tup
  | .lst _ => some .lst
  | .dic _ _ => some .dic
  | _ => none
def tgN (s : String) : Option Tg := if s = "bool" then some .bl else if s = "int" then some .int else if s = "str" then some .str else if s = "tuple" then some .tup else if s = "list" then some .lst else if s = "dict" then some .dic else none
def isTg (a b : Tg) : Bool := a = b || (a = .bl && b = .int)
theorem kit_tg : ∀ a b : Tg, b ≠ .non → kitB a.name b.name = some (isTg a b) := by
  intro a b h
  cases a <;> cases b <;> first | exact absurd rfl h | decide +kernel
theorem tgN_name {s : String} {t : Tg} (h : tgN s = some t) : s = t.name ∧ t ≠ .non := by
  unfold tgN at h
  repeat (split at h; · rename_i e; cases h; exact ⟨e, by decide⟩)
  cases h
def isiD : D → D → Option D
  | x, .ty n => match tgD x, tgN n with
    | some a, some b => some (.bl (isTg a b))
    | _, _ => none
  | _, _ => none
theorem Vw.ty {K : Kc} {F : Addr → Prop} {H : Hp} {d : D} {v : V} {t : Tg} (w : Vw K F H d v) (e : tgD d = some t) : TyX K.K H v (.type t.name) := by
  cases d <;> simp [tgD] at e <;> subst e
  · cases w.non; exact .base .non
  · cases w.bl; exact .base (.bl _)
  · cases w.int; exact .base (.int _)
  · cases w.str; exact .base (.str _)
  · obtain ⟨a, vs, rfl, h, _⟩ := w.tup
    rcases h with (h | ⟨o, h⟩) | ⟨o, its, n, h, hc, _⟩
    · exact .base (.tup h)
    · exact .fTuple h
    · exact .kTuple h hc
  · obtain ⟨a, vs, rfl, h, _⟩ := w.lst
    exact .base (.lst h)
  · unfold Vw at w
    obtain ⟨a, kvs, rfl, h, _⟩ := w
    rcases h with h | ⟨o, h⟩
    · exact .base (.dK h)
    · exact .fDict h
theorem cd_isi {X : Cx} {pos p : Pos} {a b : Expr} {oa ob : FO} (hg : Gl X "isinstance") (hm : X.mg "isinstance" = none) (hv : bootBuiltins "isinstance" = some (.builtin "isinstance")) (ha : PE X a (tO (kc X) oa)) (hb : PE X b (tO (kc X) ob))
    (he : starEach [a, b] X.env = (false, eval a X.env) :: starEach [b] X.env := by rfl) (he2 : starEach [b] X.env = (false, eval b X.env) :: starEach [] X.env := by rfl) (hpl : (backTo pos (starEach [b] X.env)).any (·.1) = false := by rfl) : PE X (.Call (.Name "isinstance" p) [a, b] [] pos) (tD (kc X) (gOp2 isiD oa ob)) :=
  PE.to (pe_callB call_isi hg hm hv (pa_cons ha (pa_cons hb pa_nil he2) he) (by decide) (by decide) he hpl) fun σ H Q ⟨F, B, as, ρ, d, ρ', S, e, k⟩ => by
    obtain ⟨x, ρ1, y, dx, dy, e1, e2, e3, e4, e5⟩ := gOp2_some e
    refine seqOO S e1 e2 fun vx vy H2 F2 as2 E S2 rx ry => ?_
    have wx := S2.res e3 rx
    have wy := S2.res e4 ry
    unfold isiD at e5
    split at e5
    · split at e5
      · rename_i n _ t u q1 q2
        cases e5
        obtain ⟨rfl, hn⟩ := tgN_name q2
        unfold Vw Rep at wy
        subst wy
        exact ⟨vx, _, _, _, _, rfl, .ty _, wx.ty q1, kit_ty (kit_tg t u hn), k _ H2 F2 as2 E S2 Rep.bl'⟩
      · cases e5
    · cases e5
end DV

/-! DV5: statements, calls of defs. -/
namespace DV
open L2 PySem PySem.Spec PyProof.Rows

inductive Fl where
  | nx | br | ct | rt (d : D) (w : Bool)
abbrev FS := Env → Option (Fl × Env)
def tSEnd (K : Kc) (F : Addr → Prop) (B : List Addr) (as : List Addr) (H : Hp) (D : Ends) (ρ' : Env) : Fl → Prop
  | .nx => ∀ σ' H' F' as', Ext F as H F' as' H' → Sit K F' B H' ρ' σ' as' → D.nx σ' H'
  | .br => ∀ σ' H' F' as', Ext F as H F' as' H' → Sit K F' B H' ρ' σ' as' → D.bk σ' H'
  | .ct => ∀ σ' H' F' as', Ext F as H F' as' H' → Sit K F' B H' ρ' σ' as' → D.ct σ' H'
  | .rt d w => ∀ v σ' H' F' as' bs, Ext F as H F' (bs ++ as') H' → Sit2 K F' B H' ρ' σ' as' d w v bs → D.rt v H'
def tS (K : Kc) (g : FS) : TS := fun D σ H => ∃ F B as ρ fl ρ', Sit K F B H ρ σ as ∧ g ρ = some (fl, ρ') ∧ tSEnd K F B as H D ρ' fl
theorem tSEnd.ext {K : Kc} {F F1 : Addr → Prop} {B as as1 : List Addr} {H H1 : Hp} {D : Ends} {ρ' : Env} {fl : Fl} (h : tSEnd K F B as H D ρ' fl) (E : Ext F as H F1 as1 H1) : tSEnd K F1 B as1 H1 D ρ' fl := by
  cases fl with
  | nx => exact fun σ' H' F' as' E' S => h σ' H' F' as' (E.trans E') S
  | br => exact fun σ' H' F' as' E' S => h σ' H' F' as' (E.trans E') S
  | ct => exact fun σ' H' F' as' E' S => h σ' H' F' as' (E.trans E') S
  | rt d w => exact fun v σ' H' F' as' bs E' S => h v σ' H' F' as' bs (E.trans E') S
theorem tSEnd.nx {K : Kc} {F : Addr → Prop} {B as : List Addr} {H : Hp} {D D' : Ends} {ρ' : Env} {fl : Fl} (h : tSEnd K F B as H D ρ' fl) (hn : fl = .nx → False) (e1 : D'.bk = D.bk) (e2 : D'.ct = D.ct) (e3 : D'.rt = D.rt) : tSEnd K F B as H D' ρ' fl := by
  cases fl with
  | nx => exact absurd rfl hn
  | br => unfold tSEnd at h ⊢; rw [e1]; exact h
  | ct => unfold tSEnd at h ⊢; rw [e2]; exact h
  | rt d w => unfold tSEnd at h ⊢; rw [e3]; exact h

theorem PS.to {X : Cx} {st : Stmt} {t t' : TS} (h : PS X st t) (c : ∀ D σ H, t' D σ H → t D σ H) : PS X st t' := ⟨fun pins s σ H D I hq => h.run pins s σ H D I (c D σ H hq)⟩
theorem PSs.to {X : Cx} {st : List Stmt} {t t' : TS} (h : PSs X st t) (c : ∀ D σ H, t' D σ H → t D σ H) : PSs X st t' := ⟨fun pins s σ H D I hq => h.run pins s σ H D I (c D σ H hq)⟩

theorem Sit2.drop {K : Kc} {F : Addr → Prop} {B : List Addr} {H : Hp} {ρ : Env} {σ : L2.St} {as : List Addr} {d : D} {w : Bool} {v : V} {bs : List Addr} (S : Sit2 K F B H ρ σ as d w v bs) : Sit K F B H ρ σ as :=
  ⟨S.env, (List.nodup_append.mp S.nd).2.1, fun a m => S.nf a (List.mem_append_right _ m), S.fk⟩

section
variable {X : Cx} {pos : Pos}
/-! ### blocks -/
def gSkip : FS := fun ρ => some (.nx, ρ)
theorem css_nil : PSs X [] (tS (kc X) gSkip) := PSs.to pss_nil fun D σ H ⟨F, B, as, ρ, fl, ρ', S, e, k⟩ => by
  cases e; exact k σ H F as .refl S
theorem cs_pass : PS X (.Pass pos) (tS (kc X) gSkip) := PS.to ps_pass fun D σ H ⟨F, B, as, ρ, fl, ρ', S, e, k⟩ => by
  cases e; exact k σ H F as .refl S
theorem cs_doc {x j p} : PS X (.Expr (.Constant (.str x) j p) pos) (tS (kc X) gSkip) := PS.to ps_doc fun D σ H ⟨F, B, as, ρ, fl, ρ', S, e, k⟩ => by
  cases e; exact k σ H F as .refl S
theorem cs_break : PS X (.Break pos) (tS (kc X) fun ρ => some (.br, ρ)) := PS.to ps_break fun D σ H ⟨F, B, as, ρ, fl, ρ', S, e, k⟩ => by
  cases e; exact k σ H F as .refl S
theorem cs_cont : PS X (.Continue pos) (tS (kc X) fun ρ => some (.ct, ρ)) := PS.to ps_continue fun D σ H ⟨F, B, as, ρ, fl, ρ', S, e, k⟩ => by
  cases e; exact k σ H F as .refl S
/-- what is never reached -/
theorem cs_never {st : Stmt} : PS X st (tS (kc X) fun _ => none) := PS.to ps_never fun D σ H ⟨F, B, as, ρ, fl, ρ', S, e, k⟩ => by cases e
theorem cd_never {e : Expr} : PE X e (tD (kc X) fun _ => none) := ⟨fun _ _ _ _ _ _ ⟨F, B, as, ρ, fl, ρ', S, e, k⟩ => by cases e⟩
theorem cw_never {e : Expr} : PE X e (tW (kc X) fun _ => none) := ⟨fun _ _ _ _ _ _ ⟨F, B, as, ρ, fl, w, ρ', S, e, k⟩ => by cases e⟩
theorem ct_never {e : Expr} : PT X e (tB (kc X) fun _ => none) := ⟨fun _ _ _ _ _ _ ⟨F, B, as, ρ, fl, ρ', S, e, k⟩ => by cases e⟩
def gSeq (a b : FS) : FS := fun ρ => match a ρ with
  | some (.nx, ρ1) => b ρ1
  | some (.br, ρ1) => some (.br, ρ1)
  | some (.ct, ρ1) => some (.ct, ρ1)
  | some (.rt d w, ρ1) => some (.rt d w, ρ1)
  | none => none
theorem css_cons {st : Stmt} {rest : List Stmt} {ga gb : FS} (h1 : PS X st (tS (kc X) ga)) (h2 : PSs X rest (tS (kc X) gb)) : PSs X (st :: rest) (tS (kc X) (gSeq ga gb)) :=
  PSs.to (pss_cons h1 h2) fun D σ H ⟨F, B, as, ρ, fl, ρ', S, e, k⟩ => by
    unfold gSeq at e
    split at e
    · rename_i ρ1 q
      exact ⟨F, B, as, ρ, .nx, ρ1, S, q, fun σ1 H1 F1 as1 E1 S1 => ⟨F1, B, as1, ρ1, fl, ρ', S1, e, k.ext E1⟩⟩
    · rename_i ρ1 q; cases e; exact ⟨F, B, as, ρ, _, _, S, q, k.nx (fun z => by cases z) rfl rfl rfl⟩
    · rename_i ρ1 q; cases e; exact ⟨F, B, as, ρ, _, _, S, q, k.nx (fun z => by cases z) rfl rfl rfl⟩
    · rename_i d w ρ1 q; cases e; exact ⟨F, B, as, ρ, _, _, S, q, k.nx (fun z => by cases z) rfl rfl rfl⟩
    · cases e
theorem css_one {st : Stmt} {g : FS} (h : PS X st (tS (kc X) g)) : PSs X [st] (tS (kc X) g) := pss_one h
/-! ### small statements -/
def gDrop (g : FW) : FS := fun ρ => match g ρ with
  | some (_, _, ρ1) => some (.nx, ρ1)
  | none => none
theorem cs_expr {e : Expr} {g : FW} (h : PE X e (tW (kc X) g)) (hs : swapsWith e none pos.line X.env = pure false := by rfl) : PS X (.Expr e pos) (tS (kc X) (gDrop g)) :=
  PS.to (ps_expr h hs) fun D σ H ⟨F, B, as, ρ, fl, ρ', S, e, k⟩ => by
    unfold gDrop at e
    split at e
    · rename_i d w ρ1 q
      cases e
      exact ⟨F, B, as, ρ, d, w, _, S, q, fun v H1 F1 as1 bs E1 S1 => k σ H1 F1 as1 (E1.sub fun b m => List.mem_append_right _ m) S1.drop⟩
    · cases e
def gRet (g : FW) : FS := fun ρ => match g ρ with
  | some (d, w, ρ1) => some (.rt d w, ρ1)
  | none => none
theorem cs_ret {e : Expr} {g : FW} (h : PE X e (tW (kc X) g)) : PS X (.Return (some e) pos) (tS (kc X) (gRet g)) :=
  PS.to (ps_ret h) fun D σ H ⟨F, B, as, ρ, fl, ρ', S, e, k⟩ => by
    unfold gRet at e
    split at e
    · rename_i d w ρ1 q
      cases e
      exact ⟨F, B, as, ρ, d, w, _, S, q, fun v H1 F1 as1 bs E1 S1 => k v σ H1 F1 as1 bs E1 S1⟩
    · cases e
theorem cs_retN : PS X (.Return none pos) (tS (kc X) fun ρ => some (.rt .non false, ρ)) := PS.to ps_retN fun D σ H ⟨F, B, as, ρ, fl, ρ', S, e, k⟩ => by
  cases e
  exact k .non σ H F as [] .refl ⟨S.env, S.nd, S.nf, S.fk, by simp [Rep.non']⟩
def gIfS (t : FT) (a b : FS) : FS := fun ρ => match t ρ with
  | some (true, ρ1) => a ρ1
  | some (false, ρ1) => b ρ1
  | none => none
theorem cs_if {c : Expr} {a b : List Stmt} {t : FT} {ga gb : FS} (hc : PT X c (tB (kc X) t)) (ha : PSs X a (tS (kc X) ga)) (hb : PSs X b (tS (kc X) gb)) : PS X (.If c a b pos) (tS (kc X) (gIfS t ga gb)) :=
  PS.to (ps_if hc ha hb) fun D σ H ⟨F, B, as, ρ, fl, ρ', S, e, k⟩ => by
    unfold gIfS at e
    split at e
    · rename_i ρ1 q
      exact ⟨F, B, as, ρ, true, ρ1, S, q, fun H1 F1 as1 E1 S1 => by simp only [if_true]; exact ⟨F1, B, as1, ρ1, fl, ρ', S1, e, k.ext E1⟩⟩
    · rename_i ρ1 q
      exact ⟨F, B, as, ρ, false, ρ1, S, q, fun H1 F1 as1 E1 S1 => by simp only [Bool.false_eq_true, if_false]; exact ⟨F1, B, as1, ρ1, fl, ρ', S1, e, k.ext E1⟩⟩
    · cases e
/-! ### a name is bound -/
def bind1 (i : Nat) (d : D) (w : Bool) (ρ : Env) : Option Env := match ρ[i]? with
  | some (.bo _ _) => none
  | some _ => some (ρ.set i (if w = true then .ow d else .sh d))
  | none => none
theorem nodup_swap {bs p a q : List Addr} (h : (bs ++ (p ++ (a ++ q))).Nodup) : (p ++ (bs ++ q)).Nodup := by
  simp only [List.nodup_append, List.mem_append] at h ⊢
  grind
theorem Sit2.bind {K : Kc} {F : Addr → Prop} {B : List Addr} {H : Hp} {ρ : Env} {σ : L2.St} {as : List Addr} {d : D} {w : Bool} {v : V} {bs : List Addr} (S : Sit2 K F B H ρ σ as d w v bs) {i : Nat} {ρ' : Env} (e : bind1 i d w ρ = some ρ') :
    ∃ as', Sit K F B H ρ' (σ.set i (some v)) as' ∧ ∀ b, b ∈ as' → b ∈ bs ++ as := by
  have main : ∀ x, ρ[i]? = some x → ∃ as', Sit K F B H (ρ.set i (if w = true then .ow d else .sh d)) (σ.set i (some v)) as' ∧ ∀ b, b ∈ as' → b ∈ bs ++ as := fun x hx => by
    obtain ⟨o, p, a, q, ea, eo, hs, hr⟩ := S.env.split hx
    subst ea
    have sl : SlR K F B H (if w = true then .ow d else .sh d) (some v) bs := by
      have r := S.res
      cases w with
      | true => simp only [if_true] at r ⊢; unfold SlR; exact ⟨v, rfl, r⟩
      | false => simp only [Bool.false_eq_true, if_false] at r ⊢; unfold SlR; exact ⟨r.1, v, rfl, r.2⟩
    have mem : ∀ b, b ∈ p ++ (bs ++ q) → b ∈ bs ++ (p ++ (a ++ q)) := fun b m => by
      simp only [List.mem_append] at m ⊢
      grind
    exact ⟨p ++ (bs ++ q), ⟨hr _ _ _ .refl (Kept.of fun _ _ h => h) sl, nodup_swap S.nd, fun b m => S.nf b (mem b m), S.fk⟩, mem⟩
  unfold bind1 at e
  split at e
  · cases e
  · rename_i x hno hx
    cases e
    exact main x hx
  · cases e
def gSet (i : Nat) (g : FW) : FS := fun ρ => match g ρ with
  | some (d, w, ρ1) => match bind1 i d w ρ1 with
    | some ρ2 => some (.nx, ρ2)
    | none => none
  | none => none
theorem gSet_some {i : Nat} {g : FW} {ρ : Env} {fl : Fl} {ρ' : Env} (h : gSet i g ρ = some (fl, ρ')) : ∃ d w ρ1, g ρ = some (d, w, ρ1) ∧ bind1 i d w ρ1 = some ρ' ∧ fl = .nx := by
  unfold gSet at h
  split at h
  · rename_i d w ρ1 q
    split at h
    · rename_i ρ2 q2
      cases h
      exact ⟨d, w, ρ1, q, q2, rfl⟩
    · cases h
  · cases h
theorem cs_set {i : Nat} {x : Str} {e : Expr} {g : FW} {p : Pos} (hN : X.N.Nodup) (hi : X.N[i]? = some x) (hx : Loc X.env.scope x) (he : PE X e (tW (kc X) g)) (hs : swapsWith e (some (.Name x p)) pos.line X.env = pure false := by rfl)
    (hf : X.fn x = true ∨ X.env.scope.names.lookup x = some .local := by first | exact .inl rfl | exact .inr rfl | assumption) : PS X (.Assign [.Name x p] e pos) (tS (kc X) (gSet i g)) :=
  PS.to (ps_set hN hi hx he hs hf) fun D σ H ⟨F, B, as, ρ, fl, ρ', S, e, k⟩ => by
    obtain ⟨d, w, ρ1, e1, e2, rfl⟩ := gSet_some e
    refine ⟨F, B, as, ρ, d, w, ρ1, S, e1, fun v H1 F1 as1 bs E1 S1 => ?_⟩
    obtain ⟨as2, S2, m⟩ := S1.bind e2
    exact k _ H1 F1 as2 (E1.sub m) S2
/-- x op= e -/
def gAug (i : Nat) (f : D → D → Option D) (g : FD) : FS := fun ρ => match ρ[i]? with
  | some (.sh d0) => match g ρ with
    | some (d1, ρ1) => match f d0 d1 with
      | some d => match bind1 i d false ρ1 with
        | some ρ2 => some (.nx, ρ2)
        | none => none
      | none => none
    | none => none
  | _ => none
theorem cs_aug {i : Nat} {x : Str} {e : Expr} {op : Operator} {r : R2} {f : D → D → Option D} {g : FD} {p : Pos} (hN : X.N.Nodup) (hi : X.N[i]? = some x) (hx : Loc X.env.scope x) (ho : OpR X (inplaceOp op) r) (hp : PureR (kc X) r f) (he : PE X e (tD (kc X) g))
    (hf : X.fn x = true ∨ X.env.scope.names.lookup x = some .local := by first | exact .inl rfl | exact .inr rfl | assumption) : PS X (.AugAssign (.Name x p) op e pos) (tS (kc X) (gAug i f g)) :=
  PS.to (ps_aug (ti := r) hN hi hx he (fun pins s σ H x y v u Q I rx ry q => ho pins s σ H x y v u Q I rx ry q) hf) fun D σ H ⟨F, B, as, ρ, fl, ρ', S, e, k⟩ => by
    unfold gAug at e
    split at e
    · rename_i d0 q0
      split at e
      · rename_i d1 ρ1 q1
        split at e
        · rename_i d q2
          split at e
          · rename_i ρ2 q3
            cases e
            obtain ⟨o, p, a, qq, _, eo, hs, _⟩ := S.env.split q0
            unfold SlR at hs
            obtain ⟨_, v0, rfl, r0⟩ := hs
            refine ⟨v0, eo, F, B, as, ρ, d1, ρ1, S, q1, fun v1 H1 F1 as1 E1 S1 r1 => ?_⟩
            refine hp F1 H1 d0 d1 d v0 v1 _ S1.fk q2 (Rep.stb E1.stb _ _ r0).vw r1.vw fun v F2 H2 E2 r2 => ?_
            have S2 := S1.step E2
            obtain ⟨as3, S3, m⟩ := Sit2.bind (bs := []) (w := false) (v := v) ⟨S2.env, S2.nd, S2.nf, S2.fk, by simp [r2]⟩ q3
            exact k _ H2 F2 as3 ((E1.trans E2.pure).sub m) S3
          · cases e
        · cases e
      · cases e
    · cases e
end

/-! ### calls of defs -/
def ArgR (K : Kc) (F : Addr → Prop) (H : Hp) : List Bool → List D → List V → List Addr → Prop
  | [], [], vs, as => vs = [] ∧ as = []
  | true :: bo, d :: ds, vs, as => ∃ v r a1 a2, vs = v :: r ∧ as = a1 ++ a2 ∧ Own K F H d v a1 ∧ ArgR K F H bo ds r a2
  | false :: bo, d :: ds, vs, as => ∃ v r, vs = v :: r ∧ Rep K F H d v ∧ ArgR K F H bo ds r as
  | _, _, _, _ => False
def BorR (K : Kc) (F : Addr → Prop) (H : Hp) : List Bool → List D → List V → List Addr → Prop
  | [], ds, vs, as => ds = [] ∧ vs = [] ∧ as = []
  | true :: bo, ds, vs, as => ∃ d e v r a1 a2, ds = d :: e ∧ vs = v :: r ∧ as = a1 ++ a2 ∧ Own K F H d v a1 ∧ BorR K F H bo e r a2
  | false :: bo, ds, vs, as => ∃ v r, vs = v :: r ∧ BorR K F H bo ds r as
abbrev FnD := List D → Option (D × Bool × List D)
def spD (K : Kc) (bo : List Bool) (g : FnD) : Sp := fun vs H Q _ => ∃ F as ds d w ds', ArgR K F H bo ds vs as ∧ as.Nodup ∧ (∀ a, a ∈ as → ¬ F a) ∧ (∀ b, F b → H b ≠ none) ∧ g ds = some (d, w, ds') ∧
  ∀ v H' F' as' bs, Ext F as H F' (bs ++ as') H' → BorR K F' H' bo ds' vs as' → (bs ++ as').Nodup → (∀ a, a ∈ bs ++ as' → ¬ F' a) → (∀ b, F' b → H' b ≠ none) →
    (if w = true then Own K F' H' d v bs else bs = [] ∧ Rep K F' H' d v) → Q v H'
theorem ArgR.length {K : Kc} {F : Addr → Prop} {H : Hp} : ∀ {bo : List Bool} {ds : List D} {vs : List V} {as : List Addr}, ArgR K F H bo ds vs as → vs.length = bo.length
  | [], [], _, _, h => by unfold ArgR at h; rw [h.1] <;> rfl
  | true :: bo, d :: ds, _, _, h => by unfold ArgR at h; obtain ⟨v, r, a1, a2, rfl, _, _, h⟩ := h; simp [ArgR.length h]
  | false :: bo, d :: ds, _, _, h => by unfold ArgR at h; obtain ⟨v, r, rfl, _, h⟩ := h; simp [ArgR.length h]
  | [], _ :: _, _, _, h => by unfold ArgR at h; exact h.elim
  | true :: _, [], _, _, h => by unfold ArgR at h; exact h.elim
  | false :: _, [], _, _, h => by unfold ArgR at h; exact h.elim

inductive Ar where
  | bo (i : Nat) | va (d : D)
abbrev FAr := Env → Option (List Ar × Env)
def ArsR (K : Kc) (F : Addr → Prop) (H : Hp) (σ : L2.St) : List Ar → List V → Prop
  | [], vs => vs = []
  | .va d :: r, vs => ∃ v u, vs = v :: u ∧ Rep K F H d v ∧ ArsR K F H σ r u
  | .bo i :: r, vs => ∃ v u, vs = v :: u ∧ σ[i]? = some (some v) ∧ ArsR K F H σ r u
theorem ArsR.stb {K : Kc} {F F2 : Addr → Prop} {H H2 : Hp} {σ : L2.St} (s : Stb F H F2 H2) : ∀ {as : List Ar} {vs : List V}, ArsR K F H σ as vs → ArsR K F2 H2 σ as vs
  | [], _, h => by unfold ArsR at h ⊢; exact h
  | .va d :: r, _, h => by unfold ArsR at h ⊢; obtain ⟨v, u, e, h1, h2⟩ := h; exact ⟨v, u, e, Rep.stb s _ _ h1, h2.stb s⟩
  | .bo i :: r, _, h => by unfold ArsR at h ⊢; obtain ⟨v, u, e, h1, h2⟩ := h; exact ⟨v, u, e, h1, h2.stb s⟩
def tAr (K : Kc) (g : FAr) : TA := fun σ H Q => ∃ F B as ρ ars ρ', Sit K F B H ρ σ as ∧ g ρ = some (ars, ρ') ∧
  ∀ vs H' F' as', Ext F as H F' as' H' → Sit K F' B H' ρ' σ as' → ArsR K F' H' σ ars vs → Q vs H'
section
variable {X : Cx}
theorem ca_nil : PA X [] (tAr (kc X) fun ρ => some ([], ρ)) := PA.to pa_nil fun σ H Q ⟨F, B, as, ρ, d, ρ', S, e, h⟩ => by
  cases e; exact h _ H F as .refl S (by unfold ArsR; rfl)
def gVa (ga : FD) (gr : FAr) : FAr := fun ρ => match ga ρ with
  | some (d, ρ1) => match gr ρ1 with
    | some (ars, ρ2) => some (.va d :: ars, ρ2)
    | none => none
  | none => none
theorem ca_val {e : Expr} {es : List Expr} {ga : FD} {gr : FAr} (ha : PE X e (tD (kc X) ga)) (hr : PA X es (tAr (kc X) gr)) (hs : starEach (e :: es) X.env = (false, eval e X.env) :: starEach es X.env := by rfl) : PA X (e :: es) (tAr (kc X) (gVa ga gr)) :=
  PA.to (pa_cons ha hr hs) fun σ H Q ⟨F, B, as, ρ, ars, ρ', S, e, k⟩ => by
    unfold gVa at e
    split at e
    · rename_i d ρ1 q
      split at e
      · rename_i ars2 ρ2 q2
        cases e
        exact ⟨F, B, as, ρ, d, ρ1, S, q, fun v H1 F1 as1 E1 S1 r1 => ⟨F1, B, as1, ρ1, ars2, _, S1, q2, fun vs H2 F2 as2 E2 S2 r2 => k _ H2 F2 as2 (E1.trans E2) S2 (by unfold ArsR; exact ⟨v, vs, rfl, Rep.stb E2.stb _ _ r1, r2⟩)⟩⟩
      · cases e
    · cases e
def gBo (i : Nat) (gr : FAr) : FAr := fun ρ => match look ρ i with
  | some _ => match gr ρ with
    | some (ars, ρ2) => some (.bo i :: ars, ρ2)
    | none => none
  | none => none
theorem ca_bor {i : Nat} {x : Str} {p : Pos} {es : List Expr} {gr : FAr} (hN : X.N[i]? = some x) (hv : Vis X.env.scope x) (hr : PA X es (tAr (kc X) gr)) (hd : (x == ("__debug__" : Str)) = false := by decide)
    (hcd : (x == ("__classdict__" : Str)) = false := by decide) (hs : starEach (.Name x p :: es) X.env = (false, eval (.Name x p) X.env) :: starEach es X.env := by rfl) : PA X (.Name x p :: es) (tAr (kc X) (gBo i gr)) :=
  PA.to (pa_cons (pe_var hN hv hd hcd) hr hs) fun σ H Q ⟨F, B, as, ρ, ars, ρ', S, e, k⟩ => by
    unfold gBo at e
    split at e
    · rename_i d q
      split at e
      · rename_i ars2 ρ2 q2
        cases e
        obtain ⟨v, ev⟩ := S.there q
        exact ⟨v, ev, F, B, as, ρ, ars2, _, S, q2, fun vs H2 F2 as2 E2 S2 r2 => k _ H2 F2 as2 E2 S2 (by unfold ArsR; exact ⟨v, vs, rfl, ev, r2⟩)⟩
      · cases e
    · cases e
end
/-- the borrowed names are lent -/
def lend : List Ar → Env → Option (List Bool × List D × Env)
  | [], ρ => some ([], [], ρ)
  | .va d :: r, ρ => match lend r ρ with
    | some (b, ds, ρ') => some (false :: b, d :: ds, ρ')
    | none => none
  | .bo i :: r, ρ => match ρ[i]? with
    | some (.ow d) => match lend r (ρ.set i .no) with
      | some (b, ds, ρ') => some (true :: b, d :: ds, ρ')
      | none => none
    | some (.bo _ d) => match lend r (ρ.set i .no) with
      | some (b, ds, ρ') => some (true :: b, d :: ds, ρ')
      | none => none
    | _ => none
def reSl : Sl → D → Sl
  | .bo k _, d => .bo k d
  | _, d => .ow d
/-- and given back; ρ0: as they stood ahead of it -/
def give (ρ0 : Env) : List Ar → List D → Env → Option Env
  | [], _, ρ => some ρ
  | .va _ :: r, ds, ρ => give ρ0 r ds ρ
  | .bo i :: r, d :: ds, ρ => match ρ0[i]? with
    | some x => give ρ0 r ds (ρ.set i (reSl x d))
    | none => none
  | .bo _ :: _, [], _ => none
theorem getset {α : Type} {l : List α} {i j : Nat} {x y : α} (h : (l.set i x)[j]? = some y) : (j = i ∧ y = x) ∨ (j ≠ i ∧ l[j]? = some y) := by
  by_cases e : i = j
  · subst e
    by_cases hl : i < l.length
    · rw [List.getElem?_set_self hl] at h; cases h; exact .inl ⟨rfl, rfl⟩
    · rw [List.getElem?_eq_none (by simpa using hl)] at h; cases h
  · rw [List.getElem?_set_ne e] at h; exact .inr ⟨fun z => e z.symm, h⟩
/-- what is known of a lent name: how it goes back -/
def BackOk (B : List Addr) (σ : L2.St) (ρ0 : Env) : List Ar → Prop
  | [] => True
  | .va _ :: r => BackOk B σ ρ0 r
  | .bo i :: r => (∃ x, ρ0[i]? = some x ∧ (∀ k d, x = .bo k d → ∃ a, σ[i]? = some (some (.ref a)) ∧ B[k]? = some a)) ∧ BackOk B σ ρ0 r
theorem lend_ok {K : Kc} {F : Addr → Prop} {B : List Addr} {H : Hp} {σ : L2.St} {ρ0 : Env} : ∀ {ars : List Ar} {vs : List V} {ρ : Env} {as : List Addr} {bo : List Bool} {ds : List D} {ρ' : Env}, EnvR K F B H ρ σ as → as.Nodup → ArsR K F H σ ars vs → lend ars ρ = some (bo, ds, ρ') →
    (∀ (i : Nat) x, ρ[i]? = some x → x ≠ .no → ρ0[i]? = some x) →
    ∃ ab ar, ArgR K F H bo ds vs ab ∧ EnvR K F B H ρ' σ ar ∧ (ab ++ ar).Nodup ∧ (∀ b, b ∈ ab ++ ar → b ∈ as) ∧ BackOk B σ ρ0 ars
  | [], vs, ρ, as, bo, ds, ρ', he, hn, ha, hl, _ => by
    unfold lend at hl
    cases hl
    unfold ArsR at ha
    subst ha
    exact ⟨[], as, by unfold ArgR; exact ⟨rfl, rfl⟩, he, hn, fun b m => m, True.intro⟩
  | .va d :: r, vs, ρ, as, bo, ds, ρ', he, hn, ha, hl, h0 => by
    unfold ArsR at ha
    obtain ⟨v, u, rfl, h1, h2⟩ := ha
    unfold lend at hl
    split at hl
    · rename_i b ds' ρ2 q
      cases hl
      obtain ⟨ab, ar, k1, k2, k3, k4, k5⟩ := lend_ok he hn h2 q h0
      exact ⟨ab, ar, by unfold ArgR; exact ⟨v, u, rfl, h1, k1⟩, k2, k3, k4, k5⟩
    · cases hl
  | .bo i :: r, vs, ρ, as, bo, ds, ρ', he, hn, ha, hl, h0 => by
    unfold ArsR at ha
    obtain ⟨v, u, rfl, h1, h2⟩ := ha
    unfold lend at hl
    have main : ∀ x d b ds' ρ2, ρ[i]? = some x → x ≠ .no → (∀ a, SlR K F B H x (some v) a → Own K F H d v a) → (∀ k d, x = .bo k d → ∀ a, SlR K F B H x (some v) a → ∃ a, v = .ref a ∧ B[k]? = some a) → lend r (ρ.set i .no) = some (b, ds', ρ2) →
        ∃ ab ar, ArgR K F H (true :: b) (d :: ds') (v :: u) ab ∧ EnvR K F B H ρ2 σ ar ∧ (ab ++ ar).Nodup ∧ (∀ b, b ∈ ab ++ ar → b ∈ as) ∧ BackOk B σ ρ0 (.bo i :: r) := fun x d b ds' ρ2 hx hno hw hb q => by
      obtain ⟨o, p, a, qq, ea, eo, hs, hr⟩ := he.split hx
      rw [h1] at eo
      cases eo
      subst ea
      have z := hr .no (some v) [] .refl (Kept.of fun _ _ h => h) (by unfold SlR; rfl)
      rw [set_same h1] at z
      obtain ⟨n1, n2⟩ := nodup_mid hn
      obtain ⟨ab, ar, k1, k2, k3, k4, k5⟩ := lend_ok (as := p ++ qq) (by simpa using z) n1 h2 q fun j y hy hny => by
        rcases getset hy with ⟨_, e⟩ | ⟨_, e⟩
        · exact absurd e hny
        · exact h0 j y e hny
      have na : a.Nodup := (List.nodup_append.mp (List.nodup_append.mp hn).2.1).1
      refine ⟨a ++ ab, ar, by unfold ArgR; exact ⟨v, u, a, ab, rfl, rfl, hw a hs, k1⟩, k2, ?_, fun b m => ?_, ⟨⟨x, h0 i x hx hno, fun k d e => ?_⟩, k5⟩⟩
      · rw [List.append_assoc]
        exact List.nodup_append.mpr ⟨na, k3, fun y hy w hw e => n2 w (k4 w hw) (e ▸ hy)⟩
      · rw [List.append_assoc] at m
        rcases List.mem_append.mp m with m | m
        · simp [m]
        · have := k4 b m
          simp only [List.mem_append] at this ⊢
          grind
      · obtain ⟨a', e1, e2⟩ := hb k d e a hs
        exact ⟨a', by rw [h1, e1], e2⟩
    split at hl
    · rename_i d hx
      split at hl
      · rename_i b ds' ρ2 q
        cases hl
        refine main _ d b ds' ρ' hx (fun z => by cases z) (fun a hs => ?_) (fun k d e => by cases e) q
        unfold SlR at hs
        obtain ⟨v', e, r⟩ := hs
        cases e; exact r
      · cases hl
    · rename_i k d hx
      split at hl
      · rename_i b ds' ρ2 q
        cases hl
        refine main _ d b ds' ρ' hx (fun z => by cases z) (fun a hs => ?_) (fun k2 d2 e a hs => ?_) q
        · unfold SlR at hs
          obtain ⟨a', e, _, r⟩ := hs
          cases e; exact r
        · cases e
          unfold SlR at hs
          obtain ⟨a', e, e2, r⟩ := hs
          cases e; exact ⟨a', rfl, e2⟩
      · cases hl
    · cases hl
/-- a name cannot be lent twice -/
theorem lend_twice {i : Nat} : ∀ {ars : List Ar} {ρl ρr : Env} {b : List Bool} {ds' : List D}, lend ars ρl = some (b, ds', ρr) → (Ar.bo i) ∈ ars → (ρl[i]? = some .no ∨ ρl[i]? = none) → False
  | [], _, _, _, _, _, m, _ => by cases m
  | .va d :: ys, ρl, ρr, b, ds', hl, m, hn => by
    unfold lend at hl
    split at hl
    · rename_i q
      exact lend_twice q (by simpa using m) hn
    · cases hl
  | .bo j :: ys, ρl, ρr, b, ds', hl, m, hn => by
    by_cases hj : j = i
    · subst hj
      unfold lend at hl
      rcases hn with hn | hn <;> rw [hn] at hl <;> simp at hl
    · have m' : (Ar.bo i) ∈ ys := by
        rcases List.mem_cons.mp m with e | e
        · cases e; exact absurd rfl hj
        · exact e
      have hn' : (ρl.set j .no)[i]? = some .no ∨ (ρl.set j .no)[i]? = none := by
        rw [List.getElem?_set_ne hj]; exact hn
      unfold lend at hl
      split at hl
      · split at hl
        · rename_i q; exact lend_twice q m' hn'
        · cases hl
      · split at hl
        · rename_i q; exact lend_twice q m' hn'
        · cases hl
      · cases hl
theorem give_ok {K : Kc} {F F0 : Addr → Prop} {B : List Addr} {H H0 : Hp} {σ : L2.St} {ρ0 : Env} : ∀ {ars : List Ar} {vs : List V} {ρ : Env} {ar ab : List Addr} {bo : List Bool} {ds0 ds : List D} {ρl ρr ρ' : Env}, ArsR K F0 H0 σ ars vs → lend ars ρl = some (bo, ds0, ρr) → BackOk B σ ρ0 ars →
    BorR K F H bo ds vs ab → EnvR K F B H ρ σ ar → give ρ0 ars ds ρ = some ρ' → (∀ (i : Nat), (Ar.bo i) ∈ ars → ρ[i]? = some .no) → ∃ as, EnvR K F B H ρ' σ as ∧ as.Perm (ab ++ ar)
  | [], vs, ρ, ar, ab, bo, ds0, ds, ρl, ρr, ρ', ha, hl, hb, hB, he, hg, hn => by
    unfold lend at hl
    cases hl
    unfold BorR at hB
    obtain ⟨rfl, _, rfl⟩ := hB
    unfold give at hg
    cases hg
    exact ⟨ar, he, .refl _⟩
  | .va d :: r, vs, ρ, ar, ab, bo, ds0, ds, ρl, ρr, ρ', ha, hl, hb, hB, he, hg, hn => by
    unfold lend at hl
    split at hl
    · rename_i b ds' ρ2 q
      cases hl
      unfold ArsR at ha
      obtain ⟨v, u, rfl, h1, h2⟩ := ha
      unfold BorR at hB
      obtain ⟨v', r', e, hB⟩ := hB
      cases e
      exact give_ok h2 q hb hB he hg fun i m => hn i (List.mem_cons_of_mem _ m)
    · cases hl
  | .bo i :: r, vs, ρ, ar, ab, bo, ds0, ds, ρl, ρr, ρ', ha, hl, hb, hB, he, hg, hn => by
    unfold ArsR at ha
    obtain ⟨v, u, rfl, h1, h2⟩ := ha
    have main : ∀ b ds', lend r (ρl.set i .no) = some (b, ds', ρr) → BorR K F H (true :: b) ds (v :: u) ab → ∃ as, EnvR K F B H ρ' σ as ∧ as.Perm (ab ++ ar) := fun b ds' q hB => by
      unfold BorR at hB
      obtain ⟨d, e, v', r', a1, a2, rfl, e2, rfl, ho, hB⟩ := hB
      cases e2
      obtain ⟨⟨x, hx, hx2⟩, hb⟩ := hb
      unfold give at hg
      rw [hx] at hg
      simp only at hg
      have hni := hn i List.mem_cons_self
      obtain ⟨o, p, a, qq, ea, eo, hs, hr⟩ := he.split hni
      rw [h1] at eo
      cases eo
      unfold SlR at hs
      subst hs ea
      have sl : SlR K F B H (reSl x d) (some v) a1 := by
        cases x with
        | bo k d0 =>
          obtain ⟨a, ea, eb⟩ := hx2 k d0 rfl
          rw [h1] at ea
          cases ea
          unfold reSl SlR
          exact ⟨a, rfl, eb, ho⟩
        | _ => unfold reSl SlR; exact ⟨v, rfl, ho⟩
      have z := hr _ _ _ .refl (Kept.of fun _ _ h => h) sl
      rw [set_same h1] at z
      by_cases hm : (Ar.bo i) ∈ r
      · -- a name cannot be lent twice
        exfalso
        refine lend_twice q hm ?_
        by_cases hl2 : i < ρl.length
        · exact .inl (List.getElem?_set_self hl2)
        · exact .inr (List.getElem?_eq_none (by simpa using hl2))
      · obtain ⟨as, k1, k2⟩ := give_ok h2 q hb hB z hg fun j m => by
          have hj : i ≠ j := fun e => hm (e ▸ m)
          rw [List.getElem?_set_ne hj]
          exact hn j (List.mem_cons_of_mem _ m)
        refine ⟨as, k1, k2.trans ?_⟩
        simp only [List.nil_append]
        refine (List.Perm.append_left a2 ?_).trans ?_ (l₂ := a2 ++ (a1 ++ (p ++ qq)))
        · rw [← List.append_assoc, ← List.append_assoc]
          exact List.Perm.append_right qq List.perm_append_comm
        · rw [← List.append_assoc]
          exact List.Perm.append_right _ List.perm_append_comm
    unfold lend at hl
    split at hl
    · split at hl
      · rename_i q
        cases hl
        exact main _ _ q hB
      · cases hl
    · split at hl
      · rename_i q
        cases hl
        exact main _ _ q hB
      · cases hl
    · cases hl
theorem lend_no : ∀ {ars : List Ar} {ρ ρ' : Env} {bo : List Bool} {ds : List D}, lend ars ρ = some (bo, ds, ρ') → (∀ (i : Nat), (Ar.bo i) ∈ ars → ρ'[i]? = some .no) ∧ ∀ (j : Nat), ρ[j]? = some .no → ρ'[j]? = some .no
  | [], ρ, ρ', bo, ds, h => by unfold lend at h; cases h; exact ⟨fun i m => (List.not_mem_nil m).elim, fun j h => h⟩
  | .va d :: r, ρ, ρ', bo, ds, h => by
    unfold lend at h
    split at h
    · rename_i q
      cases h
      obtain ⟨h1, h2⟩ := lend_no q
      exact ⟨fun i m => h1 i (by simpa using m), h2⟩
    · cases h
  | .bo i :: r, ρ, ρ', bo, ds, h => by
    have main : ∀ b ds', (∃ x, ρ[i]? = some x) → lend r (ρ.set i .no) = some (b, ds', ρ') → (∀ (j : Nat), (Ar.bo j) ∈ (Ar.bo i :: r) → ρ'[j]? = some .no) ∧ ∀ (j : Nat), ρ[j]? = some .no → ρ'[j]? = some .no := fun b ds' hx q => by
      obtain ⟨h1, h2⟩ := lend_no q
      have hi : (ρ.set i .no)[i]? = some .no := by
        obtain ⟨x, hx⟩ := hx
        have := (List.getElem?_eq_some_iff.mp hx).1
        exact List.getElem?_set_self this
      refine ⟨fun j m => ?_, fun j hj => h2 j ?_⟩
      · rcases List.mem_cons.mp m with e | e
        · cases e; exact h2 i hi
        · exact h1 j e
      · by_cases e : i = j
        · subst e; exact hi
        · rw [List.getElem?_set_ne e]; exact hj
    unfold lend at h
    split at h
    · rename_i hx
      split at h
      · rename_i q; cases h; exact main _ _ ⟨_, hx⟩ q
      · cases h
    · rename_i hx
      split at h
      · rename_i q; cases h; exact main _ _ ⟨_, hx⟩ q
      · cases h
    · cases h
/-- dd: what fills up the parameters that are not given -/
def gCallD (bo : List Bool) (G : FnD) (dd : List D) (ga : FAr) : FW := fun ρ => match ga ρ with
  | some (ars, ρ1) => match lend ars ρ1 with
    | some (b, ds, ρ2) => if b ++ dd.map (fun _ => false) = bo then match G (ds ++ dd) with
        | some (d, w, ds') => match give ρ1 ars ds' ρ2 with
          | some ρ3 => some (d, w, ρ3)
          | none => none
        | none => none
      else none
    | none => none
  | none => none
abbrev gCall (bo : List Bool) (G : FnD) (ga : FAr) : FW := gCallD bo G [] ga
theorem gCallD_some {bo : List Bool} {G : FnD} {dd : List D} {ga : FAr} {ρ : Env} {d : D} {w : Bool} {ρ' : Env} (h : gCallD bo G dd ga ρ = some (d, w, ρ')) : ∃ ars ρ1 b ds ρ2 ds', ga ρ = some (ars, ρ1) ∧ lend ars ρ1 = some (b, ds, ρ2) ∧ b ++ dd.map (fun _ => false) = bo ∧ G (ds ++ dd) = some (d, w, ds') ∧ give ρ1 ars ds' ρ2 = some ρ' := by
  unfold gCallD at h
  split at h
  · rename_i ars ρ1 q1
    split at h
    · rename_i b ds ρ2 q2
      split at h
      · rename_i hb
        split at h
        · rename_i d' w' ds' q3
          split at h
          · rename_i ρ3 q4
            cases h
            exact ⟨ars, ρ1, b, ds, ρ2, ds', q1, q2, hb, q3, q4⟩
          · cases h
        · cases h
      · cases h
    · cases h
  · cases h
theorem ArgR.dflt {K : Kc} {F : Addr → Prop} {H : Hp} {dd : List D} {dvs : List V} (r : RepL K F H dd dvs) : ∀ {bo : List Bool} {ds : List D} {vs : List V} {as : List Addr}, ArgR K F H bo ds vs as → ArgR K F H (bo ++ dd.map fun _ => false) (ds ++ dd) (vs ++ dvs) as
  | [], [], vs, as, h => by
    unfold ArgR at h
    obtain ⟨rfl, rfl⟩ := h
    simp only [List.nil_append]
    induction dd generalizing dvs with
    | nil => unfold RepL at r; subst r; unfold ArgR; exact ⟨rfl, rfl⟩
    | cons d dd ih =>
      unfold RepL at r
      obtain ⟨v, r', rfl, h1, h2⟩ := r
      show ArgR K F H (false :: dd.map fun _ => false) (d :: dd) (v :: r') []
      unfold ArgR
      exact ⟨v, r', rfl, h1, ih h2⟩
  | true :: bo, d :: ds, vs, as, h => by
    unfold ArgR at h
    obtain ⟨v, u, a1, a2, rfl, rfl, ho, h⟩ := h
    show ArgR K F H (true :: (bo ++ _)) (d :: (ds ++ dd)) (v :: (u ++ dvs)) (a1 ++ a2)
    unfold ArgR
    exact ⟨v, _, a1, a2, rfl, rfl, ho, ArgR.dflt r h⟩
  | false :: bo, d :: ds, vs, as, h => by
    unfold ArgR at h
    obtain ⟨v, u, rfl, ho, h⟩ := h
    show ArgR K F H (false :: (bo ++ _)) (d :: (ds ++ dd)) (v :: (u ++ dvs)) as
    unfold ArgR
    exact ⟨v, _, rfl, ho, ArgR.dflt r h⟩
  | [], _ :: _, _, _, h => by unfold ArgR at h; exact h.elim
  | true :: _, [], _, _, h => by unfold ArgR at h; exact h.elim
  | false :: _, [], _, _, h => by unfold ArgR at h; exact h.elim
theorem BorR.dflt {K : Kc} {F : Addr → Prop} {H : Hp} {n : List D} {dvs : List V} : ∀ {bo : List Bool} {ds : List D} {vs : List V} {as : List Addr}, vs.length = bo.length → BorR K F H (bo ++ n.map fun _ => false) ds (vs ++ dvs) as → BorR K F H bo ds vs as
  | [], ds, vs, as, hl, h => by
    have : vs = [] := List.eq_nil_of_length_eq_zero hl
    subst this
    simp only [List.nil_append] at h
    have : ∀ (n : List D) (dvs : List V), BorR K F H (n.map fun _ => false) ds dvs as → ds = [] ∧ as = [] := by
      intro n
      induction n with
      | nil => intro dvs h; simp only [List.map_nil] at h; unfold BorR at h; exact ⟨h.1, h.2.2⟩
      | cons d n ih =>
        intro dvs h
        simp only [List.map_cons] at h
        unfold BorR at h
        obtain ⟨v, r, _, h⟩ := h
        exact ih r h
    obtain ⟨e1, e2⟩ := this n dvs h
    unfold BorR
    exact ⟨e1, rfl, e2⟩
  | true :: bo, ds, [], as, hl, h => by simp at hl
  | true :: bo, ds, v :: vs, as, hl, h => by
    have h : BorR K F H (true :: (bo ++ n.map fun _ => false)) ds (v :: (vs ++ dvs)) as := h
    unfold BorR at h
    obtain ⟨d, e, v', r, a1, a2, rfl, e2, rfl, ho, h⟩ := h
    cases e2
    unfold BorR
    exact ⟨d, e, _, vs, a1, a2, rfl, rfl, rfl, ho, BorR.dflt (by simpa using hl) h⟩
  | false :: bo, ds, [], as, hl, h => by simp at hl
  | false :: bo, ds, v :: vs, as, hl, h => by
    have h : BorR K F H (false :: (bo ++ n.map fun _ => false)) ds (v :: (vs ++ dvs)) as := h
    unfold BorR at h
    obtain ⟨v', r, e2, h⟩ := h
    cases e2
    unfold BorR
    exact ⟨_, vs, rfl, BorR.dflt (by simpa using hl) h⟩
theorem callD_fit {K : Kc} {bo : List Bool} {G : FnD} {dd : List D} {dvs : List V} (hdd : ∀ F H, RepL K F H dd dvs) {ga : FAr} {σ : L2.St} {H : Hp} {Q : VK} {E : XK} (h : tW K (gCallD bo G dd ga) σ H Q) : tCall (spD K bo G) dvs E (tAr K ga) σ H Q := by
  obtain ⟨F, B, as, ρ, d, w, ρ', S, e, k⟩ := h
  obtain ⟨ars, ρ1, b, ds, ρ2, ds', e1, e2, rfl, e3, e4⟩ := gCallD_some e
  refine ⟨F, B, as, ρ, ars, ρ1, S, e1, fun vs H1 F1 as1 E1 S1 ra => ?_⟩
  show spD K _ G (vs ++ dvs) H1 Q E
  obtain ⟨ab, ar, k1, k2, k3, k4, k5⟩ := lend_ok (ρ0 := ρ1) S1.env S1.nd ra e2 fun i x h _ => h
  have nn := List.nodup_append.mp k3
  refine ⟨F1, ab, ds ++ dd, d, w, ds', k1.dflt (hdd F1 H1), nn.1, fun a m => S1.nf a (k4 a (List.mem_append_left _ m)), S1.fk, e3, fun v H2 F2 ab2 bs E2 hB n2 f2 fk2 r => ?_⟩
  have hB := BorR.dflt k1.length hB
  have kept : Kept ar H1 H2 := E2.kept fun b m z => nn.2.2 b z b m rfl
  have env2 := k2.stb E2.stb kept
  obtain ⟨as3, q1, q2⟩ := give_ok ra e2 k5 hB env2 e4 (lend_no e2).1
  have arno : ∀ b, b ∈ ar → b ∉ bs ++ ab2 := fun b m z => by
    rcases E2.anew b z with z | z
    · exact nn.2.2 b z b m rfl
    · obtain ⟨u, q⟩ := k2.there b m
      rw [q] at z; cases z
  have nd3 : (bs ++ as3).Nodup := by
    have p : (bs ++ as3).Perm ((bs ++ ab2) ++ ar) := by
      rw [List.append_assoc]
      exact List.Perm.append_left bs q2
    exact p.nodup_iff.mpr (List.nodup_append.mpr ⟨n2, nn.2.1, fun x hx y hy e => arno y hy (e ▸ hx)⟩)
  have mem3 : ∀ b, b ∈ bs ++ as3 → b ∈ (bs ++ ab2) ++ ar := fun b m => by
    rw [List.append_assoc]
    rcases List.mem_append.mp m with m | m
    · exact List.mem_append_left _ m
    · exact List.mem_append_right _ (q2.mem_iff.mp m)
  have nf3 : ∀ b, b ∈ bs ++ as3 → ¬ F2 b := fun b m f => by
    rcases List.mem_append.mp (mem3 b m) with m | m
    · exact f2 b m f
    · rcases E2.fnew b f with z | z | z
      · exact S1.nf b (k4 b (List.mem_append_right _ m)) z
      · exact nn.2.2 b z b m rfl
      · obtain ⟨u, q⟩ := k2.there b m
        rw [q] at z; cases z
  have EE : Ext F1 as1 H1 F2 (bs ++ as3) H2 := by
    refine ⟨E2.stb, fun b u h n => E2.keep b u h fun z => n (k4 b (List.mem_append_left _ z)), E2.dom, fun b f => ?_, fun b m => ?_, E2.fk⟩
    · rcases E2.fnew b f with z | z | z
      · exact .inl z
      · exact .inr (.inl (k4 b (List.mem_append_left _ z)))
      · exact .inr (.inr z)
    · rcases List.mem_append.mp (mem3 b m) with m | m
      · rcases E2.anew b m with z | z
        · exact .inl (k4 b (List.mem_append_left _ z))
        · exact .inr z
      · exact .inl (k4 b (List.mem_append_right _ m))
  exact k v H2 F2 as3 bs (E1.trans EE) ⟨q1, nd3, nf3, fk2, r⟩
/-- a def that is there, with what it computes -/
structure FnAt (X : Cx) (n : Nat) (x : Str) (bo : List Bool) (G : FnD) (dd : List D := []) : Prop where
  at_ : ∃ f fd ps ds dvs, X.mg x = some (.ref f) ∧ PySem.W.keepIn X.K (.ref f) = true ∧ Binds X.K fd ps ds ∧ Vals dvs ds ∧ (∀ F H, RepL (kc X) F H dd dvs) ∧ FnOk X.prog X.w X.K X.mg X.base CX0 n f fd ps (spD (kc X) bo G)
theorem cw_call {X : Cx} {n : Nat} {x : Str} {bo : List Bool} {G : FnD} {dd : List D} {p pos : Pos} {e : Expr} {es : List Expr} {ga : FAr} (Fn : FnAt X n x bo G dd) (hr : Room n X.A) (hg : Gl X x) (ha : PA X (e :: es) (tAr (kc X) ga))
    (hdb : (x == ("__debug__" : Str)) = false := by decide) (he : starEach (e :: es) X.env = (false, eval e X.env) :: starEach es X.env := by rfl) (hpl : (backTo pos (starEach es X.env)).any (·.1) = false := by rfl) :
    PE X (.Call (.Name x p) (e :: es) [] pos) (tW (kc X) (gCallD bo G dd ga)) := by
  obtain ⟨f, fd, ps, ds, dvs, hm, hk, hb, hv, hd, ok⟩ := Fn.at_
  exact PE.to (pe_call ok hr hg hm hk hb hv pass0 ha hdb he hpl) fun σ H Q h => callD_fit hd h
end DV

/-! DV6: targets, what is walked, for, comprehensions. -/
namespace DV
open L2 PySem PySem.Spec PyProof.Rows

/-! ### targets -/
abbrev FG := D → Env → Option Env
def tG (K : Kc) (ts : List Nat) (h : FG) : TG := fun v σ H Q => ∃ F B as ρ d ρ', Sit K F B H ρ σ as ∧ Rep K F H d v ∧ h d ρ = some ρ' ∧
  ∀ σ' H' F' as', σ'.length = σ.length → (∀ j, j ∉ ts → σ'[j]? = σ[j]?) → Ext F as H F' as' H' → Sit K F' B H' ρ' σ' as' → Q σ' H'
abbrev FGs := List D → Env → Option Env
def tGs (K : Kc) (ts : List Nat) (h : FGs) : TGs := fun vs σ H Q => ∃ F B as ρ ds ρ', Sit K F B H ρ σ as ∧ RepL K F H ds vs ∧ h ds ρ = some ρ' ∧
  ∀ σ' H' F' as', σ'.length = σ.length → (∀ j, j ∉ ts → σ'[j]? = σ[j]?) → Ext F as H F' as' H' → Sit K F' B H' ρ' σ' as' → Q σ' H'
theorem PG.to {X : Cx} {e : Expr} {t t' : TG} (h : PG X e t) (c : ∀ v σ H Q, t' v σ H Q → t v σ H Q) : PG X e t' := ⟨fun pins s σ H v u Q I r hq => h.run pins s σ H v u Q I r (c v σ H Q hq)⟩
theorem PGs.to {X : Cx} {e : List Expr} {t t' : TGs} (h : PGs X e t) (c : ∀ v σ H Q, t' v σ H Q → t v σ H Q) : PGs X e t' := ⟨fun pins s σ H v u Q I r hq => h.run pins s σ H v u Q I r (c v σ H Q hq)⟩
def hNm (i : Nat) : FG := fun d ρ => bind1 i d false ρ
theorem set_ne {i : Nat} {σ : L2.St} {x : Option V} (j : Nat) (h : j ∉ [i]) : (σ.set i x)[j]? = σ[j]? := List.getElem?_set_ne (fun e => h (by simp [e]))
section
variable {X : Cx} {pos : Pos}
theorem cg_name {i : Nat} {x : Str} (hN : X.N.Nodup) (hi : X.N[i]? = some x) (hx : Loc X.env.scope x) (hf : X.fn x = true ∨ X.env.scope.names.lookup x = some .local := by first | exact .inl rfl | exact .inr rfl | assumption) : PG X (.Name x pos) (tG (kc X) [i] (hNm i)) :=
  PG.to (pg_name hN hi hx hf) fun v σ H Q ⟨F, B, as, ρ, d, ρ', S, r, e, k⟩ => by
    obtain ⟨as2, S2, m⟩ := Sit2.bind (bs := []) (w := false) (v := v) ⟨S.env, S.nd, S.nf, S.fk, by simp [r]⟩ e
    exact k _ H F as2 (by simp) (fun j hj => set_ne j hj) (Ext.refl.sub m) S2
def hNil : FGs := fun ds ρ => match ds with
  | [] => some ρ
  | _ => none
def hCons (h : FG) (hs : FGs) : FGs := fun ds ρ => match ds with
  | d :: r => match h d ρ with
    | some ρ1 => hs r ρ1
    | none => none
  | [] => none
theorem cgs_nil : PGs X [] (tGs (kc X) [] hNil) := PGs.to pgs_nil fun vs σ H Q ⟨F, B, as, ρ, ds, ρ', S, r, e, k⟩ => by
  unfold hNil at e
  split at e
  · cases e
    unfold RepL at r
    exact ⟨r, k σ H F as rfl (fun _ _ => rfl) .refl S⟩
  · cases e
theorem cgs_cons {e : Expr} {es : List Expr} {ts us : List Nat} {h : FG} {hs : FGs} (h1 : PG X e (tG (kc X) ts h)) (h2 : PGs X es (tGs (kc X) us hs)) (hq : (assignEach (e :: es) X.env).map (·.2) = assign e X.env :: (assignEach es X.env).map (·.2) := by rfl) :
    PGs X (e :: es) (tGs (kc X) (ts ++ us) (hCons h hs)) := PGs.to (pgs_cons h1 h2 hq) fun vs σ H Q ⟨F, B, as, ρ, ds, ρ', S, r, e, k⟩ => by
  unfold hCons at e
  split at e
  · rename_i d rest
    split at e
    · rename_i ρ1 q
      unfold RepL at r
      obtain ⟨v, u, rfl, r1, r2⟩ := r
      refine ⟨v, u, rfl, F, B, as, ρ, d, ρ1, S, r1, q, fun σ1 H1 F1 as1 l1 n1 E1 S1 => ⟨F1, B, as1, ρ1, rest, ρ', S1, RepL.stb E1.stb _ _ r2, e, fun σ2 H2 F2 as2 l2 n2 E2 S2 => ?_⟩⟩
      exact k σ2 H2 F2 as2 (l2.trans l1) (fun j hj => (n2 j fun m => hj (List.mem_append_right _ m)).trans (n1 j fun m => hj (List.mem_append_left _ m))) (E1.trans E2) S2
    · cases e
  · cases e
def hTup (n : Nat) (h : FGs) : FG := fun d ρ => match d with
  | .tup ds => if ds.length = n then h ds ρ else none
  | _ => none
theorem cg_tup {es : List Expr} {k n : Nat} {ts : List Nat} {h : FGs} (hc : X.calm = true) (hs : PGs X es (tGs (kc X) ts h)) (hn : (assignEach es X.env).length = n := by rfl) (hst : (assignEach es X.env).findIdx? (·.1) = none := by rfl) : PG X (.Tuple es k pos) (tG (kc X) ts (hTup n h)) :=
  PG.to (pg_tup hc hs hn hst) fun v σ H Q ⟨F, B, as, ρ, d, ρ', S, r, e, k⟩ => by
    unfold hTup at e
    split at e
    · split at e
      · rename_i ds hl
        unfold Rep at r
        obtain ⟨a, vs, rfl, h1, h2⟩ := r
        exact ⟨a, vs, rfl, h1, by rw [h2.length, hl], F, B, as, ρ, ds, ρ', S, h2, e, k⟩
      · cases e
    · cases e
end

/-! ### what is walked -/
def ItOk (K : Kc) (J : It) (items : List D) (F : Addr → Prop) (H : Hp) : Prop := ∀ F2 H2, Stb F H F2 H2 → (∀ b, F2 b → H2 b ≠ none) → ∀ i,
  (∀ d, items[i]? = some d → J.go i H2 ∧ ∀ x H3, J.yld i H2 x H3 → ∃ F3, Ext F2 [] H2 F3 [] H3 ∧ Rep K F3 H3 d x) ∧ (items.length ≤ i → J.stop i H2)
theorem ItOk.stb {K : Kc} {J : It} {items : List D} {F F2 : Addr → Prop} {H H2 : Hp} (h : ItOk K J items F H) (s : Stb F H F2 H2) : ItOk K J items F2 H2 := fun F3 H3 s3 => h F3 H3 (s.trans s3)
def tI (K : Kc) (g : FL) : TI := fun σ H R => ∃ F B as ρ items ρ', Sit K F B H ρ σ as ∧ g ρ = some (items, ρ') ∧ ∀ J H' F' as', Ext F as H F' as' H' → Sit K F' B H' ρ' σ as' → ItOk K J items F' H' → R J H'
theorem PI.to {X : Cx} {tg e : Expr} {t t' : TI} (h : PI X tg e t) (c : ∀ σ H R, t' σ H R → t σ H R) : PI X tg e t' := ⟨fun pins s σ H R I hq => h.run pins s σ H R I (c σ H R hq)⟩
theorem RepL.get' {K : Kc} {F : Addr → Prop} {H : Hp} {ds : List D} {vs : List V} {i : Nat} {x : V} (r : RepL K F H ds vs) (e : vs[i]? = some x) : ∃ d, ds[i]? = some d ∧ Rep K F H d x := by
  have hl : i < ds.length := by
    have := (List.getElem?_eq_some_iff.mp e).1
    rw [r.length] at this; exact this
  obtain ⟨v, h1, h2⟩ := r.get (List.getElem?_eq_getElem hl)
  rw [e] at h1
  cases h1
  exact ⟨_, List.getElem?_eq_getElem hl, h2⟩
/-- a list among what never changes -/
theorem it_lst {K : Kc} {F : Addr → Prop} {H : Hp} {a : Addr} {vs : List V} {ds : List D} (hf : F a) (h : H a = some (.lst vs)) (r : RepL K F H ds vs) : ItOk K (Itl K.K a) ds F H := fun F2 H2 s fk i => by
  have h2 : SqL K.K H2 a vs := SqL.of (s.ls a vs hf h)
  have r2 := RepL.stb s _ _ r
  refine ⟨fun d hd => ?_, fun hl => ⟨vs, h2, by rw [r.length]; exact hl⟩⟩
  obtain ⟨v, e, q⟩ := r2.get hd
  refine ⟨⟨vs, v, h2, e⟩, fun x H3 y => ?_⟩
  obtain ⟨rfl, y⟩ := y
  have := y vs h2
  rw [e] at this
  cases this
  exact ⟨F2, .refl, q⟩
theorem it_tup {K : Kc} {F : Addr → Prop} {H : Hp} {a : Addr} {vs : List V} {ds : List D} (h : SqT K.K H a vs) (r : RepL K F H ds vs) : ItOk K (Itt K.K a) ds F H := fun F2 H2 s fk i => by
  have h2 : SqT K.K H2 a vs := s.sqT h
  have r2 := RepL.stb s _ _ r
  refine ⟨fun d hd => ?_, fun hl => ⟨vs, h2, by rw [r.length]; exact hl⟩⟩
  obtain ⟨v, e, q⟩ := r2.get hd
  refine ⟨⟨vs, v, h2, e⟩, fun x H3 y => ?_⟩
  obtain ⟨rfl, y⟩ := y
  have := y vs h2
  rw [e] at this
  cases this
  exact ⟨F2, .refl, q⟩
def rngD (lo : Int) (n : Nat) : List D := (List.range n).map fun i => .int (lo + (i : Nat))
theorem it_rng {K : Kc} {F : Addr → Prop} {H : Hp} {lo : Int} {n : Nat} : ItOk K (Itr lo n) (rngD lo n) F H := fun F2 H2 s fk i => by
  unfold rngD
  refine ⟨fun d hd => ?_, fun hl => by show n ≤ i; simpa using hl⟩
  rw [List.getElem?_map] at hd
  obtain ⟨j, hj, rfl⟩ := Option.map_eq_some_iff.mp hd
  obtain ⟨hl, e⟩ := List.getElem?_eq_some_iff.mp hj
  simp at hl e
  subst e
  refine ⟨hl, fun x H3 y => ?_⟩
  obtain ⟨rfl, rfl⟩ := y
  exact ⟨F2, .refl, Rep.int'⟩
def rngC (lo c : Int) (n : Nat) : List D := (List.range n).map fun i => .int (lo + (i : Nat) * c)
theorem it_rngC {K : Kc} {F : Addr → Prop} {H : Hp} {lo c : Int} {n : Nat} : ItOk K (Itc lo c n) (rngC lo c n) F H := fun F2 H2 s fk i => by
  unfold rngC
  refine ⟨fun d hd => ?_, fun hl => by show n ≤ i; simpa using hl⟩
  rw [List.getElem?_map] at hd
  obtain ⟨j, hj, rfl⟩ := Option.map_eq_some_iff.mp hd
  obtain ⟨hl, e⟩ := List.getElem?_eq_some_iff.mp hj
  simp at hl e
  subst e
  refine ⟨hl, fun x H3 y => ?_⟩
  obtain ⟨rfl, rfl⟩ := y
  exact ⟨F2, .refl, Rep.int'⟩
def zipD (xs ys : List D) : List D := List.zipWith (fun x y => .tup [x, y]) xs ys
theorem it_zip {K : Kc} {F : Addr → Prop} {H : Hp} {a b : Addr} {us vs : List V} {xs ys : List D} (ha : F a) (hb : F b) (h : H a = some (.lst us)) (h' : H b = some (.lst vs)) (r : RepL K F H xs us) (r' : RepL K F H ys vs) : ItOk K (Itz K.K a b) (zipD xs ys) F H := fun F2 H2 s fk i => by
  have h2 : SqL K.K H2 a us := SqL.of (s.ls a us ha h)
  have h2' : SqL K.K H2 b vs := SqL.of (s.ls b vs hb h')
  have r2 := RepL.stb s _ _ r
  have r2' := RepL.stb s _ _ r'
  unfold zipD
  refine ⟨fun d hd => ?_, fun hl => ⟨us, vs, h2, h2', ?_⟩⟩
  · rw [List.getElem?_zipWith] at hd
    split at hd
    · rename_i x y qx qy
      cases hd
      obtain ⟨u, e, q⟩ := r2.get qx
      obtain ⟨v, e', q'⟩ := r2'.get qy
      refine ⟨⟨us, vs, u, v, h2, h2', e, e'⟩, fun z H3 y => ?_⟩
      obtain ⟨T, x1, y1, rfl, hT, rfl, y2, y3⟩ := y
      have z1 := y2 us h2
      rw [e] at z1; cases z1
      have z2 := y3 vs h2'
      rw [e'] at z2; cases z2
      obtain ⟨E, q3⟩ := new_tup hT (RepL.cons q (RepL.cons q' RepL.nil))
      exact ⟨F2, E, q3⟩
    · cases hd
  · rw [List.length_zipWith] at hl
    rw [r.length, r'.length]
    omega
theorem it_zipT {K : Kc} {F : Addr → Prop} {H : Hp} {a b : Addr} {us vs : List V} {xs ys : List D} (h : SqT K.K H a us) (h' : SqT K.K H b vs) (r : RepL K F H xs us) (r' : RepL K F H ys vs) : ItOk K (RZ.ItzT K.K a b) (zipD xs ys) F H := fun F2 H2 s fk i => by
  have h2 := s.sqT h
  have h2' := s.sqT h'
  have r2 := RepL.stb s _ _ r
  have r2' := RepL.stb s _ _ r'
  unfold zipD
  refine ⟨fun d hd => ?_, fun hl => ⟨us, vs, h2, h2', ?_⟩⟩
  · rw [List.getElem?_zipWith] at hd
    split at hd
    · rename_i x y qx qy
      cases hd
      obtain ⟨u, e, q⟩ := r2.get qx
      obtain ⟨v, e', q'⟩ := r2'.get qy
      refine ⟨⟨us, vs, u, v, h2, h2', e, e'⟩, fun z H3 y => ?_⟩
      obtain ⟨T, x1, y1, rfl, hT, rfl, y2, y3⟩ := y
      have z1 := y2 us h2
      rw [e] at z1; cases z1
      have z2 := y3 vs h2'
      rw [e'] at z2; cases z2
      obtain ⟨E, q3⟩ := new_tup hT (RepL.cons q (RepL.cons q' RepL.nil))
      exact ⟨F2, E, q3⟩
    · cases hd
  · rw [List.length_zipWith] at hl
    rw [r.length, r'.length]
    omega
section
variable {X : Cx} {tg : Expr} {pos p : Pos}
def gSq (g : FD) : FL := fun ρ => match g ρ with
  | some (.lst xs, ρ1) => some (xs, ρ1)
  | some (.tup xs, ρ1) => some (xs, ρ1)
  | _ => none
theorem ci_seq {e : Expr} {g : FD} (h : PE X e (tD (kc X) g)) : PI X tg e (tI (kc X) (gSq g)) := by
  refine ⟨fun pins s σ H R I hq => ?_⟩
  obtain ⟨F, B, as, ρ, items, ρ', S, e, k⟩ := hq
  unfold gSq at e
  split at e
  · rename_i xs ρ1 q
    cases e
    refine (pi_list h).run pins s σ H R I ⟨F, B, as, ρ, .lst items, _, S, q, fun v H1 F1 as1 E1 S1 r => ?_⟩
    unfold Rep at r
    obtain ⟨a, vs, rfl, hf, h1, h2⟩ := r
    exact ⟨a, rfl, ⟨vs, SqL.of h1⟩, k _ H1 F1 as1 E1 S1 (it_lst hf h1 h2)⟩
  · rename_i xs ρ1 q
    cases e
    refine (pi_tup h).run pins s σ H R I ⟨F, B, as, ρ, .tup items, _, S, q, fun v H1 F1 as1 E1 S1 r => ?_⟩
    unfold Rep at r
    obtain ⟨a, vs, rfl, h1, h2⟩ := r
    exact ⟨a, rfl, ⟨vs, h1⟩, k _ H1 F1 as1 E1 S1 (it_tup h1 h2)⟩
  · cases e
def gRng1 (g : FL) : FL := fun ρ => match g ρ with
  | some ([.int j], ρ1) => if j ≤ 100000 ∧ -100000 ≤ j then some (rngD 0 j.toNat, ρ1) else none
  | _ => none
theorem ci_rng1 {a : Expr} {g : FL} (hg : Gl X "range") (hm : X.mg "range" = none) (ha : PA X [a] (tL (kc X) g)) (hs : starEach [a] X.env = [(false, eval a X.env)] := by rfl) : PI X tg (.Call (.Name "range" p) [a] [] pos) (tI (kc X) (gRng1 g)) :=
  PI.to (pi_range1 hg hm ha hs) fun σ H R ⟨F, B, as, ρ, items, ρ', S, e, k⟩ => by
    unfold gRng1 at e
    split at e
    · rename_i j ρ1 q
      split at e
      · rename_i hj
        cases e
        refine ⟨F, B, as, ρ, _, _, S, q, fun vs H1 F1 as1 E1 S1 r => ?_⟩
        unfold RepL RepL Rep at r
        obtain ⟨v, u, rfl, rfl, rfl⟩ := r
        exact ⟨j, rfl, by omega, by omega, k _ H1 F1 as1 E1 S1 it_rng⟩
      · cases e
    · cases e
def gRng2 (g : FL) : FL := fun ρ => match g ρ with
  | some ([.int i, .int j], ρ1) => if (i ≤ 100000 ∧ -100000 ≤ i) ∧ j ≤ 100000 ∧ -100000 ≤ j then some (rngD i (j - i).toNat, ρ1) else none
  | _ => none
theorem ci_rng2 {a b : Expr} {g : FL} (hg : Gl X "range") (hm : X.mg "range" = none) (ha : PA X [a, b] (tL (kc X) g)) (hs : starEach [a, b] X.env = [(false, eval a X.env), (false, eval b X.env)] := by rfl) (hs2 : starEach [b] X.env = [(false, eval b X.env)] := by rfl) : PI X tg (.Call (.Name "range" p) [a, b] [] pos) (tI (kc X) (gRng2 g)) :=
  PI.to (pi_range2 hg hm ha hs hs2) fun σ H R ⟨F, B, as, ρ, items, ρ', S, e, k⟩ => by
    unfold gRng2 at e
    split at e
    · rename_i i j ρ1 q
      split at e
      · rename_i hj
        cases e
        refine ⟨F, B, as, ρ, _, _, S, q, fun vs H1 F1 as1 E1 S1 r => ?_⟩
        unfold RepL RepL RepL Rep at r
        obtain ⟨v, u, rfl, rfl, v2, u2, rfl, rfl, rfl⟩ := r
        exact ⟨i, j, rfl, by omega, k _ H1 F1 as1 E1 S1 it_rng⟩
      · cases e
    · cases e
def gRngM (g : FL) : FL := fun ρ => match g ρ with
  | some ([.int i, .int j, .int c], ρ1) => if c = -1 ∧ (i ≤ 100000 ∧ -100000 ≤ i) ∧ j ≤ 100000 ∧ -100000 ≤ j then some (rngC i (-1) (i - j).toNat, ρ1) else none
  | _ => none
theorem ci_rng3 {a b c : Expr} {g : FL} (hg : Gl X "range") (hm : X.mg "range" = none) (ha : PA X [a, b, c] (tL (kc X) g)) (hs : starEach [a, b, c] X.env = (false, eval a X.env) :: starEach [b, c] X.env := by rfl) (hpl : (backTo pos (starEach [b, c] X.env)).any (·.1) = false := by rfl) : PI X tg (.Call (.Name "range" p) [a, b, c] [] pos) (tI (kc X) (gRngM g)) :=
  PI.to (pi_range3 hg hm ha hs hpl) fun σ H R ⟨F, B, as, ρ, items, ρ', S, e, k⟩ => by
    unfold gRngM at e
    split at e
    · rename_i i j c ρ1 q
      split at e
      · rename_i hj
        obtain ⟨rfl, hi, hj⟩ := hj
        cases e
        refine ⟨F, B, as, ρ, _, _, S, q, fun vs H1 F1 as1 E1 S1 r => ?_⟩
        unfold RepL RepL RepL RepL Rep at r
        obtain ⟨v, u, rfl, rfl, v2, u2, rfl, rfl, v3, u3, rfl, rfl, rfl⟩ := r
        exact ⟨i, j, -1, _, rfl, RgC.neg (by omega) (by omega) (by omega) (by omega), k _ H1 F1 as1 E1 S1 it_rngC⟩
      · cases e
    · cases e
def gZip (g : FL) : FL := fun ρ => match g ρ with
  | some ([.lst xs, .lst ys], ρ1) => some (zipD xs ys, ρ1)
  | some ([.tup xs, .tup ys], ρ1) => some (zipD xs ys, ρ1)
  | _ => none
theorem ci_zip {e e2 : Expr} {g : FL} {tpos : Pos} {elts : List Expr} {kk : Nat} (hg : Gl X "zip") (hm : X.mg "zip" = none) (ha : PA X [e, e2] (tL (kc X) g)) (hs : starEach [e, e2] X.env = (false, eval e X.env) :: starEach [e2] X.env := by rfl) (hpl : (backTo pos (starEach [e2] X.env)).any (·.1) = false := by rfl) :
    PI X (.Tuple elts kk tpos) (.Call (.Name "zip" p) [e, e2] [] pos) (tI (kc X) (gZip g)) :=
  PI.to (RZ.pi_zipA hg hm ha hs hpl) fun σ H R ⟨F, B, as, ρ, items, ρ', S, e, k⟩ => by
    unfold gZip at e
    split at e
    · rename_i xs ys ρ1 q
      cases e
      refine ⟨F, B, as, ρ, _, _, S, q, fun vs H1 F1 as1 E1 S1 r => ?_⟩
      unfold RepL RepL RepL Rep at r
      obtain ⟨v, u, rfl, ⟨a, us, rfl, fa, h1, h2⟩, v2, u2, rfl, ⟨b, ws, rfl, fb, h3, h4⟩, rfl⟩ := r
      exact ⟨a, b, us, ws, rfl, .inl ⟨SqL.of h1, SqL.of h3, k _ H1 F1 as1 E1 S1 (it_zip fa fb h1 h3 h2 h4)⟩⟩
    · rename_i xs ys ρ1 q
      cases e
      refine ⟨F, B, as, ρ, _, _, S, q, fun vs H1 F1 as1 E1 S1 r => ?_⟩
      unfold RepL RepL RepL Rep at r
      obtain ⟨v, u, rfl, ⟨a, us, rfl, h1, h2⟩, v2, u2, rfl, ⟨b, ws, rfl, h3, h4⟩, rfl⟩ := r
      exact ⟨a, b, us, ws, rfl, .inr ⟨h1, h3, k _ H1 F1 as1 E1 S1 (it_zipT h1 h3 h2 h4)⟩⟩
    · cases e

/-! ### for -/
def forD (h : FG) (body : FS) : List D → Env → Option (Fl × Env)
  | [], ρ => some (.nx, ρ)
  | d :: ds, ρ => match h d ρ with
    | some ρ1 => match body ρ1 with
      | some (.nx, ρ2) => forD h body ds ρ2
      | some (.ct, ρ2) => forD h body ds ρ2
      | some (.br, ρ2) => some (.nx, ρ2)
      | some (.rt d w, ρ2) => some (.rt d w, ρ2)
      | none => none
    | none => none
def gFor (gi : FL) (h : FG) (body : FS) : FS := fun ρ => match gi ρ with
  | some (items, ρ1) => forD h body items ρ1
  | none => none
theorem drop_cons {α : Type} {l : List α} {i : Nat} (h : i < l.length) : ∃ d, l[i]? = some d ∧ l.drop i = d :: l.drop (i + 1) :=
  ⟨l[i], List.getElem?_eq_getElem h, List.drop_eq_getElem_cons h⟩
theorem for_fit {K : Kc} {gi : FL} {h : FG} {ts : List Nat} {body : FS} {D : Ends} {σ : L2.St} {H : Hp} (hq : tS K (gFor gi h body) D σ H) : tFor (tI K gi) (tG K ts h) (tS K body) D σ H := by
  obtain ⟨F, B, as, ρ, fl, ρ', S, e, k⟩ := hq
  unfold gFor at e
  split at e
  · rename_i items ρ1 q
    refine ⟨F, B, as, ρ, items, ρ1, S, q, fun J H1 F1 as1 E1 S1 I1 => ?_⟩
    let Wn : Nat → L2.St → Hp → Prop := fun i σ H => ∃ F' as' ρ2, Sit K F' B H ρ2 σ as' ∧ forD h body (items.drop i) ρ2 = some (fl, ρ') ∧ tSEnd K F' B as' H D ρ' fl ∧ ItOk K J items F' H
    refine ⟨fun i m σ H => m = items.length - i ∧ i ≤ items.length ∧ Wn i σ H, ⟨items.length, rfl, Nat.zero_le _, F1, as1, ρ1, S1, e, k.ext E1, I1⟩, ?_⟩
    rintro i m σ2 H2 ⟨rfl, hi, F2, as2, ρ2, S2, e2, k2, I2⟩
    have IJ := I2 F2 H2 .refl S2.fk i
    by_cases hlt : i < items.length
    · obtain ⟨d, hd, hdr⟩ := drop_cons hlt
      rw [hdr] at e2
      unfold forD at e2
      obtain ⟨go, step⟩ := IJ.1 d hd
      have next : ∀ {σ' : L2.St} {H' : Hp}, Wn (i + 1) σ' H' → ∃ m', m' < items.length - i ∧ m' = items.length - (i + 1) ∧ i + 1 ≤ items.length ∧ Wn (i + 1) σ' H' := fun {σ' H'} w => ⟨_, by omega, rfl, hlt, w⟩
      split at e2
      · rename_i ρ3 q3
        split at e2
        · rename_i ρ4 q4
          refine .inr ⟨go, Wn (i + 1), fun σ' H' w => next w, fun x H3 y => ?_⟩
          obtain ⟨F3, E3, r3⟩ := step x H3 y
          have S3 := S2.step E3
          refine ⟨F3, B, as2, ρ2, d, ρ3, S3, r3, q3, fun σ5 H5 F5 as5 _ _ E5 S5 => ⟨F5, B, as5, ρ3, .nx, ρ4, S5, q4, fun σ6 H6 F6 as6 E6 S6 => ?_⟩⟩
          exact ⟨F6, as6, ρ4, S6, e2, ((k2.ext E3.pure).ext E5).ext E6, ((I2.stb E3.stb).stb E5.stb).stb E6.stb⟩
        · rename_i ρ4 q4
          refine .inr ⟨go, Wn (i + 1), fun σ' H' w => next w, fun x H3 y => ?_⟩
          obtain ⟨F3, E3, r3⟩ := step x H3 y
          have S3 := S2.step E3
          refine ⟨F3, B, as2, ρ2, d, ρ3, S3, r3, q3, fun σ5 H5 F5 as5 _ _ E5 S5 => ⟨F5, B, as5, ρ3, .ct, ρ4, S5, q4, fun σ6 H6 F6 as6 E6 S6 => ?_⟩⟩
          exact ⟨F6, as6, ρ4, S6, e2, ((k2.ext E3.pure).ext E5).ext E6, ((I2.stb E3.stb).stb E5.stb).stb E6.stb⟩
        · rename_i ρ4 q4
          cases e2
          refine .inr ⟨go, fun _ _ => False, fun σ' H' w => w.elim, fun x H3 y => ?_⟩
          obtain ⟨F3, E3, r3⟩ := step x H3 y
          have S3 := S2.step E3
          refine ⟨F3, B, as2, ρ2, d, ρ3, S3, r3, q3, fun σ5 H5 F5 as5 _ _ E5 S5 => ⟨F5, B, as5, ρ3, .br, _, S5, q4, fun σ6 H6 F6 as6 E6 S6 => ?_⟩⟩
          exact k2 σ6 H6 F6 as6 ((E3.pure.trans E5).trans E6) S6
        · rename_i d' w' ρ4 q4
          cases e2
          refine .inr ⟨go, fun _ _ => False, fun σ' H' w => w.elim, fun x H3 y => ?_⟩
          obtain ⟨F3, E3, r3⟩ := step x H3 y
          have S3 := S2.step E3
          refine ⟨F3, B, as2, ρ2, d, ρ3, S3, r3, q3, fun σ5 H5 F5 as5 _ _ E5 S5 => ⟨F5, B, as5, ρ3, .rt d' w', _, S5, q4, fun v σ6 H6 F6 as6 bs E6 S6 => ?_⟩⟩
          exact k2 v σ6 H6 F6 as6 bs ((E3.pure.trans E5).trans E6) S6
        · cases e2
      · cases e2
    · have e3 : i = items.length := by omega
      subst e3
      rw [List.drop_length] at e2
      unfold forD at e2
      cases e2
      exact .inl ⟨IJ.2 (Nat.le_refl _), k2 σ2 H2 F2 as2 .refl S2⟩
  · cases e
theorem cs_for {iter : Expr} {body : List Stmt} {gi : FL} {ts : List Nat} {h : FG} {gb : FS} (hp : PassesOwn (model X.prog X.w) X.A X.env X.xe) (hc : X.calm = true) (hi : PI X tg iter (tI (kc X) gi)) (hg : PG X tg (tG (kc X) ts h)) (hb : PSs X body (tS (kc X) gb))
    (hs : ∀ x, foldedSetIterable iter X.env x = pure x := by intro _; rfl) : PS X (.For tg iter body [] pos) (tS (kc X) (gFor gi h gb)) :=
  PS.to (ps_for hp hc hi hg hb hs) fun D σ H hq => for_fit hq
end

/-! ### comprehensions -/
def wipeE (ρ : Env) : List Nat → Env
  | [] => ρ
  | v :: vs => (wipeE ρ vs).set v .no
def okOwn (ρ : Env) : List Nat → Bool
  | [] => true
  | v :: vs => (match ρ[v]? with
    | some .no => true
    | some (.sh _) => true
    | _ => false) && okOwn ρ vs
/-- the block's own names are again what they were -/
def backE (ρ0 ρ : Env) : List Nat → Env
  | [] => ρ
  | v :: vs => (backE ρ0 ρ vs).set v (ρ0.getD v .no)
theorem wipe_env {K : Kc} {F : Addr → Prop} {B : List Addr} {H : Hp} {ρ : Env} {σ : L2.St} {as : List Addr} (h : EnvR K F B H ρ σ as) : ∀ vs : List Nat, ∃ as', EnvR K F B H (wipeE ρ vs) (wipe σ vs) as' ∧ as'.Sublist as
  | [] => ⟨as, h, List.Sublist.refl _⟩
  | v :: vs => by
    obtain ⟨as1, h1, s1⟩ := wipe_env h vs
    unfold wipeE wipe
    by_cases hv : v < (wipeE ρ vs).length
    · obtain ⟨o, p, a, q, ea, eo, hs, hr⟩ := h1.split (List.getElem?_eq_getElem hv)
      subst ea
      refine ⟨p ++ ([] ++ q), hr .no none [] .refl (Kept.of fun _ _ h => h) (by unfold SlR; rfl), List.Sublist.trans ?_ s1⟩
      exact List.Sublist.append (List.Sublist.refl _) (List.Sublist.append (List.nil_sublist _) (List.Sublist.refl _))
    · have hl := h1.length
      rw [List.set_eq_of_length_le (by omega), List.set_eq_of_length_le (by omega)]
      exact ⟨as1, h1, s1⟩
theorem Sit.wiped {K : Kc} {F : Addr → Prop} {B : List Addr} {H : Hp} {ρ : Env} {σ : L2.St} {as : List Addr} (S : Sit K F B H ρ σ as) (vs : List Nat) : ∃ as', Sit K F B H (wipeE ρ vs) (wipe σ vs) as' ∧ as'.Sublist as := by
  obtain ⟨as', h, s⟩ := wipe_env S.env vs
  exact ⟨as', ⟨h, S.nd.sublist s, fun a m => S.nf a (s.subset m), S.fk⟩, s⟩
theorem wipeE_length (ρ : Env) : ∀ vs, (wipeE ρ vs).length = ρ.length
  | [] => rfl
  | v :: vs => by unfold wipeE; rw [List.length_set, wipeE_length ρ vs]
theorem backE_env {K : Kc} {F F2 : Addr → Prop} {B : List Addr} {H H2 : Hp} {ρ0 : Env} {σ : L2.St} {as0 : List Addr} (h0 : EnvR K F B H ρ0 σ as0) (s : Stb F H F2 H2) : ∀ {vs : List Nat} {ρ : Env} {σ2 : L2.St} {as : List Addr}, okOwn ρ0 vs = true → EnvR K F2 B H2 ρ σ2 as → (∀ j, j ∉ vs → σ2[j]? = σ[j]?) → σ2.length = σ.length →
    ∃ as', EnvR K F2 B H2 (backE ρ0 ρ vs) σ as' ∧ as'.Sublist as
  | [], ρ, σ2, as, _, h, hn, hl => by
    have e : σ2 = σ := List.ext_getElem? fun j => hn j (by simp)
    subst e
    exact ⟨as, h, List.Sublist.refl _⟩
  | v :: vs, ρ, σ2, as, ok, h, hn, hl => by
    unfold okOwn at ok
    rw [Bool.and_eq_true] at ok
    have hv : ∃ x, ρ0[v]? = some x := by
      cases q : ρ0[v]? with
      | none => rw [q] at ok; simp at ok
      | some x => exact ⟨x, rfl⟩
    obtain ⟨x, hx⟩ := hv
    obtain ⟨o, _, _, _, _, eo, hs0, _⟩ := h0.split hx
    have lv : v < σ.length := (List.getElem?_eq_some_iff.mp eo).1
    -- v's slot first, with its old value
    have hxs : SlR K F2 B H2 x o [] := by
      have ok1 := ok.1
      rw [hx] at ok1
      cases x with
      | no => unfold SlR; rfl
      | sh d =>
        unfold SlR at hs0 ⊢
        obtain ⟨_, v', e, r⟩ := hs0
        exact ⟨rfl, v', e, Rep.stb s _ _ r⟩
      | ow d => simp at ok1
      | bo k d => simp at ok1
    have lρ : v < ρ.length := by have := h.length; omega
    obtain ⟨o2, p, a, q, ea, eo2, _, hr⟩ := h.split (List.getElem?_eq_getElem lρ)
    subst ea
    have z := hr x o [] .refl (Kept.of fun _ _ h => h) hxs
    obtain ⟨as', h3, s3⟩ := backE_env h0 s (ρ := ρ.set v x) (σ2 := σ2.set v o) ok.2 z (fun j hj => by
      by_cases e : v = j
      · subst e
        rw [List.getElem?_set_self (by omega)]
        exact eo.symm
      · rw [List.getElem?_set_ne e]
        exact hn j fun m => by
          rcases List.mem_cons.mp m with m | m
          · exact e m.symm
          · exact hj m) (by simpa using hl)
    -- setting v again changes nothing
    have comm : ∀ (vs : List Nat), (backE ρ0 (ρ.set v x) vs)[v]? = some x ∧ backE ρ0 (ρ.set v x) vs = (backE ρ0 ρ vs).set v x := by
      intro vs
      induction vs with
      | nil =>
        unfold backE
        exact ⟨List.getElem?_set_self lρ, rfl⟩
      | cons w ws ih =>
        unfold backE
        by_cases e : w = v
        · subst e
          have gd : ρ0.getD w .no = x := by rw [List.getD_eq_getElem?_getD, hx]; rfl
          rw [gd]
          obtain ⟨i1, i2⟩ := ih
          rw [set_same i1]
          refine ⟨i1, ?_⟩
          rw [i2, List.set_set]
        · obtain ⟨i1, i2⟩ := ih
          rw [List.getElem?_set_ne e]
          refine ⟨i1, ?_⟩
          rw [i2, List.set_comm _ _ e]
    have fin : backE ρ0 ρ (v :: vs) = backE ρ0 (ρ.set v x) vs := by
      rw [(comm vs).2]
      show (backE ρ0 ρ vs).set v (ρ0.getD v .no) = _
      rw [List.getD_eq_getElem?_getD, hx]
      rfl
    rw [fin]
    refine ⟨as', h3, s3.trans ?_⟩
    exact List.Sublist.append (List.Sublist.refl _) (List.Sublist.append (List.nil_sublist _) (List.Sublist.refl _))
theorem wipe_at {σ σ2 : L2.St} : ∀ {vs : List Nat}, σ2.length = σ.length → (∀ j, j ∉ vs → σ2[j]? = (wipe σ vs)[j]?) → wipe σ2 vs = wipe σ vs := fun {vs} hl hn => by
  have key : ∀ (σ : L2.St) (vs : List Nat) (j : Nat), (wipe σ vs)[j]? = if j ∈ vs ∧ j < σ.length then some none else σ[j]? := by
    intro σ vs
    induction vs with
    | nil => intro j; simp [wipe]
    | cons v vs ih =>
      intro j
      unfold wipe
      by_cases e : v = j
      · subst e
        by_cases hj : v < σ.length
        · rw [List.getElem?_set_self (by rw [wipe_length]; exact hj), if_pos ⟨List.mem_cons_self, hj⟩]
        · rw [List.getElem?_eq_none (by rw [List.length_set, wipe_length]; omega), if_neg (fun z => hj z.2), List.getElem?_eq_none (by omega)]
      · rw [List.getElem?_set_ne e, ih]
        have : j ∈ v :: vs ↔ j ∈ vs := by simp [Ne.symm e]
        simp only [this]
  refine List.ext_getElem? fun j => ?_
  rw [key, key]
  by_cases hj : j ∈ vs
  · simp only [hj, true_and, hl]
    split
    · rfl
    · rename_i h
      rw [List.getElem?_eq_none (by omega), List.getElem?_eq_none (by omega)]
  · simp only [hj, false_and, if_false]
    have := hn j hj
    rw [key] at this
    simpa [hj] using this
theorem wipe_off {σ : L2.St} {vs : List Nat} {j : Nat} (h : j ∉ vs) : (wipe σ vs)[j]? = σ[j]? := wipe_out h

def compD (vs : List Nat) (h : FG) (tt : FT) (te : FD) : List D → Env → Option (List D × Env)
  | [], ρ => some ([], ρ)
  | d :: ds, ρ => match h d ρ with
    | some ρ1 => match tt ρ1 with
      | some (true, ρ2) => match te ρ2 with
        | some (y, ρ3) => match compD vs h tt te ds (wipeE ρ3 vs) with
          | some (ys, ρ4) => some (y :: ys, ρ4)
          | none => none
        | none => none
      | some (false, ρ2) => compD vs h tt te ds (wipeE ρ2 vs)
      | none => none
    | none => none
def gComp (vs : List Nat) (gi : FL) (h : FG) (tt : FT) (te : FD) : FW := fun ρ => match gi ρ with
  | some (items, ρ1) => if okOwn ρ1 vs = true then match compD vs h tt te items (wipeE ρ1 vs) with
      | some (ys, ρ2) => if ys.length ≤ SZ then some (.lst ys, true, backE ρ1 ρ2 vs) else none
      | none => none
    else none
  | none => none
theorem comp_fit {K : Kc} {vs ts : List Nat} {gi : FL} {h : FG} {tt : FT} {te : FD} {σ : L2.St} {H : Hp} {Q : VK} (hts : ∀ j, j ∈ ts → j ∈ vs) (hq : tW K (gComp vs gi h tt te) σ H Q) : tLc (tI K gi) (tG K ts h) (tB K tt) (tD K te) vs σ H Q := by
  obtain ⟨F, B, as, ρ, d, w, ρ', S, e, k⟩ := hq
  unfold gComp at e
  split at e
  · rename_i items ρ1 q
    split at e
    · rename_i hok
      split at e
      · rename_i ys ρ2 q2
        split at e
        · rename_i hz
          cases e
          refine ⟨F, B, as, ρ, items, ρ1, S, q, fun J H1 F1 as1 E1 S1 I1 D hD => ?_⟩
          obtain ⟨asw, Sw, subw⟩ := S1.wiped vs
          have hDa : ∀ b, b ∈ as1 → b ≠ D := fun b m e => by
            obtain ⟨u, z⟩ := S1.env.there b m
            rw [e, hD] at z; cases z
          have E0 : Ext F1 as1 H1 F1 (D :: as1) (upd H1 D (.lst [])) := Ext.newO hD
          let Wn : Nat → Hp → Prop := fun i H => ∃ F' as' ρ3 acc accD rest, Sit K F' B H ρ3 (wipe σ vs) as' ∧ H D = some (.lst acc) ∧ RepL K F' H accD acc ∧ D ∉ as' ∧ ¬ F' D ∧ compD vs h tt te (items.drop i) ρ3 = some (rest, ρ2) ∧ accD ++ rest = ys ∧ ItOk K J items F' H ∧
            Stb F1 H1 F' H ∧ Ext F1 as1 H1 F' (D :: as') H
          have start : Wn 0 (upd H1 D (.lst [])) := by
            refine ⟨F1, asw, wipeE ρ1 vs, [], [], ys, ⟨Sw.env.stb E0.stb (Kept.of fun b u h => by rw [upd_ne (ne_of_none h hD)]; exact h), Sw.nd, Sw.nf, E0.fk S1.fk⟩, upd_same, RepL.nil, fun m => hDa D (subw.subset m) rfl, fun f => S1.fk D f hD, by simpa using q2, rfl, I1.stb E0.stb, E0.stb, E0.sub fun b m => ?_⟩
            rcases List.mem_cons.mp m with m | m
            · rw [m]; exact List.mem_cons_self
            · exact List.mem_cons_of_mem _ (subw.subset m)
          refine ⟨fun i m H => m = items.length - i ∧ i ≤ items.length ∧ Wn i H, ⟨items.length, rfl, Nat.zero_le _, start⟩, ?_⟩
          rintro i m H2 ⟨rfl, hi, F2, as2, ρ3, acc, accD, rest, S2, hD2, rA, nD, fD, e2, eys, I2, st2, E2⟩
          have IJ := I2 F2 H2 .refl S2.fk i
          by_cases hlt : i < items.length
          · obtain ⟨d, hd, hdr⟩ := drop_cons hlt
            rw [hdr] at e2
            unfold compD at e2
            obtain ⟨go, step⟩ := IJ.1 d hd
            refine .inr ⟨go, Wn (i + 1), fun H' w => ⟨_, by omega, rfl, hlt, w⟩, fun x H3 y => ?_⟩
            obtain ⟨F3, E3, r3⟩ := step x H3 y
            have S3 := S2.step E3
            split at e2
            · rename_i ρ4 q4
              refine ⟨F3, B, as2, ρ3, d, ρ4, S3, r3, q4, fun σ5 H5 F5 as5 l5 n5 E5 S5 => ?_⟩
              have w5 : wipe σ5 vs = wipe σ vs := wipe_at (by rw [l5, wipe_length]) fun j hj => n5 j fun m => hj (hts j m)
              refine ⟨w5, ?_⟩
              -- what is kept of the new list
              have keepD : ∀ {Fa Fb : Addr → Prop} {aa ab : List Addr} {Ha Hb : Hp}, Ext Fa aa Ha Fb ab Hb → D ∉ aa → ¬ Fa D → ∀ u, Ha D = some u → Hb D = some u ∧ D ∉ ab ∧ ¬ Fb D := fun {Fa Fb aa ab Ha Hb} E n f u h => by
                refine ⟨E.keep D u h n, fun m => ?_, fun m => ?_⟩
                · rcases E.anew D m with z | z
                  · exact n z
                  · rw [h] at z; cases z
                · rcases E.fnew D m with z | z | z
                  · exact f z
                  · exact n z
                  · rw [h] at z; cases z
              obtain ⟨hD3, nD3, fD3⟩ := keepD (E3.pure (as := as2)) nD fD _ hD2
              obtain ⟨hD5, nD5, fD5⟩ := keepD E5 nD3 fD3 _ hD3
              have endw : ∀ {F6 : Addr → Prop} {as6 : List Addr} {H6 : Hp} {ρ6 : Env} {acc6 : List V} {accD6 rest6 : List DV.D}, Sit K F6 B H6 ρ6 σ5 as6 → H6 D = some (.lst acc6) → RepL K F6 H6 accD6 acc6 → D ∉ as6 → ¬ F6 D → compD vs h tt te (items.drop (i + 1)) (wipeE ρ6 vs) = some (rest6, ρ2) → accD6 ++ rest6 = ys →
                  Stb F2 H2 F6 H6 → Ext F2 (D :: as2) H2 F6 (D :: as6) H6 → Wn (i + 1) H6 := fun {F6 as6 H6 ρ6 acc6 accD6 rest6} S6 h6 r6 n6 f6 c6 y6 s6 E6 => by
                obtain ⟨as7, S7, sub7⟩ := S6.wiped vs
                rw [w5] at S7
                refine ⟨F6, as7, wipeE ρ6 vs, acc6, accD6, rest6, S7, h6, r6, fun m => n6 (sub7.subset m), f6, c6, y6, I2.stb s6, st2.trans s6, (E2.trans E6).sub fun b m => ?_⟩
                rcases List.mem_cons.mp m with m | m
                · rw [m]; exact List.mem_cons_self
                · exact List.mem_cons_of_mem _ (sub7.subset m)
              have wide : ∀ {Fa Fb : Addr → Prop} {aa ab : List Addr} {Ha Hb : Hp}, Ext Fa aa Ha Fb ab Hb → Ext Fa (D :: aa) Ha Fb (D :: ab) Hb := fun {Fa Fb aa ab Ha Hb} E => Ext.frameL (fr := [D]) E
              split at e2
              · rename_i ρ5 q5
                split at e2
                · rename_i yd ρ6 q6
                  split at e2
                  · rename_i ys2 ρ7 q7
                    cases e2
                    refine ⟨F5, B, as5, ρ4, true, ρ5, S5, q5, fun H6 F6 as6 E6 S6 => ?_⟩
                    simp only [if_true]
                    obtain ⟨hD6, nD6, fD6⟩ := keepD E6 nD5 fD5 _ hD5
                    refine ⟨F6, B, as6, ρ5, yd, ρ6, S6, q6, fun v H7 F7 as7 E7 S7 r7 => ?_⟩
                    obtain ⟨hD7, nD7, fD7⟩ := keepD E7 nD6 fD6 _ hD6
                    have s7 : Stb F2 H2 F7 H7 := ((E3.stb.trans E5.stb).trans E6.stb).trans E7.stb
                    have rA7 := RepL.stb s7 _ _ rA
                    have alen : acc.length < sizeLine := by
                      rw [rA.length]
                      refine sz_lt (Nat.le_trans ?_ hz)
                      rw [← eys, List.length_append]
                      omega
                    refine ⟨acc, hD7, alen, ?_⟩
                    have Ew : Ext F7 (D :: as7) H7 F7 (D :: as7) (upd H7 D (.lst (acc ++ [v]))) := Ext.write hD7 (fun _ z => by cases z) (fun _ _ z => by cases z) List.mem_cons_self fD7
                    have S8 : Sit K F7 B (upd H7 D (.lst (acc ++ [v]))) ρ6 σ5 as7 :=
                      ⟨S7.env.stb Ew.stb fun b m u hb => by rw [upd_ne (fun e => nD7 (by rw [← e]; exact m))]; exact hb, S7.nd, S7.nf, Ew.fk S7.fk⟩
                    exact endw (accD6 := accD ++ [yd]) (rest6 := ys2) S8 upd_same (RepL.stb Ew.stb _ _ (rA7.append (RepL.cons r7 RepL.nil))) nD7 fD7 q7 (by rw [List.append_assoc]; exact eys) (s7.trans Ew.stb)
                      (((((wide (E3.pure (as := as2))).trans (wide E5)).trans (wide E6)).trans (wide E7)).trans Ew)
                  · cases e2
                · cases e2
              · rename_i ρ5 q5
                refine ⟨F5, B, as5, ρ4, false, ρ5, S5, q5, fun H6 F6 as6 E6 S6 => ?_⟩
                simp only [Bool.false_eq_true, if_false]
                obtain ⟨hD6, nD6, fD6⟩ := keepD E6 nD5 fD5 _ hD5
                have s6 : Stb F2 H2 F6 H6 := (E3.stb.trans E5.stb).trans E6.stb
                exact endw S6 hD6 (RepL.stb s6 _ _ rA) nD6 fD6 e2 eys s6 (((wide (E3.pure (as := as2))).trans (wide E5)).trans (wide E6))
              · cases e2
            · cases e2
          · have e3 : i = items.length := by omega
            subst e3
            rw [List.drop_length] at e2
            unfold compD at e2
            cases e2
            rw [List.append_nil] at eys
            subst eys
            refine .inl ⟨IJ.2 (Nat.le_refl _), ?_⟩
            obtain ⟨as3, h3, sub3⟩ := backE_env S1.env st2 hok S2.env (fun j hj => wipe_off hj) (wipe_length _ _)
            have nD3 : D ∉ as3 := fun m => nD (sub3.subset m)
            refine k _ H2 F2 as3 [D] ((E1.trans E2).sub fun b m => ?_) ⟨h3, List.nodup_cons.mpr ⟨nD3, S2.nd.sublist sub3⟩, fun b m => ?_, S2.fk, ?_⟩
            · rcases List.mem_cons.mp m with m | m
              · rw [m]; exact List.mem_cons_self
              · exact List.mem_cons_of_mem _ (sub3.subset m)
            · rcases List.mem_cons.mp m with m | m
              · rw [m]; exact fD
              · exact S2.nf b (sub3.subset m)
            · simp only [if_true]
              unfold Own OwnC
              exact ⟨D, acc, rfl, hD2, rA, rfl⟩
        · cases e
      · cases e
    · cases e
  · cases e
section
variable {X : Cx}
def tYesD : FT := fun ρ => some (true, ρ)
theorem PTs.to {ifs : List Expr} {t t' : TT} (h : PTs X ifs t) (c : ∀ σ H Q, t' σ H Q → t σ H Q) : PTs X ifs t' := ⟨fun pins s σ H Q I hq => h.run pins s σ H Q I (c σ H Q hq)⟩
theorem cts_nil : PTs X [] (tB (kc X) tYesD) := PTs.to pts_nil fun σ H Q ⟨F, B, as, ρ, b, ρ', S, e, k⟩ => by
  cases e; exact k H F as .refl S
theorem cts_one {c : Expr} {g : FT} (h : PT X c (tB (kc X) g)) : PTs X [c] (tB (kc X) g) := pts_one h
theorem cw_lc {elt tg iter : Expr} {ifs : List Expr} {scope : Scope} {own : List (Str × Nat)} {pos : Pos} {ts : List Nat} {gi : FL} {h : FG} {tt : FT} {te : FD} (hc : X.calm = true) (hN : X.N.Nodup) (hi : PI X tg iter (tI (kc X) gi)) (ok : BlkOk X.N X.env.scope scope own) (hts : ∀ j, j ∈ ts → j ∈ own.map (·.2))
    (hg : ∀ (s : Shared) (H : Hp) (C : Addr) (cl : List (Str × Addr)) (fp : List Addr), PG (X.blk s H scope (compEnvC scope cl C X.env) fp) tg (tG (kc X) ts h)) (ht : ∀ (s : Shared) (H : Hp) (C : Addr) (cl : List (Str × Addr)) (fp : List Addr), PTs (X.blk s H scope (compEnvC scope cl C X.env) fp) ifs (tB (kc X) tt))
    (he : ∀ (s : Shared) (H : Hp) (C : Addr) (cl : List (Str × Addr)) (fp : List Addr), PE (X.blk s H scope (compEnvC scope cl C X.env) fp) elt (tD (kc X) te)) (hs : ∀ x, foldedSetIterable iter X.env x = pure x := by intro _; rfl) :
    PE X (.ListComp elt [⟨tg, iter, ifs, 0⟩] scope pos) (tW (kc X) (gComp (own.map (·.2)) gi h tt te)) :=
  PE.to (pe_lc hc hN hi ok hg ht he hs) fun σ H Q hq => comp_fit hts hq
theorem cs_setLc {i : Nat} {y : Str} {py : Pos} {elt tg iter : Expr} {ifs : List Expr} {scope : Scope} {own : List (Str × Nat)} {pos spos : Pos} {ts : List Nat} {gi : FL} {h : FG} {tt : FT} {te : FD} (hc : X.calm = true) (hN : X.N.Nodup) (hy : X.N[i]? = some y) (hyl : X.env.scope.names.lookup y = some .local)
    (hsw : swapsWith (.ListComp elt [⟨tg, iter, ifs, 0⟩] scope pos) (some (.Name y py)) spos.line X.env = pure true) (hi : PI X tg iter (tI (kc X) gi)) (ok : BlkOk X.N X.env.scope scope own) (hts : ∀ j, j ∈ ts → j ∈ own.map (·.2))
    (hg : ∀ (s : Shared) (H : Hp) (C : Addr) (cl : List (Str × Addr)) (fp : List Addr), PG (X.blk s H scope (compEnvC scope cl C X.env) fp) tg (tG (kc X) ts h)) (ht : ∀ (s : Shared) (H : Hp) (C : Addr) (cl : List (Str × Addr)) (fp : List Addr), PTs (X.blk s H scope (compEnvC scope cl C X.env) fp) ifs (tB (kc X) tt))
    (he : ∀ (s : Shared) (H : Hp) (C : Addr) (cl : List (Str × Addr)) (fp : List Addr), PE (X.blk s H scope (compEnvC scope cl C X.env) fp) elt (tD (kc X) te)) (hs : ∀ x, foldedSetIterable iter X.env x = pure x := by intro _; rfl) :
    PS X (.Assign [.Name y py] (.ListComp elt [⟨tg, iter, ifs, 0⟩] scope pos) spos) (tS (kc X) (gSet i (gComp (own.map (·.2)) gi h tt te))) :=
  PS.to (ps_setLc hc hN hy hyl hsw hi ok hg ht he hs) fun D σ H ⟨F, B, as, ρ, fl, ρ', S, e, k⟩ => by
    obtain ⟨d, w, ρ1, e1, e2, rfl⟩ := gSet_some e
    refine comp_fit hts ⟨F, B, as, ρ, d, w, ρ1, S, e1, fun v H1 F1 as1 bs E1 S1 => ?_⟩
    obtain ⟨as2, S2, m⟩ := S1.bind e2
    exact k _ H1 F1 as2 (E1.sub m) S2
end
end DV

/-! DV7: a def's body; stores into own lists and dicts. -/
namespace DV
open L2 PySem PySem.Spec PyProof.Rows

/-! ### a def -/
inductive BB : List Bool → List V → List Addr → Prop where
  | nil : BB [] [] []
  | t {bo vs as a} (h : BB bo vs as) : BB (true :: bo) (.ref a :: vs) (a :: as)
  | f {bo vs as v} (h : BB bo vs as) : BB (false :: bo) (v :: vs) as
theorem Own.ref {K : Kc} {F : Addr → Prop} {H : Hp} {d : D} {v : V} {as : List Addr} (h : Own K F H d v as) : ∃ a, v = .ref a := by
  cases d <;> unfold Own at h
  case lst => unfold OwnC at h; obtain ⟨a, _, e, _⟩ := h; exact ⟨a, e⟩
  case dic => unfold OwnC at h; obtain ⟨a, _, e, _⟩ := h; exact ⟨a, e⟩
  case ins => obtain ⟨a, _, _, _, _, e, _⟩ := h; exact ⟨a, e⟩
  all_goals (unfold OwnC at h; exact h.elim)
theorem ArgR.bb {K : Kc} {F : Addr → Prop} {H : Hp} : ∀ {bo : List Bool} {ds : List D} {vs : List V} {as : List Addr}, ArgR K F H bo ds vs as → ∃ B, BB bo vs B
  | [], [], vs, as, h => by unfold ArgR at h; obtain ⟨rfl, _⟩ := h; exact ⟨[], .nil⟩
  | true :: bo, d :: ds, vs, as, h => by
    unfold ArgR at h
    obtain ⟨v, r, a1, a2, rfl, _, ho, h⟩ := h
    obtain ⟨a, rfl⟩ := ho.ref
    obtain ⟨B, hB⟩ := ArgR.bb h
    exact ⟨_, .t hB⟩
  | false :: bo, d :: ds, vs, as, h => by
    unfold ArgR at h
    obtain ⟨v, r, rfl, _, h⟩ := h
    obtain ⟨B, hB⟩ := ArgR.bb h
    exact ⟨_, .f hB⟩
  | [], _ :: _, _, _, h => by unfold ArgR at h; exact h.elim
  | true :: _, [], _, _, h => by unfold ArgR at h; exact h.elim
  | false :: _, [], _, _, h => by unfold ArgR at h; exact h.elim
def env0 : List Bool → List D → Nat → Env
  | true :: bo, d :: ds, k => .bo k d :: env0 bo ds (k + 1)
  | false :: bo, d :: ds, k => .sh d :: env0 bo ds k
  | _, _, _ => []
def finB : List Bool → Nat → Env → Option (List D)
  | [], _, _ => some []
  | true :: bo, k, .bo k' d :: ρ => if k' = k then match finB bo (k + 1) ρ with
      | some ds => some (d :: ds)
      | none => none
    else none
  | false :: bo, k, _ :: ρ => finB bo k ρ
  | _, _, _ => none
theorem env_nos {K : Kc} {F : Addr → Prop} {B : List Addr} {H : Hp} : ∀ n : Nat, EnvR K F B H (List.replicate n .no) (List.replicate n none) []
  | 0 => by unfold EnvR; exact ⟨rfl, rfl⟩
  | n + 1 => by
    show EnvR K F B H (.no :: List.replicate n .no) (none :: List.replicate n none) []
    unfold EnvR
    exact ⟨none, _, [], [], rfl, rfl, by unfold SlR; rfl, env_nos n⟩
theorem env_start {K : Kc} {F : Addr → Prop} {B : List Addr} {H : Hp} {n : Nat} : ∀ {bo : List Bool} {ds : List D} {vs : List V} {as Bs : List Addr} {k : Nat}, ArgR K F H bo ds vs as → BB bo vs Bs → (∀ j a, Bs[j]? = some a → B[k + j]? = some a) →
    EnvR K F B H (env0 bo ds k ++ List.replicate n .no) (vs.map some ++ List.replicate n none) as
  | [], [], vs, as, Bs, k, h, hb, hB => by
    unfold ArgR at h
    obtain ⟨rfl, rfl⟩ := h
    simpa [env0] using env_nos n
  | true :: bo, d :: ds, vs, as, Bs, k, h, hb, hB => by
    unfold ArgR at h
    obtain ⟨v, r, a1, a2, rfl, rfl, ho, h⟩ := h
    cases hb with
    | t hb =>
      rename_i Br a
      show EnvR K F B H (.bo k d :: (env0 bo ds (k + 1) ++ List.replicate n .no)) (some (.ref a) :: (r.map some ++ List.replicate n none)) (a1 ++ a2)
      unfold EnvR
      refine ⟨_, _, a1, a2, rfl, rfl, ?_, env_start h hb fun j x hx => ?_⟩
      · unfold SlR
        exact ⟨a, rfl, by simpa using hB 0 a rfl, ho⟩
      · have := hB (j + 1) x (by simpa using hx)
        rwa [show k + 1 + j = k + (j + 1) by omega]
  | false :: bo, d :: ds, vs, as, Bs, k, h, hb, hB => by
    unfold ArgR at h
    obtain ⟨v, r, rfl, ho, h⟩ := h
    cases hb with
    | f hb =>
      show EnvR K F B H (.sh d :: (env0 bo ds k ++ List.replicate n .no)) (some v :: (r.map some ++ List.replicate n none)) as
      unfold EnvR
      exact ⟨_, _, [], as, rfl, rfl, by unfold SlR; exact ⟨rfl, v, rfl, ho⟩, env_start h hb hB⟩
  | [], _ :: _, _, _, _, _, h, _, _ => by unfold ArgR at h; exact h.elim
  | true :: _, [], _, _, _, _, h, _, _ => by unfold ArgR at h; exact h.elim
  | false :: _, [], _, _, _, _, h, _, _ => by unfold ArgR at h; exact h.elim
theorem env_fin {K : Kc} {F : Addr → Prop} {B : List Addr} {H : Hp} : ∀ {bo : List Bool} {ds : List D} {vs : List V} {as Bs : List Addr} {k : Nat} {ρ : Env} {σ : L2.St}, EnvR K F B H ρ σ as → BB bo vs Bs → (∀ j a, Bs[j]? = some a → B[k + j]? = some a) → finB bo k ρ = some ds →
    ∃ as', BorR K F H bo ds vs as' ∧ as'.Sublist as
  | [], ds, vs, as, Bs, k, ρ, σ, h, hb, hB, e => by
    unfold finB at e
    cases e
    cases hb
    exact ⟨[], by unfold BorR; exact ⟨rfl, rfl, rfl⟩, List.nil_sublist _⟩
  | true :: bo, ds, vs, as, Bs, k, ρ, σ, h, hb, hB, e => by
    cases ρ with
    | nil => simp [finB] at e
    | cons x ρ =>
      cases x with
      | bo k' d =>
        simp only [finB] at e
        split at e
        · rename_i hk
          subst hk
          split at e
          · rename_i ds' q
            cases e
            unfold EnvR at h
            obtain ⟨o, r, a1, a2, rfl, rfl, hs, h⟩ := h
            unfold SlR at hs
            obtain ⟨a, rfl, ha, ho⟩ := hs
            cases hb with
            | t hb =>
              rename_i vs' Br a'
              have := hB 0 a' rfl
              simp only [Nat.add_zero] at this
              rw [ha] at this
              cases this
              obtain ⟨as', h1, h2⟩ := env_fin h hb (fun j x hx => by
                have := hB (j + 1) x (by simpa using hx)
                rwa [show k' + 1 + j = k' + (j + 1) by omega]) q
              exact ⟨a1 ++ as', by unfold BorR; exact ⟨d, ds', .ref a, vs', a1, as', rfl, rfl, rfl, ho, h1⟩, List.Sublist.append (List.Sublist.refl _) h2⟩
          · cases e
        · cases e
      | _ => simp [finB] at e
  | false :: bo, ds, vs, as, Bs, k, ρ, σ, h, hb, hB, e => by
    cases ρ with
    | nil => simp [finB] at e
    | cons x ρ =>
      have e : finB bo k ρ = some ds := e
      unfold EnvR at h
      obtain ⟨o, r, a1, a2, rfl, rfl, hs, h⟩ := h
      cases hb with
      | f hb =>
        rename_i vs' v
        obtain ⟨as', h1, h2⟩ := env_fin h hb hB e
        exact ⟨as', by unfold BorR; exact ⟨v, vs', rfl, h1⟩, h2.trans (List.sublist_append_right _ _)⟩
/-- what a def with this body computes -/
def runG (bo : List Bool) (n : Nat) (g : FS) : FnD := fun ds => match g (env0 bo ds 0 ++ List.replicate (n - ds.length) .no) with
  | some (.rt d w, ρ) => match finB bo 0 ρ with
    | some ds' => some (d, w, ds')
    | none => none
  | some (.nx, ρ) => match finB bo 0 ρ with
    | some ds' => some (.non, false, ds')
    | none => none
  | _ => none
theorem ArgR.len {K : Kc} {F : Addr → Prop} {H : Hp} : ∀ {bo : List Bool} {ds : List D} {vs : List V} {as : List Addr}, ArgR K F H bo ds vs as → vs.length = ds.length
  | [], [], _, _, h => by unfold ArgR at h; rw [h.1] <;> rfl
  | true :: bo, d :: ds, _, _, h => by unfold ArgR at h; obtain ⟨v, r, a1, a2, rfl, _, _, h⟩ := h; simp [ArgR.len h]
  | false :: bo, d :: ds, _, _, h => by unfold ArgR at h; obtain ⟨v, r, rfl, _, h⟩ := h; simp [ArgR.len h]
  | [], _ :: _, _, _, h => by unfold ArgR at h; exact h.elim
  | true :: _, [], _, _, h => by unfold ArgR at h; exact h.elim
  | false :: _, [], _, _, h => by unfold ArgR at h; exact h.elim
theorem body_fit {K : Kc} {bo : List Bool} {n : Nat} {g : FS} {vs : List V} {H : Hp} {Q : VK} {E : XK} {N : List Str} (hn : N.length = n) (h : spD K bo (runG bo n g) vs H Q E) : tS K g { nx := fun _ H' => Q .non H', rt := Q } (start N vs) H := by
  obtain ⟨F, as, ds, d, w, ds', hA, nd, nf, fk, hg, k⟩ := h
  obtain ⟨Bs, hB⟩ := hA.bb
  have env := env_start (n := N.length - vs.length) (B := Bs) (k := 0) hA hB fun j a h => by simpa using h
  have lv := hA.len
  rw [← hn] at hg
  unfold runG at hg
  rw [← lv] at hg
  have S : Sit K F Bs H (env0 bo ds 0 ++ List.replicate (N.length - vs.length) .no) (start N vs) as := ⟨env, nd, nf, fk⟩
  have back : ∀ {F' : Addr → Prop} {as' bs : List Addr} {H' : Hp} {ρ : Env} {σ' : L2.St} {d : D} {w : Bool} {v : V} {ds' : List D}, finB bo 0 ρ = some ds' → Ext F as H F' (bs ++ as') H' → Sit2 K F' Bs H' ρ σ' as' d w v bs →
      (∀ v H' F' as' bs, Ext F as H F' (bs ++ as') H' → BorR K F' H' bo ds' vs as' → (bs ++ as').Nodup → (∀ a, a ∈ bs ++ as' → ¬ F' a) → (∀ b, F' b → H' b ≠ none) → (if w = true then Own K F' H' d v bs else bs = [] ∧ Rep K F' H' d v) → Q v H') → Q v H' :=
    fun {F' as' bs H' ρ σ' d w v ds'} e E S2 k => by
      obtain ⟨as2, h1, h2⟩ := env_fin S2.env hB (k := 0) (fun j a h => by simpa using h) e
      have sub : (bs ++ as2).Sublist (bs ++ as') := List.Sublist.append (List.Sublist.refl _) h2
      exact k v H' F' as2 bs (E.sub fun b m => sub.subset m) h1 (S2.nd.sublist sub) (fun a m => S2.nf a (sub.subset m)) S2.fk S2.res
  split at hg
  · rename_i d' w' ρ q
    split at hg
    · rename_i ds2 q2
      cases hg
      exact ⟨F, Bs, as, _, .rt d w, ρ, S, q, fun v σ' H' F' as' bs E S2 => back q2 E S2 k⟩
    · cases hg
  · rename_i ρ q
    split at hg
    · rename_i ds2 q2
      cases hg
      exact ⟨F, Bs, as, _, .nx, ρ, S, q, fun σ' H' F' as' E S2 => back (bs := []) (w := false) (v := .non) q2 E ⟨S2.env, S2.nd, S2.nf, S2.fk, by simp [Rep.non']⟩ k⟩
    · cases hg
  · cases hg
section
variable {P : Program} {w : World} {K : PySem.W.Frag} {mg : Str → Option Value} {base : Heap}
abbrev bodyX (P : Program) (w : World) (K : PySem.W.Frag) (mg : Str → Option Value) (base : Heap) (N : List Str) (qual : Str) (sc : Scope) (f : Addr) (cdv : Value) (A : Around) (outer : List PySem.Env) (s : Shared) (H : Hp) (E : XK) : Cx := (cxOf CX0 P w K mg base N qual sc f cdv A outer s H E).nox
theorem fn_ok {x qual : Str} {st : Stmt} {f : Addr} {fd : FuncData} {N ps : List Str} {k n : Nat} {bo : List Bool} {g : FS} (F : Fun K x qual st f fd) (S : FnScope N ps (defScope st)) (hb : bo.length = ps.length) (hn : N.length = n)
    (hbody : ∀ (cdv : Value) (A : Around) (outer : List PySem.Env) (s : Shared) (H : Hp) (E : XK), Room k (A.deeper (envOfC qual (defScope st) s.heap.objs.size f cdv)) → PSs (bodyX P w K mg base N qual (defScope st) f cdv A outer s H E) (defBody st) (tS ⟨K, mg⟩ g)) :
    FnOk P w K mg base CX0 (k + 1) f fd ps (spD ⟨K, mg⟩ bo (runG bo n g)) :=
  F.ok S (fun vs H Q E h => by obtain ⟨F, as, ds, d, w, ds', hA, _⟩ := h; rw [hA.length, hb]) fun cdv A outer s H vs Q E hr h => ⟨_, hbody cdv A outer s H E hr, body_fit hn h⟩
theorem fn_zero {f : Addr} {fd : FuncData} {ps : List Str} {bo : List Bool} {G : FnD} (hG : ∀ ds, G ds = none) : FnOk P w K mg base CX0 0 f fd ps (spD ⟨K, mg⟩ bo G) := by
  have no : ∀ vs H Q E, ¬ spD ⟨K, mg⟩ bo G vs H Q E := fun vs H Q E h => by
    obtain ⟨F, as, ds, d, w, ds', _, _, _, _, e, _⟩ := h
    rw [hG] at e; cases e
  exact ⟨fun vs H Q E h => absurd h (no vs H Q E), fun A outer s H args us vs Q E _ _ _ _ h => absurd h (no vs H Q E)⟩
end

/-! ### o[i] = e, o an own list or dict -/
def dputV (ks vs : List D) (k d : D) : List D := List.zipWith (fun k' v => if eqKey k' k = true then d else v) ks vs
def putD : D → D → D → Option D
  | .lst xs, .int i, d => match ixN xs.length i with
    | some j => some (.lst (xs.set j d))
    | none => none
  | .dic ks vs, k, d => if isKey k = true ∧ ks.length < SZ then
      (if (ks.any fun k' => eqKey k' k) = true then some (.dic ks (dputV ks vs k d)) else some (.dic (ks ++ [k]) (vs ++ [d]))) else none
  | _, _, _ => none
theorem any_key (key : Key) : ∀ kvs : List (Key × V), ((kvs.map fun p => dkey p.1).any fun k' => eqKey k' (dkey key)) = kvs.any fun kv => decide (kv.1 = key)
  | [] => rfl
  | p :: kvs => by
    simp only [List.map_cons, List.any_cons, any_key key kvs, eqKey_iff]
theorem dput_some {K : Kc} {F : Addr → Prop} {H : Hp} {d : D} {v : V} {key : Key} (r : Rep K F H d v) : ∀ {kvs : List (Key × V)} {ds : List D}, RepL K F H ds (kvs.map (·.2)) →
    RepL K F H (dputV (kvs.map fun p => dkey p.1) ds (dkey key) d) ((kvs.map fun kv => if kv.1 = key then (kv.1, v) else kv).map (·.2))
  | [], ds, h => by
    have : ds = [] := List.eq_nil_of_length_eq_zero (by have := h.length; simpa using this.symm)
    subst this
    exact RepL.nil
  | (k', v') :: kvs, [], h => by unfold RepL at h; simp at h
  | (k', v') :: kvs, d' :: ds, h => by
    unfold RepL at h
    obtain ⟨u, r', e, h1, h2⟩ := h
    simp only [List.map_cons, List.cons.injEq] at e
    obtain ⟨rfl, rfl⟩ := e
    have ih := dput_some r (key := key) h2
    unfold dputV at ih ⊢
    simp only [List.map_cons, List.zipWith_cons_cons, eqKey_iff, decide_eq_true_eq]
    refine RepL.cons ?_ ih
    by_cases e : k' = key
    · simp only [if_pos e]; exact r
    · simp only [if_neg e]; exact h1
theorem put_keys {key : Key} {v : V} : ∀ kvs : List (Key × V), (kvs.map fun kv => if kv.1 = key then (kv.1, v) else kv).map (fun p => dkey p.1) = kvs.map fun p => dkey p.1
  | [] => rfl
  | (k', v') :: kvs => by
    simp only [List.map_cons, put_keys kvs]
    by_cases e : k' = key <;> simp [e]
def rSetAll : V → V → V → Hp → (Hp → Prop) → Prop := fun o i v H Q => rSetL o i v H Q ∨ ∃ a H', o = .ref a ∧ DPut H a i v H' ∧ Q H'
theorem set_all {X : Cx} (hu : X.A.units + 1 < cLine) : PSet X rSetAll := by
  intro pins s σ H o i v ov iv u Q I ro ri rv h
  rcases h with h | ⟨a, H', e1, g, q⟩
  · exact set_list pins s σ H o i v ov iv u Q I ro ri rv h
  · subst e1
    cases ro
    exact d_setItem hu I g ri rv fun s' I' => ⟨H', I', q⟩
/-- a place of an own thing is written -/
theorem put_fit {K : Kc} {F : Addr → Prop} {H : Hp} {c k d c' : D} {vo vk vd : V} {a : List Addr} {Q : Hp → Prop} (ho : Own K F H c vo a) (rk : Rep K F H k vk) (rd : Rep K F H d vd) (e : putD c k d = some c')
    (fin : ∀ b o u, a = [b] → H b = some u → (∀ vs, u ≠ .tup vs) → (∀ q w, u ≠ .frz q w) → (Stb F H F (upd H b o) → Own K F (upd H b o) c' vo a) → Q (upd H b o)) : rSetAll vo vk vd H Q := by
  unfold putD at e
  split at e
  · split at e
    · rename_i xs i _ j q
      cases e
      unfold Own OwnC at ho
      obtain ⟨b, vs, rfl, h1, h2, rfl⟩ := ho
      unfold Rep at rk
      subst rk
      refine .inl ⟨b, vs, i, j, rfl, rfl, h1, by rw [h2.length]; exact q, fin b _ _ rfl h1 (fun _ z => by cases z) (fun _ _ z => by cases z) fun s => ?_⟩
      unfold Own OwnC
      exact ⟨b, _, rfl, upd_same, RepL.stb s _ _ (RepL.set rd j h2), rfl⟩
    · cases e
  · split at e
    · rename_i hk
      obtain ⟨key, rfl⟩ := isKey_to hk.1
      unfold Own OwnC at ho
      obtain ⟨b, kvs, rfl, h1, rfl, h2, rfl⟩ := ho
      cases (Vw.key rk.vw)
      refine .inr ⟨b, _, rfl, DPut.k h1 (by have := hk.2; rw [List.length_map] at this; exact sz_lt (by omega)), fin b _ _ rfl h1 (fun _ z => by cases z) (fun _ _ z => by cases z) fun s => ?_⟩
      rw [any_key] at e
      unfold Own OwnC
      split at e
      · rename_i hh
        cases e
        refine ⟨b, _, rfl, upd_same, ?_, ?_, rfl⟩
        · unfold putK
          rw [if_pos hh, put_keys]
        · refine RepL.stb s _ _ ?_
          unfold putK
          rw [if_pos hh]
          exact dput_some rd h2
      · rename_i hh
        cases e
        refine ⟨b, _, rfl, upd_same, ?_, ?_, rfl⟩
        · unfold putK
          rw [if_neg hh, List.map_append]
          rfl
        · refine RepL.stb s _ _ ?_
          unfold putK
          rw [if_neg hh, List.map_append]
          exact h2.append (RepL.cons rd RepL.nil)
    · cases e
  · cases e
def gPut (i : Nat) (ge gk : FD) : FS := fun ρ => match ge ρ with
  | some (d, ρ1) => match look ρ1 i with
    | some _ => match gk ρ1 with
      | some (k, ρ2) => match ρ2[i]? with
        | some (.ow c) => match putD c k d with
          | some c' => some (.nx, ρ2.set i (.ow c'))
          | none => none
        | some (.bo n c) => match putD c k d with
          | some c' => some (.nx, ρ2.set i (.bo n c'))
          | none => none
        | _ => none
      | none => none
    | none => none
  | none => none
theorem gPut_some {i : Nat} {ge gk : FD} {ρ ρ' : Env} {fl : Fl} (h : gPut i ge gk ρ = some (fl, ρ')) : fl = .nx ∧ ∃ d ρ1 z k ρ2 x c c', ge ρ = some (d, ρ1) ∧ look ρ1 i = some z ∧ gk ρ1 = some (k, ρ2) ∧ ρ2[i]? = some x ∧ (x = .ow c ∨ ∃ n, x = .bo n c) ∧ putD c k d = some c' ∧ ρ' = ρ2.set i (reSl x c') := by
  unfold gPut at h
  split at h
  · rename_i d ρ1 q1
    split at h
    · rename_i z q2
      split at h
      · rename_i k ρ2 q3
        split at h
        · rename_i c q4
          split at h
          · rename_i c' q5; cases h; exact ⟨rfl, d, ρ1, z, k, ρ2, _, c, c', q1, q2, q3, q4, .inl rfl, q5, rfl⟩
          · cases h
        · rename_i n c q4
          split at h
          · rename_i c' q5; cases h; exact ⟨rfl, d, ρ1, z, k, ρ2, _, c, c', q1, q2, q3, q4, .inr ⟨n, rfl⟩, q5, rfl⟩
          · cases h
        · cases h
      · cases h
    · cases h
  · cases h
/-- an own thing of a name has changed in place -/
theorem Sit.write {K : Kc} {F : Addr → Prop} {B : List Addr} {H : Hp} {ρ : Env} {σ : L2.St} {as : List Addr} (S : Sit K F B H ρ σ as) {i : Nat} {x : Sl} {c c' : D} (hx : ρ[i]? = some x) (hk : x = .ow c ∨ ∃ n, x = .bo n c) {v : V} (hv : σ[i]? = some (some v)) :
    ∃ a, Own K F H c v a ∧ ∀ b o u, a = [b] → H b = some u → (∀ vs, u ≠ .tup vs) → (∀ q w, u ≠ .frz q w) → (Stb F H F (upd H b o) → Own K F (upd H b o) c' v a) → Ext F as H F as (upd H b o) ∧ Sit K F B (upd H b o) (ρ.set i (reSl x c')) σ as := by
  obtain ⟨o, p, a, q, ea, eo, hs, hr⟩ := S.env.split hx
  rw [hv] at eo
  cases eo
  subst ea
  have ow : Own K F H c v a := by
    rcases hk with rfl | ⟨n, rfl⟩
    · unfold SlR at hs; obtain ⟨v', e, r⟩ := hs; cases e; exact r
    · unfold SlR at hs; obtain ⟨v', e, _, r⟩ := hs; cases e; exact r
  refine ⟨a, ow, fun b o u ha hu h1 h2 fin => ?_⟩
  subst ha
  have hb : b ∈ p ++ ([b] ++ q) := by simp
  have E : Ext F (p ++ ([b] ++ q)) H F (p ++ ([b] ++ q)) (upd H b o) := Ext.write hu h1 h2 hb (S.nf b hb)
  obtain ⟨n1, n2⟩ := nodup_mid S.nd
  have sl : SlR K F B (upd H b o) (reSl x c') (some v) [b] := by
    rcases hk with rfl | ⟨n, rfl⟩
    · unfold reSl SlR; exact ⟨v, rfl, fin E.stb⟩
    · unfold SlR at hs
      obtain ⟨v', e, e2, r⟩ := hs
      cases e
      unfold reSl SlR
      exact ⟨v', rfl, e2, fin E.stb⟩
  have z := hr _ _ _ E.stb (fun y m u' hy => by rw [upd_ne (fun e => n2 y m (by rw [e]; simp))]; exact hy) sl
  rw [set_same hv] at z
  exact ⟨E, ⟨z, S.nd, S.nf, E.fk S.fk⟩⟩
section
variable {X : Cx} {pos pos' : Pos}
theorem cs_put {i : Nat} {x : Str} {p : Pos} {ix e : Expr} {ge gk : FD} (hu : X.A.units + 1 < cLine) (hN : X.N[i]? = some x) (hv : Vis X.env.scope x) (he : PE X e (tD (kc X) ge)) (hi : PE X ix (tD (kc X) gk)) (hd : (x == ("__debug__" : Str)) = false := by decide)
    (hcd : (x == ("__classdict__" : Str)) = false := by decide)
    (ha : ∀ v, assign (.Subscript (.Name x p) ix pos') X.env v = (do
      let ov ← holding [v] (eval (.Name x p) X.env)
      let iv ← holding [v, ov] (eval ix X.env)
      standAt pos'
      holding [v, ov, iv] (setItem ov iv v)
      release [v, ov, iv] []) := by intro _; rfl)
    (hs : swapsWithSole [.Subscript (.Name x p) ix pos'] e pos.line X.env = pure false := by rfl) (hw : swappedStores [.Subscript (.Name x p) ix pos'] e X.env = pure none := by rfl)
    (h1 : (assignEach [.Subscript (.Name x p) ix pos'] X.env).map (·.2) = [assign (.Subscript (.Name x p) ix pos') X.env] := by rfl) :
    PS X (.Assign [.Subscript (.Name x p) ix pos'] e pos) (tS (kc X) (gPut i ge gk)) :=
  PS.to (ps_asg he (pg_sub (pe_var hN hv hd hcd) hi (set_all hu) ha) hs hw h1) fun D σ H ⟨F, B, as, ρ, fl, ρ', S, e, k⟩ => by
    obtain ⟨rfl, d, ρ1, z, kd, ρ2, x, c, c', e1, e2, e3, e4, e5, e6, rfl⟩ := gPut_some e
    refine ⟨F, B, as, ρ, d, ρ1, S, e1, fun vd H1 F1 as1 E1 S1 r1 => ?_⟩
    obtain ⟨vo, ev⟩ := S1.there e2
    refine ⟨vo, ev, F1, B, as1, ρ1, kd, ρ2, S1, e3, fun vk H2 F2 as2 E2 S2 r2 => ?_⟩
    obtain ⟨a, ow, fin⟩ := S2.write (c' := c') e4 e5 ev
    refine put_fit ow r2 (Rep.stb E2.stb _ _ r1) e6 fun b o u ha hu h1 h2 f => ?_
    obtain ⟨E3, S3⟩ := fin b o u ha hu h1 h2 f
    exact k σ _ F2 as2 ((E1.trans E2).trans E3) S3
end
end DV

/-! DV8: the words for built-ins, the defs of a text, the end. -/
namespace DV
open L2 PySem PySem.Spec PyProof.Rows

/-! ### the built-ins' names are not taken -/
structure Zs (mg : Str → Option Value) : Prop where
  len : mg "len" = none
  isinstance : mg "isinstance" = none
  all : mg "all" = none
  any : mg "any" = none
  tuple : mg "tuple" = none
  list : mg "list" = none
  dict : mg "dict" = none
  int : mg "int" = none
  str : mg "str" = none
  bool : mg "bool" = none
  zip : mg "zip" = none
  range : mg "range" = none
  enumerate : mg "enumerate" = none
  sorted : mg "sorted" = none
theorem boot_all' : bootBuiltins "all" = some (.builtin "all") := by decide +kernel
theorem boot_any' : bootBuiltins "any" = some (.builtin "any") := by decide +kernel
theorem boot_len' : bootBuiltins "len" = some (.builtin "len") := by decide +kernel
theorem boot_isi' : bootBuiltins "isinstance" = some (.builtin "isinstance") := by decide +kernel
theorem boot_tup' : bootBuiltins "tuple" = some (.type "tuple") := by decide +kernel
theorem boot_lst' : bootBuiltins "list" = some (.type "list") := by decide +kernel
theorem boot_int' : bootBuiltins "int" = some (.type "int") := by decide +kernel
theorem boot_str' : bootBuiltins "str" = some (.type "str") := by decide +kernel
theorem boot_bool' : bootBuiltins "bool" = some (.type "bool") := by decide +kernel
theorem boot_dict' : bootBuiltins "dict" = some (.type "dict") := by decide +kernel
theorem ru1 {k : Nat} {A : Around} (r : Room k A) : A.units + 1 < cLine := by have := r.un; omega
theorem ru64 {k : Nat} {A : Around} (r : Room k A) : A.units + 64 < cLine := by have := r.un; omega
theorem ru65 {k : Nat} {A : Around} (r : Room k A) : A.units + 65 < cLine := by have := r.un; omega
section
variable {X : Cx} {p pos : Pos} {a b : Expr} {oa ob : FO} {k : Nat}
theorem w_len (Z : Zs X.mg) (ha : PE X a (tO (kc X) oa)) (hg : Gl X "len" := by rfl) (he : starEach [a] X.env = (false, eval a X.env) :: starEach [] X.env := by rfl) : PE X (.Call (.Name "len" p) [a] [] pos) (tD (kc X) (gOp1 lenD oa)) := cd_call1 cr_len pc_len hg Z.len boot_len' ha (he := he)
theorem w_all (Z : Zs X.mg) (hc : X.calm = true) (ha : PE X a (tO (kc X) oa)) (hg : Gl X "all" := by rfl) (he : starEach [a] X.env = (false, eval a X.env) :: starEach [] X.env := by rfl) : PE X (.Call (.Name "all" p) [a] [] pos) (tD (kc X) (gOp1 allD oa)) := cd_call1 (cr_all hc) pc_all hg Z.all boot_all' ha (he := he)
theorem w_any (Z : Zs X.mg) (hc : X.calm = true) (ha : PE X a (tO (kc X) oa)) (hg : Gl X "any" := by rfl) (he : starEach [a] X.env = (false, eval a X.env) :: starEach [] X.env := by rfl) : PE X (.Call (.Name "any" p) [a] [] pos) (tD (kc X) (gOp1 anyD oa)) := cd_call1 (cr_any hc) pc_any hg Z.any boot_any' ha (he := he)
theorem w_tuple (Z : Zs X.mg) (ha : PE X a (tO (kc X) oa)) (hg : Gl X "tuple" := by rfl) (he : starEach [a] X.env = (false, eval a X.env) :: starEach [] X.env := by rfl) : PE X (.Call (.Name "tuple" p) [a] [] pos) (tD (kc X) (gOp1 tupD oa)) := cd_callT1 call_tuple_of pc_tup hg Z.tuple boot_tup' ha (he := he)
theorem w_int (Z : Zs X.mg) (ha : PE X a (tO (kc X) oa)) (hg : Gl X "int" := by rfl) (he : starEach [a] X.env = (false, eval a X.env) :: starEach [] X.env := by rfl) : PE X (.Call (.Name "int" p) [a] [] pos) (tD (kc X) (gOp1 intD oa)) := cd_callT1 call_int1 pc_int hg Z.int boot_int' ha (he := he)
theorem w_list (Z : Zs X.mg) (ha : PE X a (tO (kc X) oa)) (hg : Gl X "list" := by rfl) (he : starEach [a] X.env = (false, eval a X.env) :: starEach [] X.env := by rfl) : PE X (.Call (.Name "list" p) [a] [] pos) (tW (kc X) (gOp1W lstD oa)) := cw_callT1 call_list_of pw_lst hg Z.list boot_lst' ha (he := he)
theorem w_isi (Z : Zs X.mg) (ha : PE X a (tO (kc X) oa)) (hb : PE X b (tO (kc X) ob)) (hg : Gl X "isinstance" := by rfl) (he : starEach [a, b] X.env = (false, eval a X.env) :: starEach [b] X.env := by rfl) (he2 : starEach [b] X.env = (false, eval b X.env) :: starEach [] X.env := by rfl)
    (hpl : (backTo pos (starEach [b] X.env)).any (·.1) = false := by rfl) : PE X (.Call (.Name "isinstance" p) [a, b] [] pos) (tD (kc X) (gOp2 isiD oa ob)) := cd_isi hg Z.isinstance boot_isi' ha hb he he2 hpl
theorem ty_tuple (Z : Zs X.mg) (hg : Gl X "tuple" := by rfl) : PE X (.Name "tuple" p) (tD (kc X) fun ρ => some (.ty "tuple", ρ)) := cd_type hg Z.tuple boot_tup'
theorem ty_list (Z : Zs X.mg) (hg : Gl X "list" := by rfl) : PE X (.Name "list" p) (tD (kc X) fun ρ => some (.ty "list", ρ)) := cd_type hg Z.list boot_lst'
theorem ty_int (Z : Zs X.mg) (hg : Gl X "int" := by rfl) : PE X (.Name "int" p) (tD (kc X) fun ρ => some (.ty "int", ρ)) := cd_type hg Z.int boot_int'
theorem ty_str (Z : Zs X.mg) (hg : Gl X "str" := by rfl) : PE X (.Name "str" p) (tD (kc X) fun ρ => some (.ty "str", ρ)) := cd_type hg Z.str boot_str'
theorem ty_bool (Z : Zs X.mg) (hg : Gl X "bool" := by rfl) : PE X (.Name "bool" p) (tD (kc X) fun ρ => some (.ty "bool", ρ)) := cd_type hg Z.bool boot_bool'
theorem ty_dict (Z : Zs X.mg) (hg : Gl X "dict" := by rfl) : PE X (.Name "dict" p) (tD (kc X) fun ρ => some (.ty "dict", ρ)) := cd_type hg Z.dict boot_dict'
theorem w_add (ha : PE X a (tO (kc X) oa)) (hb : PE X b (tO (kc X) ob)) : PE X (.BinOp a .Add b pos) (tD (kc X) (gOp2 addD oa ob)) := cd_bin or_addAll pr_addAll ha hb
theorem w_sub (ha : PE X a (tO (kc X) oa)) (hb : PE X b (tO (kc X) ob)) : PE X (.BinOp a .Sub b pos) (tD (kc X) (gOp2 subI oa ob)) := cd_bin op_sub pr_sub ha hb
theorem w_mul (ha : PE X a (tO (kc X) oa)) (hb : PE X b (tO (kc X) ob)) : PE X (.BinOp a .Mult b pos) (tD (kc X) (gOp2 mulI oa ob)) := cd_bin op_mul pr_mul ha hb
theorem w_div (ha : PE X a (tO (kc X) oa)) (hb : PE X b (tO (kc X) ob)) : PE X (.BinOp a .FloorDiv b pos) (tD (kc X) (gOp2 divI oa ob)) := cd_bin op_fdiv pr_div ha hb
theorem w_mod (ha : PE X a (tO (kc X) oa)) (hb : PE X b (tO (kc X) ob)) : PE X (.BinOp a .Mod b pos) (tD (kc X) (gOp2 modI oa ob)) := cd_bin op_mod pr_mod ha hb
theorem w_pow (ha : PE X a (tO (kc X) oa)) (hb : PE X b (tO (kc X) ob)) : PE X (.BinOp a .Pow b pos) (tD (kc X) (gOp2 powI oa ob)) := cd_bin op_pow pr_pow ha hb
/-! comparisons: op, its rule -/
structure Cp (X : Cx) (op : CmpOp) (f : D → D → Option D) : Prop where
  ex : ∃ r, OpR X (compareOp op) r ∧ PureR (kc X) r f
theorem c_lt : Cp X .Lt ltI := ⟨_, op_lt, pr_lt⟩
theorem c_le : Cp X .LtE leI := ⟨_, op_le, pr_le⟩
theorem c_gt : Cp X .Gt gtI := ⟨_, op_gt, pr_gt⟩
theorem c_ge : Cp X .GtE geI := ⟨_, op_ge, pr_ge⟩
theorem c_eq (hr : Room k X.A) : Cp X .Eq eqD := ⟨_, or_eq (ru64 hr), pr_eq⟩
theorem c_ne (hr : Room k X.A) : Cp X .NotEq neD := ⟨_, or_ne (ru64 hr), pr_ne⟩
theorem c_is : Cp X .Is isD := ⟨_, or_is, pr_is⟩
theorem c_isn : Cp X .IsNot isnD := ⟨_, or_isn, pr_isn⟩
theorem c_in (hr : Room k X.A) : Cp X .In inD := ⟨_, or_in (ru65 hr), pr_in⟩
theorem c_nin (hr : Room k X.A) : Cp X .NotIn ninD := ⟨_, or_nin (ru65 hr), pr_nin⟩
theorem w_cmp {op : CmpOp} {f : D → D → Option D} (c : Cp X op f) (ha : PE X a (tO (kc X) oa)) (hb : PE X b (tO (kc X) ob)) (hm : behindInMarks op b = false := by first | exact nomark _ | rfl) : PE X (.Compare a [op] [b] pos) (tD (kc X) (gOp2 f oa ob)) := by
  obtain ⟨r, h1, h2⟩ := c.ex
  exact cd_cmp h1 h2 ha hb hm
theorem t_cmp {op : CmpOp} {f : D → D → Option D} (c : Cp X op f) (ha : PE X a (tO (kc X) oa)) (hb : PE X b (tO (kc X) ob)) (hm : behindInMarks op b = false := by first | exact nomark _ | rfl) : PT X (.Compare a [op] [b] pos) (tB (kc X) (gT (gOp2 f oa ob))) := by
  obtain ⟨r, h1, h2⟩ := c.ex
  exact ct_cmp h1 h2 ha hb hm
/-- a < b < c -/
def gChain (f f' : D → D → Option D) (oa ob oc : FO) : FD := fun ρ => match oa ρ with
  | some (x, ρ1) => match ob ρ1 with
    | some (y, ρ2) => match res ρ2 x, res ρ2 y with
      | some dx, some dy => match f dx dy with
        | some (.bl true) => match oc ρ2 with
          | some (z, ρ3) => match res ρ3 y, res ρ3 z with
            | some dy', some dz => match f' dy' dz with
              | some d => some (d, ρ3)
              | none => none
            | _, _ => none
          | none => none
        | some (.bl false) => some (.bl false, ρ2)
        | _ => none
      | _, _ => none
    | none => none
  | none => none
theorem chain_fit {K : Kc} {r r' : R2} {f f' : D → D → Option D} {oa ob oc : FO} (hp : PureR K r f) (hp' : PureR K r' f') {σ : L2.St} {H : Hp} {Q : VK} (h : tD K (gChain f f' oa ob oc) σ H Q) : tChain r r' (tO K oa) (tO K ob) (tO K oc) σ H Q := by
  obtain ⟨F, B, as, ρ, d, ρ', S, e, k⟩ := h
  unfold gChain at e
  split at e
  · rename_i x ρ1 q1
    split at e
    · rename_i y ρ2 q2
      split at e
      · rename_i dx dy q3 q4
        refine seqOO S q1 q2 fun vx vy H2 F2 as2 E2 S2 rx ry => ?_
        split at e
        · rename_i q5
          refine hp F2 H2 dx dy _ vx vy _ S2.fk q5 (S2.res q3 rx) (S2.res q4 ry) fun v F3 H3 E3 r3 => ?_
          refine ⟨true, by unfold Rep at r3; exact r3, ?_⟩
          simp only [if_true]
          split at e
          · rename_i z ρ3 q6
            split at e
            · rename_i dy' dz q7 q8
              split at e
              · rename_i d' q9
                cases e
                refine ⟨F3, B, as2, ρ2, z, _, S2.step E3, q6, fun vz H4 F4 as4 E4 S4 rz => ?_⟩
                refine hp' F4 H4 dy' dz _ vy vz _ S4.fk q9 (S4.res q7 ((ry.stb E3.stb).stb E4.stb)) (S4.res q8 rz) fun v F5 H5 E5 r5 => ?_
                exact k v H5 F5 as4 (((E2.trans E3.pure).trans E4).trans E5.pure) (S4.step E5) r5
              · cases e
            · cases e
          · cases e
        · rename_i q5
          cases e
          refine hp F2 H2 dx dy _ vx vy _ S2.fk q5 (S2.res q3 rx) (S2.res q4 ry) fun v F3 H3 E3 r3 => ?_
          refine ⟨false, by unfold Rep at r3; exact r3, ?_⟩
          simp only [Bool.false_eq_true, if_false]
          exact k _ H3 F3 as2 (E2.trans E3.pure) (S2.step E3) Rep.bl'
        · cases e
      · cases e
    · cases e
  · cases e
theorem w_chain {op op' : CmpOp} {f f' : D → D → Option D} {c : Expr} {oc : FO} (h : Cp X op f) (h' : Cp X op' f') (ha : PE X a (tO (kc X) oa)) (hb : PE X b (tO (kc X) ob)) (hc : PE X c (tO (kc X) oc)) (hm : lastMarks [op, op'] [b, c] = false := by with_unfolding_all rfl) : PE X (.Compare a [op, op'] [b, c] pos) (tD (kc X) (gChain f f' oa ob oc)) := by
  obtain ⟨r, h1, h2⟩ := h.ex
  obtain ⟨r', h1', h2'⟩ := h'.ex
  exact PE.to (pe_chain h1 h1' ha hb hc hm) fun σ H Q q => chain_fit h2 h2' q
theorem t_chain {op op' : CmpOp} {f f' : D → D → Option D} {c : Expr} {oc : FO} (h : Cp X op f) (h' : Cp X op' f') (ha : PE X a (tO (kc X) oa)) (hb : PE X b (tO (kc X) ob)) (hc : PE X c (tO (kc X) oc)) (hm : lastMarks [op, op'] [b, c] = false := by with_unfolding_all rfl) : PT X (.Compare a [op, op'] [b, c] pos) (tB (kc X) (gT (gChain f f' oa ob oc))) := by
  obtain ⟨r, h1, h2⟩ := h.ex
  obtain ⟨r', h1', h2'⟩ := h'.ex
  exact PT.to (pt_chain h1 h1' ha hb hc hm) fun σ H Q q => chain_fit h2 h2' (tB_fit q)
theorem w_ix (hr : Room k X.A) (ha : PE X a (tO (kc X) oa)) (hb : PE X b (tO (kc X) ob)) (hs : PlainIx b := by exact fun _ _ => rfl) : PE X (.Subscript a b pos) (tD (kc X) (gOp2 ixD oa ob)) := cd_ix (ru1 hr) ha hb hs
/-- a list that is written -/
def gLst (g : FL) : FW := fun ρ => match g ρ with
  | some (ds, ρ') => if ds.length ≤ SZ then some (.lst ds, true, ρ') else none
  | none => none
theorem cw_lst {es : List Expr} {g : FL} (h : PA X es (tL (kc X) g)) : PE X (.List es pos) (tW (kc X) (gLst g)) := PE.to (pe_lst h) fun σ H Q ⟨F, B, as, ρ, d, w, ρ', S, e, k⟩ => by
  unfold gLst at e
  split at e
  · rename_i ds ρ2 q
    split at e
    · rename_i hz
      cases e
      refine ⟨F, B, as, ρ, ds, _, S, q, fun vs H' F' as' E S' r => ⟨sz_le (by rw [r.length]; exact hz), fun p hp => ?_⟩⟩
      obtain ⟨E2, S2⟩ := new_own hp S' (own_lst hp r)
      exact k _ _ F' as' [p] (E.trans E2) S2
    · cases e
  · cases e
/-- a negative number that is written -/
def gNeg (g : FD) : FD := fun ρ => match g ρ with
  | some (.int i, ρ1) => some (.int (-i), ρ1)
  | _ => none
theorem w_neg {g : FD} (ha : PE X a (tD (kc X) g)) : PE X (.UnaryOp .USub a pos) (tD (kc X) (gNeg g)) := PE.to (pe_un un_neg ha) fun σ H Q ⟨F, B, as, ρ, d, ρ', S, e, k⟩ => by
  unfold gNeg at e
  split at e
  · rename_i i ρ1 q
    cases e
    exact ⟨F, B, as, ρ, .int i, _, S, q, fun v H1 F1 as1 E1 S1 r => ⟨i, by unfold Rep at r; exact r, k _ H1 F1 as1 E1 S1 Rep.int'⟩⟩
  · cases e
end

/-! ### the defs of a text -/
structure FnA (P : Program) (w : World) (K : PySem.W.Frag) (mg : Str → Option Value) (base : Heap) (n : Nat) (x : Str) (bo : List Bool) (G : FnD) (dd : List D := []) : Prop where
  at_ : ∃ f fd ps ds dvs, mg x = some (.ref f) ∧ PySem.W.keepIn K (.ref f) = true ∧ Binds K fd ps ds ∧ Vals dvs ds ∧ (∀ F H, RepL ⟨K, mg⟩ F H dd dvs) ∧ FnOk P w K mg base CX0 n f fd ps (spD ⟨K, mg⟩ bo G)
theorem FnA.to {X : Cx} {n : Nat} {x : Str} {bo : List Bool} {G : FnD} {dd : List D} (h : FnA X.prog X.w X.K X.mg X.base n x bo G dd) : FnAt X n x bo G dd := ⟨h.at_⟩
structure DefF (K : PySem.W.Frag) (mg : Str → Option Value) (x : Str) (st : Stmt) (ps : List Str) : Prop where
  ex : ∃ f fd, mg x = some (.ref f) ∧ Fun K x x st f fd ∧ Binds K fd ps []
section
variable {P : Program} {w : World} {K : PySem.W.Frag} {mg : Str → Option Value} {base : Heap}
theorem DefF.zero {x : Str} {st : Stmt} {ps : List Str} {bo : List Bool} {G : FnD} (D : DefF K mg x st ps) (hG : ∀ ds, G ds = none) : FnA P w K mg base 0 x bo G := by
  obtain ⟨f, fd, hm, F, hb⟩ := D.ex
  exact ⟨f, fd, ps, [], [], hm, F.kp, hb, .nil, fun _ _ => RepL.nil, fn_zero hG⟩
theorem DefF.step {x : Str} {st : Stmt} {N ps : List Str} {n : Nat} {bo : List Bool} {g : FS} (D : DefF K mg x st ps) (S : FnScope N ps (defScope st)) (hb : bo.length = ps.length)
    (hbody : ∀ (f : Addr) (cdv : Value) (A : Around) (outer : List PySem.Env) (s : Shared) (H : Hp) (E : XK), Room n (A.deeper (envOfC x (defScope st) s.heap.objs.size f cdv)) → PSs (bodyX P w K mg base N x (defScope st) f cdv A outer s H E) (defBody st) (tS ⟨K, mg⟩ g)) :
    FnA P w K mg base (n + 1) x bo (runG bo N.length g) := by
  obtain ⟨f, fd, hm, F, hbi⟩ := D.ex
  exact ⟨f, fd, ps, [], [], hm, F.kp, hbi, .nil, fun _ _ => RepL.nil, fn_ok F S hb rfl fun cdv A outer s H E hr => hbody f cdv A outer s H E hr⟩
/-- a def with defaults: called with the first ones alone (dd the rest), or with all -/
structure DefD (K : PySem.W.Frag) (mg : Str → Option Value) (x : Str) (st : Stmt) (ps : List Str) (dd : List D) (dvs : List V) : Prop where
  ex : ∃ f fd ds, mg x = some (.ref f) ∧ FunD K x x (defArgs st) (defBody st) (defScope st) dvs [] f fd ∧ Binds K fd ps [] ∧ Binds K fd ps ds ∧ Vals dvs ds ∧ ∀ F H, RepL ⟨K, mg⟩ F H dd dvs
theorem fn_okD {x qual : Str} {st : Stmt} {f : Addr} {fd : FuncData} {N ps : List Str} {k n : Nat} {bo : List Bool} {g : FS} {dvs : List V} (F : FunD K x qual (defArgs st) (defBody st) (defScope st) dvs [] f fd) (S : FnScope N ps (defScope st)) (hb : bo.length = ps.length) (hn : N.length = n)
    (hbody : ∀ (cdv : Value) (A : Around) (outer : List PySem.Env) (s : Shared) (H : Hp) (E : XK), Room k (A.deeper (envOfC qual (defScope st) s.heap.objs.size f cdv)) → PSs (bodyX P w K mg base N qual (defScope st) f cdv A outer s H E) (defBody st) (tS ⟨K, mg⟩ g)) :
    FnOk P w K mg base CX0 (k + 1) f fd ps (spD ⟨K, mg⟩ bo (runG bo n g)) :=
  F.ok S (fun vs H Q E h => by obtain ⟨F, as, ds, d, w, ds', hA, _⟩ := h; rw [hA.length, hb]) fun cdv A outer s H vs Q E hr h => ⟨_, (hbody cdv A outer s H E hr).nox, body_fit hn h⟩
theorem DefD.zero {x : Str} {st : Stmt} {ps : List Str} {dd : List D} {dvs : List V} {bo : List Bool} {G : FnD} (D : DefD K mg x st ps dd dvs) (hG : ∀ ds, G ds = none) : FnA P w K mg base 0 x bo G ∧ FnA P w K mg base 0 x bo G dd := by
  obtain ⟨f, fd, ds, hm, F, hb, hb2, hv, hd⟩ := D.ex
  exact ⟨⟨f, fd, ps, [], [], hm, F.kp, hb, .nil, fun _ _ => RepL.nil, fn_zero hG⟩, ⟨f, fd, ps, ds, dvs, hm, F.kp, hb2, hv, hd, fn_zero hG⟩⟩
theorem DefD.step {x : Str} {st : Stmt} {N ps : List Str} {n : Nat} {bo : List Bool} {g : FS} {dd : List D} {dvs : List V} (D : DefD K mg x st ps dd dvs) (S : FnScope N ps (defScope st)) (hb : bo.length = ps.length)
    (hbody : ∀ (f : Addr) (cdv : Value) (A : Around) (outer : List PySem.Env) (s : Shared) (H : Hp) (E : XK), Room n (A.deeper (envOfC x (defScope st) s.heap.objs.size f cdv)) → PSs (bodyX P w K mg base N x (defScope st) f cdv A outer s H E) (defBody st) (tS ⟨K, mg⟩ g)) :
    FnA P w K mg base (n + 1) x bo (runG bo N.length g) ∧ FnA P w K mg base (n + 1) x bo (runG bo N.length g) dd := by
  obtain ⟨f, fd, ds, hm, F, hbi, hb2, hv, hd⟩ := D.ex
  have ok : FnOk P w K mg base CX0 (n + 1) f fd ps (spD ⟨K, mg⟩ bo (runG bo N.length g)) := fn_okD F S hb rfl fun cdv A outer s H E hr => hbody f cdv A outer s H E hr
  exact ⟨⟨f, fd, ps, [], [], hm, F.kp, hbi, .nil, fun _ _ => RepL.nil, ok⟩, ⟨f, fd, ps, ds, dvs, hm, F.kp, hb2, hv, hd, ok⟩⟩
theorem defF_mk {h : Heap} {x : Str} {st : Stmt} {ps : List Str} (X : K.In h) (G : h.Ns mainGlobals mg) {f : Addr} {od an : Option Addr} {sl : Array (Option Value)} {oc kV dc pm cd ct : Value}
    (hb : ∀ (kV doc pm : Value) (an : Option Addr) (cdv ct : Value) (us : List Value), us.length = ps.length → bindArgs (PySem.W.fnOf x x (defArgs st) (defBody st) (defScope st) .none kV doc pm an cdv ct) ⟨us, []⟩ = pure (ps.zip us))
    (a : PySem.W.nsIn K mainGlobals x = some (some (.ref f))) (l : K.lookup f = some ⟨oc, od, .func (PySem.W.fnOf x x (defArgs st) (defBody st) (defScope st) .none kV dc pm an cd ct), sl⟩) (c : PySem.W.codeIn K cd x = true) (k : PySem.W.keepIn K (.ref f) = true) : DefF K mg x st ps :=
  ⟨f, _, PySem.W.mg_of X G a, fun_mk l c k, (fun_mk l c k).binds hb⟩
theorem defD_mk {h : Heap} {x : Str} {st : Stmt} {ps : List Str} {dd : List D} {dvs : List V} (X : K.In h) (G : h.Ns mainGlobals mg) {f T : Addr} {od an : Option Addr} {sl : Array (Option Value)} {oc kV dc pm cd ct : Value} {o : Obj} {its : List Value} {m : Nat}
    (hb : ∀ (T : Addr) (kV doc pm : Value) (an : Option Addr) (cdv ct : Value) (us its : List Value), us.length = ps.length → its.length = dvs.length →
      ∃ k, bindArgs (PySem.W.fnOf x x (defArgs st) (defBody st) (defScope st) (.ref T) kV doc pm an cdv ct) ⟨us, []⟩ = seqItems? (.ref T) >>= k ∧ k (some its.toArray) = pure (ps.zip (us ++ its.drop dvs.length)))
    (hb2 : ∀ (T : Addr) (kV doc pm : Value) (an : Option Addr) (cdv ct : Value) (us its : List Value), us.length = ps.length - dvs.length → its.length = dvs.length →
      ∃ k, bindArgs (PySem.W.fnOf x x (defArgs st) (defBody st) (defScope st) (.ref T) kV doc pm an cdv ct) ⟨us, []⟩ = seqItems? (.ref T) >>= k ∧ k (some its.toArray) = pure (ps.zip (us ++ its.drop 0)))
    (hne : dvs ≠ []) (hle : dvs.length ≤ ps.length) (hd : ∀ F H, RepL ⟨K, mg⟩ F H dd dvs)
    (a : PySem.W.nsIn K mainGlobals x = some (some (.ref f))) (l : K.lookup f = some ⟨oc, od, .func (PySem.W.fnOf x x (defArgs st) (defBody st) (defScope st) (.ref T) kV dc pm an cd ct), sl⟩) (c : PySem.W.codeIn K cd x = true) (k : PySem.W.keepIn K (.ref f) = true)
    (lT : K.lookup T = some o) (oT : o.data = .seq its.toArray m) (rT : Vals dvs its) : DefD K mg x st ps dd dvs := by
  have F : FunD K x x (defArgs st) (defBody st) (defScope st) dvs [] f (PySem.W.fnOf x x (defArgs st) (defBody st) (defScope st) (.ref T) kV dc pm an cd ct) :=
    ⟨⟨oc, od, _, kV, dc, pm, an, cd, ct, sl, rfl, l, c, .inr ⟨hne, T, o, its, m, rfl, lT, oT, rT⟩, .inl rfl⟩, k⟩
  obtain ⟨ds0, v0, b0⟩ := F.binds1 ps.length dvs.length hne (by omega) hb
  obtain ⟨ds1, v1, b1⟩ := F.binds1 (ps.length - dvs.length) 0 hne (by omega) hb2
  rw [List.drop_length] at v0
  cases v0
  rw [List.drop_zero] at v1
  exact ⟨f, _, ds1, PySem.W.mg_of X G a, F, b0, b1, v1, hd⟩
/-- a tuple of the module whose items are flat -/
theorem glob_tup {h : Heap} {x : Str} {a : Addr} {o : Obj} {its : Array Value} {n : Nat} {ds : List D} {vs : List V} (X : K.In h) (G : h.Ns mainGlobals mg) (e : PySem.W.nsIn K mainGlobals x = some (some (.ref a))) (l : K.lookup a = some o) (hc : o.cls = .type "tuple") (hd : o.data = .seq its n)
    (hs : its.size ≤ sizeLine) (hv : Vals vs its.toList) (r : ∀ F H, RepL ⟨K, mg⟩ F H ds vs) : ∃ u v, mg x = some u ∧ RelV v u ∧ ∀ F H, Rep ⟨K, mg⟩ F H (.tup ds) v :=
  ⟨.ref a, .ref a, PySem.W.mg_of X G e, rfl, fun F H => Rep.tup' (.inr ⟨o, its, n, l, hc, hd, hs, hv⟩) (r F H)⟩
/-! ### the end: the law's call -/
def spLaw : Sp := fun vs H Q _ => ∃ (a : Addr) (ns : List Int), vs = [.ref a] ∧ ((∃ o, H a = some (.frz o (.lst (ns.map V.int)))) ∨ ∀ H', SqL K H' a (ns.map V.int)) ∧ ns.length ≤ 63 ∧ (∀ z ∈ ns, Builtin.Int.intBits z ≤ 1048576) ∧ ∀ H', Q (.bl true) H'
theorem law_imp {G : FnD} (hG : ∀ ns : List Int, ns.length ≤ 63 → (∀ z ∈ ns, Builtin.Int.intBits z ≤ 1048576) → ∃ ds', G [.scr ns] = some (.bl true, false, ds')) : ∀ vs H Q E, spLaw (K := K) vs H Q E → spD ⟨K, mg⟩ [false] G vs H Q E := fun vs H Q E h => by
  obtain ⟨a, ns, rfl, hs, h63, hb, q⟩ := h
  obtain ⟨ds', e⟩ := hG ns h63 hb
  refine ⟨fun _ => False, [], [.scr ns], .bl true, false, ds', ?_, List.nodup_nil, fun a m => (List.not_mem_nil m).elim, fun b (h : False) => h.elim, e, fun v H' F' as' bs E hB nd nf fk r => ?_⟩
  · unfold ArgR
    refine ⟨_, [], rfl, ?_, ?_⟩
    · unfold Rep; exact ⟨a, rfl, hs⟩
    · unfold ArgR; exact ⟨rfl, rfl⟩
  · simp only [Bool.false_eq_true, if_false] at r
    have r := r.2
    unfold Rep at r
    subst r
    exact q H'
end
theorem law_end {l : PySem.W.OpenLaw} {q : Program} {loose : List Str} {XP : (Str → Option Value) → Heap → Prop} {YP : World → Heap → Prop} {d : DefRec} {K : Params → PySem.W.Frag} {n : Nat} {G : FnD} (hn : l.most = some 63) (hdf : d.params.defaults = []) (hr : Room n callerA)
    (hY : ∀ (w : World) (h : Heap), YP w h → (K w.params).In h)
    (hG : ∀ ns : List Int, ns.length ≤ 63 → (∀ z ∈ ns, Builtin.Int.intBits z ≤ 1048576) → ∃ ds', G [.scr ns] = some (.bl true, false, ds'))
    (F : ∀ (w : World) (mg : Str → Option Value) (fa : Addr) (h : Heap), (K w.params).In h → h.Ns mainGlobals mg → mg d.name = some (.ref fa) →
      ∃ fd : FuncData, (∀ (s : Shared) (u : Value), BindsTo s fd ⟨[u], []⟩ [("script", u)]) ∧ ∀ base : Heap, (K w.params).In base → base.Ns mainGlobals mg → FnOk l.prog w (K w.params) mg base CX0 n fa fd ["script"] (spD ⟨K w.params, mg⟩ [false] G)) :
    PySem.W.WalkO q loose XP YP l.row.toRowW d [] (fun f vs => PySem.call f vs) :=
  L2.walk_ofB (n := 63) (k := n) (x := "script") (CX := fun _ => CX0) (sp := fun w => spLaw (K := K w.params)) hn (by decide) hdf hr hY
    (fun w mg fa h k g m => by
      obtain ⟨fd, h1, h2⟩ := F w mg fa h k g m
      exact ⟨fd, h1, fun base kb gb => (h2 base kb gb).imp (law_imp hG)⟩)
    (fun w H a ns hl hb ho hS => by
      refine ⟨a, ns, rfl, ?_, hl, hb, fun _ => rfl⟩
      rcases hS with (hS | hS) | hS
      · rcases ho a with z | ⟨o, xs, z⟩
        · rw [hS] at z; cases z
        · rw [hS] at z; cases z
      · exact .inl hS
      · exact .inr fun H' => .inr hS)
    fun _ _ _ _ _ z => z
end DV

/-! DV9: short names, a, b = x, y. -/
namespace DV
open L2 PySem PySem.Spec PyProof.Rows

abbrev oNm (i : Nat) : FO := fun ρ => (look ρ i).map fun _ => (.at i, ρ)
abbrev oD (g : FD) : FO := fun ρ => (g ρ).map fun p => (.va p.1, p.2)
abbrev wD (g : FD) : FW := fun ρ => (g ρ).map fun p => (p.1, false, p.2)

/-- target = value -/
def gAsg (g : FD) (h : FG) : FS := fun ρ => match g ρ with
  | some (d, ρ1) => match h d ρ1 with
    | some ρ2 => some (.nx, ρ2)
    | none => none
  | none => none
/-- a, b = x, y -/
def gPar (i j : Nat) (ga gb : FW) : FS := fun ρ => match ga ρ with
  | some (d, w, ρ1) => match gb ρ1 with
    | some (d', w', ρ2) => match bind1 i d w ρ2 with
      | some ρ3 => match bind1 j d' w' ρ3 with
        | some ρ4 => some (.nx, ρ4)
        | none => none
      | none => none
    | none => none
  | none => none
section
variable {X : Cx} {pos : Pos}
theorem cs_asg {tg e : Expr} {ts : List Nat} {g : FD} {h : FG} (he : PE X e (tD (kc X) g)) (hg : PG X tg (tG (kc X) ts h)) (hs : swapsWithSole [tg] e pos.line X.env = pure false := by rfl) (hw : swappedStores [tg] e X.env = pure none := by rfl)
    (h1 : (assignEach [tg] X.env).map (·.2) = [assign tg X.env] := by rfl) : PS X (.Assign [tg] e pos) (tS (kc X) (gAsg g h)) :=
  PS.to (ps_asg he hg hs hw h1) fun D σ H ⟨F, B, as, ρ, fl, ρ', S, e, k⟩ => by
    unfold gAsg at e
    split at e
    · rename_i d ρ1 q
      split at e
      · rename_i ρ2 q2
        cases e
        exact ⟨F, B, as, ρ, d, ρ1, S, q, fun v H1 F1 as1 E1 S1 r1 => ⟨F1, B, as1, ρ1, d, _, S1, r1, q2, fun σ' H2 F2 as2 _ _ E2 S2 => k σ' H2 F2 as2 (E1.trans E2) S2⟩⟩
      · cases e
    · cases e
theorem Sit2.own {K : Kc} {F F2 : Addr → Prop} {B : List Addr} {H H2 : Hp} {ρ : Env} {σ : L2.St} {as : List Addr} {d : D} {w : Bool} {v : V} {bs : List Addr} (S : Sit2 K F B H ρ σ as d w v bs) (s : Stb F H F2 H2) (k : Kept bs H H2) :
    if w = true then Own K F2 H2 d v bs else bs = [] ∧ Rep K F2 H2 d v := by
  have r := S.res
  cases w with
  | true => simp only [if_true] at r ⊢; exact r.stb s k
  | false => simp only [Bool.false_eq_true, if_false] at r ⊢; exact ⟨r.1, Rep.stb s _ _ r.2⟩
theorem Sit2.thereB {K : Kc} {F : Addr → Prop} {B : List Addr} {H : Hp} {ρ : Env} {σ : L2.St} {as : List Addr} {d : D} {w : Bool} {v : V} {bs : List Addr} (S : Sit2 K F B H ρ σ as d w v bs) : ∀ b, b ∈ bs → ∃ u, H b = some u := by
  have r := S.res
  cases w with
  | true => simp only [if_true] at r; exact r.there
  | false => simp only [Bool.false_eq_true, if_false] at r; rw [r.1]; intro b m; cases m
theorem cs_par {i j : Nat} {x y : Str} {a b : Expr} {ga gb : FW} {px py pt : Pos} {kt k2 pt2} (hc : X.calm = true) (hN : X.N.Nodup) (hi : X.N[i]? = some x) (hj : X.N[j]? = some y) (hij : i ≠ j)
    (hx : X.env.scope.names.lookup x = some .local) (hy : X.env.scope.names.lookup y = some .local) (ha : PE X a (tW (kc X) ga)) (hb : PE X b (tW (kc X) gb))
    (hw : swappedStores [.Tuple [.Name x px, .Name y py] kt pt] (.Tuple [a, b] k2 pt2) X.env = pure (some [x, y]))
    (hs : swapsWithSole [.Tuple [.Name x px, .Name y py] kt pt] (.Tuple [a, b] k2 pt2) pos.line X.env = pure false := by rfl)
    (h1 : starEach [a, b] X.env = (false, eval a X.env) :: starEach [b] X.env := by rfl) (h2 : starEach [b] X.env = (false, eval b X.env) :: starEach [] X.env := by rfl) :
    PS X (.Assign [.Tuple [.Name x px, .Name y py] kt pt] (.Tuple [a, b] k2 pt2) pos) (tS (kc X) (gPar i j ga gb)) :=
  PS.to (ps_par hc hN hi hj hij hx hy (pa_cons ha (pa_cons hb pa_nil h2) h1) hw hs) fun D σ H ⟨F, B, as, ρ, fl, ρ', S, e, k⟩ => by
    unfold gPar at e
    split at e
    · rename_i d w ρ1 q1
      split at e
      · rename_i d' w' ρ2 q2
        split at e
        · rename_i ρ3 q3
          split at e
          · rename_i ρ4 q4
            cases e
            refine ⟨F, B, as, ρ, d, w, ρ1, S, q1, fun v H1 F1 as1 bs E1 S1 => ?_⟩
            have nn := List.nodup_append.mp S1.nd
            refine ⟨F1, B, as1, ρ1, d', w', ρ2, S1.drop, q2, fun v' H2 F2 as2 bs2 E2 S2 => ⟨v, v', rfl, ?_⟩⟩
            have kp : Kept bs H1 H2 := E2.kept fun b m z => nn.2.2 b m b z rfl
            have own := S1.own E2.stb kp
            have far : ∀ b, b ∈ bs → b ∉ bs2 ++ as2 := fun b m z => by
              rcases E2.anew b z with z | z
              · exact nn.2.2 b m b z rfl
              · obtain ⟨u, hu⟩ := S1.thereB b m
                rw [hu] at z; cases z
            have nfb : ∀ b, b ∈ bs → ¬ F2 b := fun b m f => by
              rcases E2.fnew b f with z | z | z
              · exact S1.nf b (List.mem_append_left _ m) z
              · exact nn.2.2 b m b z rfl
              · obtain ⟨u, hu⟩ := S1.thereB b m
                rw [hu] at z; cases z
            have n2 := List.nodup_append.mp S2.nd
            have T : Sit2 (kc X) F2 B H2 ρ2 σ as2 d w v bs := ⟨S2.env, List.nodup_append.mpr ⟨nn.1, n2.2.1, fun x hx y hy e => far x hx (e ▸ List.mem_append_right _ hy)⟩, fun b m => (List.mem_append.mp m).elim (nfb b) fun m => S2.nf b (List.mem_append_right _ m), S2.fk, own⟩
            obtain ⟨as3, S3, m3⟩ := T.bind q3
            have T2 : Sit2 (kc X) F2 B H2 ρ3 (σ.set i (some v)) as3 d' w' v' bs2 := by
              refine ⟨S3.env, List.nodup_append.mpr ⟨n2.1, S3.nd, fun x hx y hy e => ?_⟩, fun b m => (List.mem_append.mp m).elim (fun m => S2.nf b (List.mem_append_left _ m)) fun m => S3.nf b m, S3.fk, S2.res⟩
              subst e
              rcases List.mem_append.mp (m3 x hy) with z | z
              · exact far x z (List.mem_append_left _ hx)
              · exact n2.2.2 x hx x z rfl
            obtain ⟨as4, S4, m4⟩ := T2.bind q4
            have E2' : Ext F1 (bs ++ as1) H1 F2 (bs ++ (bs2 ++ as2)) H2 := E2.frameL
            refine k _ H2 F2 as4 ((E1.trans E2').sub fun b m => ?_) S4
            rcases List.mem_append.mp (m4 b m) with z | z
            · simp [z]
            · rcases List.mem_append.mp (m3 b z) with z | z <;> simp [z]
          · cases e
        · cases e
      · cases e
    · cases e
end
end DV

/-! DV10: the rows by which a run is computed. -/
namespace DV
open L2 PySem PySem.Spec PyProof.Rows

theorem strOf_inj (a b : String) : (Str.ofString a = Str.ofString b) = (a = b) := by
  rw [eq_iff_iff]
  refine ⟨fun h => ?_, fun h => by rw [h]⟩
  rw [Str.ofString_eq_toList, Str.ofString_eq_toList] at h
  have h2 : (a.toList.map Char.toNat) = b.toList.map Char.toNat := by
    have := congrArg (fun s : Str => s.cps.toList) h
    simpa using this
  have inj : ∀ x y : List Char, x.map Char.toNat = y.map Char.toNat → x = y := by
    intro x
    induction x with
    | nil => intro y h; cases y with
      | nil => rfl
      | cons c y => simp at h
    | cons c x ih => intro y h; cases y with
      | nil => simp at h
      | cons d y =>
        simp only [List.map_cons, List.cons.injEq] at h
        rw [ih y h.2, show c = d from Char.ext (UInt32.toNat_inj.mp h.1)]
  exact String.toList_inj.mp (inj _ _ h2)
theorem strOf_beq (a b : String) : (Str.ofString a == Str.ofString b) = (a == b) := by
  rw [Bool.eq_iff_iff, beq_iff_eq, beq_iff_eq, strOf_inj]

section
variable {ρ ρ1 : Env}
def kSeq (b : FS) : Fl × Env → Option (Fl × Env)
  | (.nx, ρ1) => b ρ1
  | (.br, ρ1) => some (.br, ρ1)
  | (.ct, ρ1) => some (.ct, ρ1)
  | (.rt d w, ρ1) => some (.rt d w, ρ1)
@[simp] theorem at_seq {a b : FS} : gSeq a b ρ = (a ρ).bind (kSeq b) := by
  unfold gSeq; rcases a ρ with _ | ⟨_ | _ | _ | _, _⟩ <;> rfl
@[simp] theorem kSeq_nx {b : FS} : kSeq b (.nx, ρ1) = b ρ1 := rfl
@[simp] theorem kSeq_br {b : FS} : kSeq b (.br, ρ1) = some (.br, ρ1) := rfl
@[simp] theorem kSeq_ct {b : FS} : kSeq b (.ct, ρ1) = some (.ct, ρ1) := rfl
@[simp] theorem kSeq_rt {b : FS} {d w} : kSeq b (.rt d w, ρ1) = some (.rt d w, ρ1) := rfl
def kIfS (a b : FS) : Bool × Env → Option (Fl × Env)
  | (true, ρ1) => a ρ1
  | (false, ρ1) => b ρ1
@[simp] theorem at_gIfS {t : FT} {a b : FS} : gIfS t a b ρ = (t ρ).bind (kIfS a b) := by
  unfold gIfS; rcases t ρ with _ | ⟨_ | _, _⟩ <;> rfl
@[simp] theorem kIfS_t {a b : FS} : kIfS a b (true, ρ1) = a ρ1 := rfl
@[simp] theorem kIfS_f {a b : FS} : kIfS a b (false, ρ1) = b ρ1 := rfl
def kIf (a b : FD) : Bool × Env → Option (D × Env)
  | (true, ρ1) => a ρ1
  | (false, ρ1) => b ρ1
@[simp] theorem at_gIf {t : FT} {a b : FD} : gIf t a b ρ = (t ρ).bind (kIf a b) := by
  unfold gIf; rcases t ρ with _ | ⟨_ | _, _⟩ <;> rfl
@[simp] theorem kIf_t {a b : FD} : kIf a b (true, ρ1) = a ρ1 := rfl
@[simp] theorem kIf_f {a b : FD} : kIf a b (false, ρ1) = b ρ1 := rfl
def kIfW (a b : FW) : Bool × Env → Option (D × Bool × Env)
  | (true, ρ1) => a ρ1
  | (false, ρ1) => b ρ1
@[simp] theorem at_gIfW {t : FT} {a b : FW} : gIfW t a b ρ = (t ρ).bind (kIfW a b) := by
  unfold gIfW; rcases t ρ with _ | ⟨_ | _, _⟩ <;> rfl
@[simp] theorem kIfW_t {a b : FW} : kIfW a b (true, ρ1) = a ρ1 := rfl
@[simp] theorem kIfW_f {a b : FW} : kIfW a b (false, ρ1) = b ρ1 := rfl
@[simp] theorem at_skip : gSkip ρ = some (.nx, ρ) := rfl
def kRet : D × Bool × Env → Fl × Env := fun p => (.rt p.1 p.2.1, p.2.2)
@[simp] theorem at_ret {g : FW} : gRet g ρ = (g ρ).map kRet := by
  unfold gRet; rcases g ρ with _ | ⟨_, _, _⟩ <;> rfl
@[simp] theorem kRet_at {d w} : kRet (d, w, ρ1) = (.rt d w, ρ1) := rfl
def kDrop : D × Bool × Env → Fl × Env := fun p => (.nx, p.2.2)
@[simp] theorem at_drop {g : FW} : gDrop g ρ = (g ρ).map kDrop := by
  unfold gDrop; rcases g ρ with _ | ⟨_, _, _⟩ <;> rfl
@[simp] theorem kDrop_at {d w} : kDrop (d, w, ρ1) = (.nx, ρ1) := rfl
def kNx : Env → Fl × Env := fun ρ => (.nx, ρ)
@[simp] theorem kNx_at : kNx ρ = (.nx, ρ) := rfl
def kSet (i : Nat) : D × Bool × Env → Option (Fl × Env) := fun p => (bind1 i p.1 p.2.1 p.2.2).map kNx
@[simp] theorem at_set {i : Nat} {g : FW} : gSet i g ρ = (g ρ).bind (kSet i) := by
  unfold gSet
  rcases g ρ with _ | ⟨d, w, ρ1⟩
  · rfl
  · show _ = (bind1 i d w ρ1).map kNx
    dsimp only
    rcases bind1 i d w ρ1 with _ | _ <;> rfl
@[simp] theorem kSet_at {i d w} : kSet i (d, w, ρ1) = (bind1 i d w ρ1).map kNx := rfl
def kB (i : Nat) (d : D) (w : Bool) (ρ : Env) : Option Sl → Option Env
  | some (.bo _ _) => none
  | some .no => some (ρ.set i (if w = true then .ow d else .sh d))
  | some (.sh _) => some (ρ.set i (if w = true then .ow d else .sh d))
  | some (.ow _) => some (ρ.set i (if w = true then .ow d else .sh d))
  | none => none
@[simp] theorem at_bind1 {i d w} : bind1 i d w ρ = kB i d w ρ ρ[i]? := by
  unfold bind1; rcases ρ[i]? with _ | _ | _ | _ | _ <;> rfl
@[simp] theorem kB_no {i d w} : kB i d w ρ (some .no) = some (ρ.set i (if w = true then .ow d else .sh d)) := rfl
@[simp] theorem kB_sh {i d w e} : kB i d w ρ (some (.sh e)) = some (ρ.set i (if w = true then .ow d else .sh d)) := rfl
@[simp] theorem kB_ow {i d w e} : kB i d w ρ (some (.ow e)) = some (ρ.set i (if w = true then .ow d else .sh d)) := rfl
def kLook : Option Sl → Option D
  | some (.sh d) => some d
  | some (.ow d) => some d
  | some (.bo _ d) => some d
  | some .no => none
  | none => none
@[simp] theorem at_look {i} : look ρ i = kLook ρ[i]? := by
  unfold look; rcases ρ[i]? with _ | _ | _ | _ | _ <;> rfl
@[simp] theorem kLook_sh {d} : kLook (some (.sh d)) = some d := rfl
@[simp] theorem kLook_ow {d} : kLook (some (.ow d)) = some d := rfl
@[simp] theorem kLook_bo {k d} : kLook (some (.bo k d)) = some d := rfl
@[simp] theorem res_va {d} : res ρ (.va d) = some d := rfl
@[simp] theorem res_at {i} : res ρ (.at i) = look ρ i := rfl
def kAt (i : Nat) (ρ : Env) : D → Opd × Env := fun _ => (.at i, ρ)
@[simp] theorem kAt_at {i d} : kAt i ρ d = (.at i, ρ) := rfl
@[simp] theorem at_oNm {i : Nat} : oNm i ρ = (look ρ i).map (kAt i ρ) := rfl
def kVa : D × Env → Opd × Env := fun p => (.va p.1, p.2)
@[simp] theorem kVa_at {d} : kVa (d, ρ1) = (.va d, ρ1) := rfl
@[simp] theorem at_oD {g : FD} : oD g ρ = (g ρ).map kVa := rfl
def kWD : D × Env → D × Bool × Env := fun p => (p.1, false, p.2)
@[simp] theorem kWD_at {d} : kWD (d, ρ1) = (d, false, ρ1) := rfl
@[simp] theorem at_wD {g : FD} : wD g ρ = (g ρ).map kWD := rfl
def kNm (i : Nat) (ρ : Env) : Option Sl → Option (D × Env)
  | some (.sh d) => some (d, ρ)
  | some (.ow d) => if isC d = true then some (d, ρ.set i (.sh d)) else none
  | some (.bo _ _) => none
  | some .no => none
  | none => none
@[simp] theorem at_nm {i} : gNm i ρ = kNm i ρ ρ[i]? := by
  unfold gNm; rcases ρ[i]? with _ | _ | _ | _ | _ <;> rfl
@[simp] theorem kNm_sh {i d} : kNm i ρ (some (.sh d)) = some (d, ρ) := rfl
@[simp] theorem kNm_lst {i ds} : kNm i ρ (some (.ow (.lst ds))) = some (.lst ds, ρ.set i (.sh (.lst ds))) := rfl
@[simp] theorem kNm_dic {i ks ds} : kNm i ρ (some (.ow (.dic ks ds))) = some (.dic ks ds, ρ.set i (.sh (.dic ks ds))) := rfl
def kMv (i : Nat) (ρ : Env) : Option Sl → Option (D × Bool × Env)
  | some (.sh d) => some (d, false, ρ)
  | some (.ow d) => some (d, true, ρ.set i .no)
  | some (.bo _ _) => none
  | some .no => none
  | none => none
@[simp] theorem at_mv {i} : gMv i ρ = kMv i ρ ρ[i]? := by
  unfold gMv; rcases ρ[i]? with _ | _ | _ | _ | _ <;> rfl
@[simp] theorem kMv_sh {i d} : kMv i ρ (some (.sh d)) = some (d, false, ρ) := rfl
@[simp] theorem kMv_ow {i d} : kMv i ρ (some (.ow d)) = some (d, true, ρ.set i .no) := rfl
def kSh : D × Bool × Env → Option (D × Env)
  | (d, true, ρ') => if isC d = true then some (d, ρ') else none
  | (d, false, ρ') => some (d, ρ')
@[simp] theorem at_shW {g : FW} : shW g ρ = (g ρ).bind kSh := by
  unfold shW; rcases g ρ with _ | ⟨_, _ | _, _⟩ <;> rfl
@[simp] theorem kSh_f {d} : kSh (d, false, ρ1) = some (d, ρ1) := rfl
@[simp] theorem kSh_lst {ds} : kSh (.lst ds, true, ρ1) = some (.lst ds, ρ1) := rfl
@[simp] theorem kSh_dic {ks ds} : kSh (.dic ks ds, true, ρ1) = some (.dic ks ds, ρ1) := rfl
def kWith (ρ : Env) : D → D × Env := fun d => (d, ρ)
@[simp] theorem kWith_at {d} : kWith ρ d = (d, ρ) := rfl
def kO3 (f : D → D → Option D) (dx : D) (ρ : Env) : D → Option (D × Env) := fun dy => (f dx dy).map (kWith ρ)
@[simp] theorem kO3_at {f : D → D → Option D} {dx dy} : kO3 f dx ρ dy = (f dx dy).map (kWith ρ) := rfl
def kO2 (f : D → D → Option D) (y : Opd) (ρ : Env) : D → Option (D × Env) := fun dx => (res ρ y).bind (kO3 f dx ρ)
@[simp] theorem kO2_at {f : D → D → Option D} {y dx} : kO2 f y ρ dx = (res ρ y).bind (kO3 f dx ρ) := rfl
def kO1 (f : D → D → Option D) (x : Opd) : Opd × Env → Option (D × Env) := fun p => (res p.2 x).bind (kO2 f p.1 p.2)
@[simp] theorem kO1_at {f : D → D → Option D} {x y} : kO1 f x (y, ρ1) = (res ρ1 x).bind (kO2 f y ρ1) := rfl
def kO0 (f : D → D → Option D) (ob : FO) : Opd × Env → Option (D × Env) := fun p => (ob p.2).bind (kO1 f p.1)
@[simp] theorem kO0_at {f : D → D → Option D} {ob : FO} {x} : kO0 f ob (x, ρ1) = (ob ρ1).bind (kO1 f x) := rfl
@[simp] theorem at_op2 {f : D → D → Option D} {oa ob : FO} : gOp2 f oa ob ρ = (oa ρ).bind (kO0 f ob) := by
  unfold gOp2
  rcases oa ρ with _ | ⟨x, ρ1⟩
  · rfl
  · simp only [Option.bind_some, kO0_at]
    rcases ob ρ1 with _ | ⟨y, ρ2⟩
    · rfl
    · simp only [Option.bind_some, kO1_at]
      rcases res ρ2 x with _ | dx
      · rfl
      · simp only [Option.bind_some, kO2_at]
        rcases res ρ2 y with _ | dy
        · rfl
        · simp only [Option.bind_some, kO3_at]
          rcases f dx dy with _ | d <;> rfl
def k13 (f : D → Option D) (ρ : Env) : D → Option (D × Env) := fun dx => (f dx).map (kWith ρ)
@[simp] theorem k13_at {f : D → Option D} {dx} : k13 f ρ dx = (f dx).map (kWith ρ) := rfl
def k12 (f : D → Option D) : Opd × Env → Option (D × Env) := fun p => (res p.2 p.1).bind (k13 f p.2)
@[simp] theorem k12_at {f : D → Option D} {x} : k12 f (x, ρ1) = (res ρ1 x).bind (k13 f ρ1) := rfl
@[simp] theorem at_op1 {f : D → Option D} {oa : FO} : gOp1 f oa ρ = (oa ρ).bind (k12 f) := by
  unfold gOp1
  rcases oa ρ with _ | ⟨x, ρ1⟩
  · rfl
  · simp only [Option.bind_some, k12_at]
    rcases res ρ1 x with _ | dx
    · rfl
    · simp only [Option.bind_some, k13_at]
      rcases f dx with _ | d <;> rfl
def kOwn : D × Env → D × Bool × Env := fun p => (p.1, true, p.2)
@[simp] theorem kOwn_at {d} : kOwn (d, ρ1) = (d, true, ρ1) := rfl
@[simp] theorem at_op1W {f : D → Option D} {oa : FO} : gOp1W f oa ρ = (gOp1 f oa ρ).map kOwn := rfl
def kT : D × Env → Option (Bool × Env)
  | (.bl b, ρ') => some (b, ρ')
  | _ => none
@[simp] theorem at_T {g : FD} : gT g ρ = (g ρ).bind kT := by
  unfold gT
  rcases g ρ with _ | ⟨d, _⟩
  · rfl
  · cases d <;> rfl
@[simp] theorem kT_at {b} : kT (.bl b, ρ1) = some (b, ρ1) := rfl
def kAnd (b : FT) : Bool × Env → Option (Bool × Env)
  | (true, ρ1) => b ρ1
  | (false, ρ1) => some (false, ρ1)
@[simp] theorem at_and {a b : FT} : gAnd a b ρ = (a ρ).bind (kAnd b) := by
  unfold gAnd; rcases a ρ with _ | ⟨_ | _, _⟩ <;> rfl
@[simp] theorem kAnd_t {b : FT} : kAnd b (true, ρ1) = b ρ1 := rfl
@[simp] theorem kAnd_f {b : FT} : kAnd b (false, ρ1) = some (false, ρ1) := rfl
def kOr (b : FT) : Bool × Env → Option (Bool × Env)
  | (true, ρ1) => some (true, ρ1)
  | (false, ρ1) => b ρ1
@[simp] theorem at_or {a b : FT} : gOr a b ρ = (a ρ).bind (kOr b) := by
  unfold gOr; rcases a ρ with _ | ⟨_ | _, _⟩ <;> rfl
@[simp] theorem kOr_t {b : FT} : kOr b (true, ρ1) = some (true, ρ1) := rfl
@[simp] theorem kOr_f {b : FT} : kOr b (false, ρ1) = b ρ1 := rfl
def kNot : Bool × Env → Bool × Env := fun p => (!p.1, p.2)
@[simp] theorem kNot_at {c} : kNot (c, ρ1) = (!c, ρ1) := rfl
@[simp] theorem at_not {a : FT} : gNot a ρ = (a ρ).map kNot := by
  unfold gNot; rcases a ρ with _ | ⟨_, _⟩ <;> rfl
def kAndV (b : FD) : D × Env → Option (D × Env)
  | (.bl true, ρ1) => b ρ1
  | (.bl false, ρ1) => some (.bl false, ρ1)
  | _ => none
@[simp] theorem at_AndV {a b : FD} : gAndV a b ρ = (a ρ).bind (kAndV b) := by
  unfold gAndV
  rcases a ρ with _ | ⟨d, _⟩
  · rfl
  · cases d with
    | bl b => cases b <;> rfl
    | _ => rfl
@[simp] theorem kAndV_t {b : FD} : kAndV b (.bl true, ρ1) = b ρ1 := rfl
@[simp] theorem kAndV_f {b : FD} : kAndV b (.bl false, ρ1) = some (.bl false, ρ1) := rfl
def kOrV (b : FD) : D × Env → Option (D × Env)
  | (.bl true, ρ1) => some (.bl true, ρ1)
  | (.bl false, ρ1) => b ρ1
  | _ => none
@[simp] theorem at_OrV {a b : FD} : gOrV a b ρ = (a ρ).bind (kOrV b) := by
  unfold gOrV
  rcases a ρ with _ | ⟨d, _⟩
  · rfl
  · cases d with
    | bl b => cases b <;> rfl
    | _ => rfl
@[simp] theorem kOrV_t {b : FD} : kOrV b (.bl true, ρ1) = some (.bl true, ρ1) := rfl
@[simp] theorem kOrV_f {b : FD} : kOrV b (.bl false, ρ1) = b ρ1 := rfl
def kNotV : D × Env → Option (D × Env)
  | (.bl b, ρ1) => some (.bl (!b), ρ1)
  | _ => none
@[simp] theorem at_notV {a : FD} : gNotV a ρ = (a ρ).bind kNotV := by
  unfold gNotV
  rcases a ρ with _ | ⟨d, _⟩
  · rfl
  · cases d <;> rfl
@[simp] theorem kNotV_at {b} : kNotV (.bl b, ρ1) = some (.bl (!b), ρ1) := rfl
def kNeg : D × Env → Option (D × Env)
  | (.int i, ρ1) => some (.int (-i), ρ1)
  | _ => none
@[simp] theorem at_neg {a : FD} : gNeg a ρ = (a ρ).bind kNeg := by
  unfold gNeg
  rcases a ρ with _ | ⟨d, _⟩
  · rfl
  · cases d <;> rfl
@[simp] theorem kNeg_at {i} : kNeg (.int i, ρ1) = some (.int (-i), ρ1) := rfl
def kC2 (d : D) : List D × Env → List D × Env := fun p => (d :: p.1, p.2)
@[simp] theorem kC2_at {d ds} : kC2 d (ds, ρ1) = (d :: ds, ρ1) := rfl
def kC1 (gr : FL) : D × Env → Option (List D × Env) := fun p => (gr p.2).map (kC2 p.1)
@[simp] theorem kC1_at {gr : FL} {d} : kC1 gr (d, ρ1) = (gr ρ1).map (kC2 d) := rfl
@[simp] theorem at_cons {ga : FD} {gr : FL} : gCons ga gr ρ = (ga ρ).bind (kC1 gr) := by
  unfold gCons
  rcases ga ρ with _ | ⟨d, ρ1⟩
  · rfl
  · simp only [Option.bind_some, kC1_at]
    rcases gr ρ1 with _ | ⟨_, _⟩ <;> rfl
def kTup : List D × Env → Option (D × Env) := fun p => if p.1.length ≤ SZ then some (.tup p.1, p.2) else none
@[simp] theorem kTup_at {ds} : kTup (ds, ρ1) = if ds.length ≤ SZ then some (.tup ds, ρ1) else none := rfl
@[simp] theorem at_tup {g : FL} : gTup g ρ = (g ρ).bind kTup := by
  unfold gTup; rcases g ρ with _ | ⟨_, _⟩ <;> rfl
def kLst : List D × Env → Option (D × Bool × Env) := fun p => if p.1.length ≤ SZ then some (.lst p.1, true, p.2) else none
@[simp] theorem kLst_at {ds} : kLst (ds, ρ1) = if ds.length ≤ SZ then some (.lst ds, true, ρ1) else none := rfl
@[simp] theorem at_lst {g : FL} : gLst g ρ = (g ρ).bind kLst := by
  unfold gLst; rcases g ρ with _ | ⟨_, _⟩ <;> rfl
def kV2 (d : D) : List Ar × Env → List Ar × Env := fun p => (.va d :: p.1, p.2)
@[simp] theorem kV2_at {d ds} : kV2 d (ds, ρ1) = (.va d :: ds, ρ1) := rfl
def kV1 (gr : FAr) : D × Env → Option (List Ar × Env) := fun p => (gr p.2).map (kV2 p.1)
@[simp] theorem kV1_at {gr : FAr} {d} : kV1 gr (d, ρ1) = (gr ρ1).map (kV2 d) := rfl
@[simp] theorem at_va {ga : FD} {gr : FAr} : gVa ga gr ρ = (ga ρ).bind (kV1 gr) := by
  unfold gVa
  rcases ga ρ with _ | ⟨d, ρ1⟩
  · rfl
  · simp only [Option.bind_some, kV1_at]
    rcases gr ρ1 with _ | ⟨_, _⟩ <;> rfl
def kBo2 (i : Nat) : List Ar × Env → List Ar × Env := fun p => (.bo i :: p.1, p.2)
@[simp] theorem kBo2_at {i ds} : kBo2 i (ds, ρ1) = (.bo i :: ds, ρ1) := rfl
def kBo1 (i : Nat) (gr : FAr) (ρ : Env) : D → Option (List Ar × Env) := fun _ => (gr ρ).map (kBo2 i)
@[simp] theorem kBo1_at {i} {gr : FAr} {d} : kBo1 i gr ρ d = (gr ρ).map (kBo2 i) := rfl
@[simp] theorem at_bo {i} {gr : FAr} : gBo i gr ρ = (look ρ i).bind (kBo1 i gr ρ) := by
  unfold gBo
  rcases look ρ i with _ | d
  · rfl
  · simp only [Option.bind_some, kBo1_at]
    rcases gr ρ with _ | ⟨_, _⟩ <;> rfl
def kLd (x : Bool) (d : D) : List Bool × List D × Env → List Bool × List D × Env := fun p => (x :: p.1, d :: p.2.1, p.2.2)
@[simp] theorem kLd_at {x d b ds} : kLd x d (b, ds, ρ1) = (x :: b, d :: ds, ρ1) := rfl
@[simp] theorem lend_nil : lend [] ρ = some ([], [], ρ) := rfl
@[simp] theorem lend_va {d r} : lend (.va d :: r) ρ = (lend r ρ).map (kLd false d) := by
  rw [lend]; rcases lend r ρ with _ | ⟨_, _, _⟩ <;> rfl
def kLb (i : Nat) (r : List Ar) (ρ : Env) : Option Sl → Option (List Bool × List D × Env)
  | some (.ow d) => (lend r (ρ.set i .no)).map (kLd true d)
  | some (.bo _ d) => (lend r (ρ.set i .no)).map (kLd true d)
  | some (.sh _) => none
  | some .no => none
  | none => none
@[simp] theorem lend_bo {i r} : lend (.bo i :: r) ρ = kLb i r ρ ρ[i]? := by
  rw [lend]
  rcases ρ[i]? with _ | _ | _ | d | ⟨k, d⟩
  · rfl
  · rfl
  · rfl
  · show _ = (lend r (ρ.set i .no)).map (kLd true d)
    dsimp only
    rcases lend r (ρ.set i .no) with _ | ⟨_, _, _⟩ <;> rfl
  · show _ = (lend r (ρ.set i .no)).map (kLd true d)
    dsimp only
    rcases lend r (ρ.set i .no) with _ | ⟨_, _, _⟩ <;> rfl
@[simp] theorem kLb_ow {i r d} : kLb i r ρ (some (.ow d)) = (lend r (ρ.set i .no)).map (kLd true d) := rfl
@[simp] theorem kLb_bo {i r k d} : kLb i r ρ (some (.bo k d)) = (lend r (ρ.set i .no)).map (kLd true d) := rfl
@[simp] theorem give_nil {ds} : give ρ [] ds ρ1 = some ρ1 := by unfold give; rfl
@[simp] theorem give_va {d r ds} : give ρ (.va d :: r) ds ρ1 = give ρ r ds ρ1 := by rw [give]
def kGv (ρ : Env) (i : Nat) (r : List Ar) (d : D) (ds : List D) (ρ1 : Env) : Sl → Option Env := fun x => give ρ r ds (ρ1.set i (reSl x d))
@[simp] theorem kGv_at {i r d ds x} : kGv ρ i r d ds ρ1 x = give ρ r ds (ρ1.set i (reSl x d)) := rfl
@[simp] theorem give_bo {i d r ds} : give ρ (.bo i :: r) (d :: ds) ρ1 = ρ[i]?.bind (kGv ρ i r d ds ρ1) := by
  rw [give]; rcases ρ[i]? with _ | _ <;> rfl
@[simp] theorem reSl_bo {k d e} : reSl (.bo k d) e = .bo k e := rfl
@[simp] theorem reSl_ow {d e} : reSl (.ow d) e = .ow e := rfl
def kCl4 (d : D) (w : Bool) : Env → D × Bool × Env := fun ρ => (d, w, ρ)
@[simp] theorem kCl4_at {d w} : kCl4 d w ρ = (d, w, ρ) := rfl
def kCl3 (ars : List Ar) (ρ1 ρ2 : Env) : D × Bool × List D → Option (D × Bool × Env) := fun p => (give ρ1 ars p.2.2 ρ2).map (kCl4 p.1 p.2.1)
@[simp] theorem kCl3_at {ars d w ds} {ρ2 : Env} : kCl3 ars ρ1 ρ2 (d, w, ds) = (give ρ1 ars ds ρ2).map (kCl4 d w) := rfl
def kCl2 (bo : List Bool) (G : FnD) (dd : List D) (ars : List Ar) (ρ1 : Env) : List Bool × List D × Env → Option (D × Bool × Env) := fun p => if p.1 ++ dd.map (fun _ => false) = bo then (G (p.2.1 ++ dd)).bind (kCl3 ars ρ1 p.2.2) else none
@[simp] theorem kCl2_at {bo} {G : FnD} {dd ars b ds} {ρ2 : Env} : kCl2 bo G dd ars ρ1 (b, ds, ρ2) = if b ++ dd.map (fun _ => false) = bo then (G (ds ++ dd)).bind (kCl3 ars ρ1 ρ2) else none := rfl
def kCl1 (bo : List Bool) (G : FnD) (dd : List D) : List Ar × Env → Option (D × Bool × Env) := fun p => (lend p.1 p.2).bind (kCl2 bo G dd p.1 p.2)
@[simp] theorem kCl1_at {bo} {G : FnD} {dd ars} : kCl1 bo G dd (ars, ρ1) = (lend ars ρ1).bind (kCl2 bo G dd ars ρ1) := rfl
@[simp] theorem at_call {bo} {G : FnD} {dd} {ga : FAr} : gCallD bo G dd ga ρ = (ga ρ).bind (kCl1 bo G dd) := by
  unfold gCallD
  rcases ga ρ with _ | ⟨ars, ρ1⟩
  · rfl
  · simp only [Option.bind_some, kCl1_at]
    rcases lend ars ρ1 with _ | ⟨b, ds, ρ2⟩
    · rfl
    · simp only [Option.bind_some, kCl2_at]
      split
      · rcases G (ds ++ dd) with _ | ⟨d, w, ds'⟩
        · rfl
        · simp only [Option.bind_some, kCl3_at]
          rcases give ρ1 ars ds' ρ2 with _ | _ <;> rfl
      · rfl
def kP3 (i : Nat) (d : D) (k : D) (ρ : Env) : Option Sl → Option (Fl × Env)
  | some (.ow c) => (putD c k d).map fun c' => (.nx, ρ.set i (.ow c'))
  | some (.bo n c) => (putD c k d).map fun c' => (.nx, ρ.set i (.bo n c'))
  | some (.sh _) => none
  | some .no => none
  | none => none
@[simp] theorem kP3_ow {i d k c} : kP3 i d k ρ (some (.ow c)) = (putD c k d).map fun c' => (.nx, ρ.set i (.ow c')) := rfl
@[simp] theorem kP3_bo {i d k n c} : kP3 i d k ρ (some (.bo n c)) = (putD c k d).map fun c' => (.nx, ρ.set i (.bo n c')) := rfl
def kP2 (i : Nat) (d : D) : D × Env → Option (Fl × Env) := fun p => kP3 i d p.1 p.2 p.2[i]?
@[simp] theorem kP2_at {i d k} : kP2 i d (k, ρ1) = kP3 i d k ρ1 ρ1[i]? := rfl
def kP1 (d : D) (i : Nat) (gk : FD) (ρ : Env) : D → Option (Fl × Env) := fun _ => (gk ρ).bind (kP2 i d)
@[simp] theorem kP1_at {d i z} {gk : FD} : kP1 d i gk ρ z = (gk ρ).bind (kP2 i d) := rfl
def kP0 (i : Nat) (gk : FD) : D × Env → Option (Fl × Env) := fun p => (look p.2 i).bind (kP1 p.1 i gk p.2)
@[simp] theorem kP0_at {i d} {gk : FD} : kP0 i gk (d, ρ1) = (look ρ1 i).bind (kP1 d i gk ρ1) := rfl
@[simp] theorem at_put {i} {ge gk : FD} : gPut i ge gk ρ = (ge ρ).bind (kP0 i gk) := by
  unfold gPut
  rcases ge ρ with _ | ⟨d, ρ1⟩
  · rfl
  · simp only [Option.bind_some, kP0_at]
    rcases look ρ1 i with _ | z
    · rfl
    · simp only [Option.bind_some, kP1_at]
      rcases gk ρ1 with _ | ⟨k, ρ2⟩
      · rfl
      · simp only [Option.bind_some, kP2_at]
        rcases ρ2[i]? with _ | _ | _ | c | ⟨n, c⟩
        · rfl
        · rfl
        · rfl
        · simp only [kP3_ow]; rcases putD c k d with _ | _ <;> rfl
        · simp only [kP3_bo]; rcases putD c k d with _ | _ <;> rfl
def kS3 (f : D → Option Int → Option Int → Option D) (x : Opd) (lo : Option Int) : Option Int × Env → Option (D × Env) := fun p => (res p.2 x).bind fun dx => (f dx lo p.1).map (kWith p.2)
@[simp] theorem kS3_at {f : D → Option Int → Option Int → Option D} {x lo hi} : kS3 f x lo (hi, ρ1) = (res ρ1 x).bind fun dx => (f dx lo hi).map (kWith ρ1) := rfl
def kS2 (f : D → Option Int → Option Int → Option D) (gh : FP) (x : Opd) : Option Int × Env → Option (D × Env) := fun p => (gh p.2).bind (kS3 f x p.1)
@[simp] theorem kS2_at {f : D → Option Int → Option Int → Option D} {gh : FP} {x lo} : kS2 f gh x (lo, ρ1) = (gh ρ1).bind (kS3 f x lo) := rfl
def kS1 (f : D → Option Int → Option Int → Option D) (gl gh : FP) : Opd × Env → Option (D × Env) := fun p => (gl p.2).bind (kS2 f gh p.1)
@[simp] theorem kS1_at {f : D → Option Int → Option Int → Option D} {gl gh : FP} {x} : kS1 f gl gh (x, ρ1) = (gl ρ1).bind (kS2 f gh x) := rfl
@[simp] theorem at_sl {f : D → Option Int → Option Int → Option D} {oa : FO} {gl gh : FP} : gSl f oa gl gh ρ = (oa ρ).bind (kS1 f gl gh) := by
  unfold gSl
  rcases oa ρ with _ | ⟨x, ρ1⟩
  · rfl
  · simp only [Option.bind_some, kS1_at]
    rcases gl ρ1 with _ | ⟨lo, ρ2⟩
    · rfl
    · simp only [Option.bind_some, kS2_at]
      rcases gh ρ2 with _ | ⟨hi, ρ3⟩
      · rfl
      · simp only [Option.bind_some, kS3_at]
        rcases res ρ3 x with _ | dx
        · rfl
        · simp only [Option.bind_some]
          rcases f dx lo hi with _ | _ <;> rfl
def kPa : D × Env → Option (Option Int × Env)
  | (.int i, ρ) => some (some i, ρ)
  | _ => none
@[simp] theorem kPa_at {i} : kPa (.int i, ρ1) = some (some i, ρ1) := rfl
@[simp] theorem at_part {g : FD} : gPart g ρ = (g ρ).bind kPa := by
  unfold gPart
  rcases g ρ with _ | ⟨d, _⟩
  · rfl
  · cases d <;> rfl
def kSq : D × Env → Option (List D × Env)
  | (.lst xs, ρ1) => some (xs, ρ1)
  | (.tup xs, ρ1) => some (xs, ρ1)
  | _ => none
@[simp] theorem kSq_lst {xs} : kSq (.lst xs, ρ1) = some (xs, ρ1) := rfl
@[simp] theorem kSq_tup {xs} : kSq (.tup xs, ρ1) = some (xs, ρ1) := rfl
@[simp] theorem at_sq {g : FD} : gSq g ρ = (g ρ).bind kSq := by
  unfold gSq
  rcases g ρ with _ | ⟨d, _⟩
  · rfl
  · cases d <;> rfl
def kR1 : List D × Env → Option (List D × Env)
  | ([.int j], ρ1) => if j ≤ 100000 ∧ -100000 ≤ j then some (rngD 0 j.toNat, ρ1) else none
  | _ => none
@[simp] theorem kR1_at {j} : kR1 ([.int j], ρ1) = if j ≤ 100000 ∧ -100000 ≤ j then some (rngD 0 j.toNat, ρ1) else none := rfl
@[simp] theorem at_rng1 {g : FL} : gRng1 g ρ = (g ρ).bind kR1 := by
  unfold gRng1 kR1
  rcases g ρ with _ | ⟨ds, ρ1⟩
  · rfl
  · simp only [Option.bind_some]
    split <;> rename_i h <;> simp_all
def kR2 : List D × Env → Option (List D × Env)
  | ([.int i, .int j], ρ1) => if (i ≤ 100000 ∧ -100000 ≤ i) ∧ j ≤ 100000 ∧ -100000 ≤ j then some (rngD i (j - i).toNat, ρ1) else none
  | _ => none
@[simp] theorem kR2_at {i j} : kR2 ([.int i, .int j], ρ1) = if (i ≤ 100000 ∧ -100000 ≤ i) ∧ j ≤ 100000 ∧ -100000 ≤ j then some (rngD i (j - i).toNat, ρ1) else none := rfl
@[simp] theorem at_rng2 {g : FL} : gRng2 g ρ = (g ρ).bind kR2 := by
  unfold gRng2 kR2
  rcases g ρ with _ | ⟨ds, ρ1⟩
  · rfl
  · simp only [Option.bind_some]
    split <;> rename_i h <;> simp_all
def kZ : List D × Env → Option (List D × Env)
  | ([.lst xs, .lst ys], ρ1) => some (zipD xs ys, ρ1)
  | ([.tup xs, .tup ys], ρ1) => some (zipD xs ys, ρ1)
  | _ => none
@[simp] theorem kZ_lst {xs ys} : kZ ([.lst xs, .lst ys], ρ1) = some (zipD xs ys, ρ1) := rfl
@[simp] theorem kZ_tup {xs ys} : kZ ([.tup xs, .tup ys], ρ1) = some (zipD xs ys, ρ1) := rfl
@[simp] theorem at_zip {g : FL} : gZip g ρ = (g ρ).bind kZ := by
  unfold gZip kZ
  rcases g ρ with _ | ⟨ds, ρ1⟩
  · rfl
  · simp only [Option.bind_some]
    split <;> simp_all
@[simp] theorem at_hNm {i d} : hNm i d ρ = bind1 i d false ρ := rfl
@[simp] theorem at_hNil : hNil [] ρ = some ρ := rfl
@[simp] theorem at_hCons {h : FG} {hs : FGs} {d r} : hCons h hs (d :: r) ρ = (h d ρ).bind (hs r) := by
  show (match h d ρ with | some ρ1 => hs r ρ1 | none => none) = _
  rcases h d ρ with _ | _ <;> rfl
@[simp] theorem at_hTup {n} {h : FGs} {ds} : hTup n h (.tup ds) ρ = if ds.length = n then h ds ρ else none := rfl
def kFo2 (h : FG) (body : FS) (ds : List D) : Fl × Env → Option (Fl × Env)
  | (.nx, ρ2) => forD h body ds ρ2
  | (.ct, ρ2) => forD h body ds ρ2
  | (.br, ρ2) => some (.nx, ρ2)
  | (.rt d w, ρ2) => some (.rt d w, ρ2)
@[simp] theorem kFo2_nx {h : FG} {body : FS} {ds} : kFo2 h body ds (.nx, ρ1) = forD h body ds ρ1 := rfl
@[simp] theorem kFo2_ct {h : FG} {body : FS} {ds} : kFo2 h body ds (.ct, ρ1) = forD h body ds ρ1 := rfl
@[simp] theorem kFo2_br {h : FG} {body : FS} {ds} : kFo2 h body ds (.br, ρ1) = some (.nx, ρ1) := rfl
@[simp] theorem kFo2_rt {h : FG} {body : FS} {ds d w} : kFo2 h body ds (.rt d w, ρ1) = some (.rt d w, ρ1) := rfl
def kFo1 (h : FG) (body : FS) (ds : List D) : Env → Option (Fl × Env) := fun ρ => (body ρ).bind (kFo2 h body ds)
@[simp] theorem kFo1_at {h : FG} {body : FS} {ds} : kFo1 h body ds ρ = (body ρ).bind (kFo2 h body ds) := rfl
@[simp] theorem forD_nil {h : FG} {body : FS} : forD h body [] ρ = some (.nx, ρ) := rfl
theorem forD_cons {h : FG} {body : FS} {d ds} : forD h body (d :: ds) ρ = (h d ρ).bind (kFo1 h body ds) := by
  rw [forD]
  rcases h d ρ with _ | ρ1
  · rfl
  · simp only [Option.bind_some, kFo1_at]
    rcases body ρ1 with _ | ⟨_ | _ | _ | _, _⟩ <;> rfl
def kFor (h : FG) (body : FS) : List D × Env → Option (Fl × Env) := fun p => forD h body p.1 p.2
@[simp] theorem kFor_at {h : FG} {body : FS} {ds} : kFor h body (ds, ρ1) = forD h body ds ρ1 := rfl
@[simp] theorem at_for {gi : FL} {h : FG} {body : FS} : gFor gi h body ρ = (gi ρ).bind (kFor h body) := by
  unfold gFor; rcases gi ρ with _ | ⟨_, _⟩ <;> rfl
def kY (y : D) : List D × Env → List D × Env := fun p => (y :: p.1, p.2)
@[simp] theorem kY_at {y ys} : kY y (ys, ρ1) = (y :: ys, ρ1) := rfl
def kCo3 (vs : List Nat) (h : FG) (tt : FT) (te : FD) (ds : List D) : D × Env → Option (List D × Env) := fun p => (compD vs h tt te ds (wipeE p.2 vs)).map (kY p.1)
@[simp] theorem kCo3_at {vs} {h : FG} {tt : FT} {te : FD} {ds y} : kCo3 vs h tt te ds (y, ρ1) = (compD vs h tt te ds (wipeE ρ1 vs)).map (kY y) := rfl
def kCo2 (vs : List Nat) (h : FG) (tt : FT) (te : FD) (ds : List D) : Bool × Env → Option (List D × Env)
  | (true, ρ) => (te ρ).bind (kCo3 vs h tt te ds)
  | (false, ρ) => compD vs h tt te ds (wipeE ρ vs)
@[simp] theorem kCo2_t {vs} {h : FG} {tt : FT} {te : FD} {ds} : kCo2 vs h tt te ds (true, ρ1) = (te ρ1).bind (kCo3 vs h tt te ds) := rfl
@[simp] theorem kCo2_f {vs} {h : FG} {tt : FT} {te : FD} {ds} : kCo2 vs h tt te ds (false, ρ1) = compD vs h tt te ds (wipeE ρ1 vs) := rfl
def kCo1 (vs : List Nat) (h : FG) (tt : FT) (te : FD) (ds : List D) : Env → Option (List D × Env) := fun ρ => (tt ρ).bind (kCo2 vs h tt te ds)
@[simp] theorem kCo1_at {vs} {h : FG} {tt : FT} {te : FD} {ds} : kCo1 vs h tt te ds ρ = (tt ρ).bind (kCo2 vs h tt te ds) := rfl
@[simp] theorem compD_nil {vs} {h : FG} {tt : FT} {te : FD} : compD vs h tt te [] ρ = some ([], ρ) := rfl
theorem compD_cons {vs} {h : FG} {tt : FT} {te : FD} {d ds} : compD vs h tt te (d :: ds) ρ = (h d ρ).bind (kCo1 vs h tt te ds) := by
  rw [compD]
  rcases h d ρ with _ | ρ1
  · rfl
  · simp only [Option.bind_some, kCo1_at]
    rcases tt ρ1 with _ | ⟨_ | _, ρ2⟩
    · rfl
    · rfl
    · simp only [Option.bind_some, kCo2_t]
      rcases te ρ2 with _ | ⟨y, ρ3⟩
      · rfl
      · simp only [Option.bind_some, kCo3_at]
        rcases compD vs h tt te ds (wipeE ρ3 vs) with _ | ⟨_, _⟩ <;> rfl
def kCm2 (vs : List Nat) (ρ0 : Env) : List D × Env → Option (D × Bool × Env) := fun p => if p.1.length ≤ SZ then some (.lst p.1, true, backE ρ0 p.2 vs) else none
@[simp] theorem kCm2_at {vs ys} : kCm2 vs ρ (ys, ρ1) = if ys.length ≤ SZ then some (.lst ys, true, backE ρ ρ1 vs) else none := rfl
def kCm1 (vs : List Nat) (h : FG) (tt : FT) (te : FD) : List D × Env → Option (D × Bool × Env) := fun p => if okOwn p.2 vs = true then (compD vs h tt te p.1 (wipeE p.2 vs)).bind (kCm2 vs p.2) else none
@[simp] theorem kCm1_at {vs} {h : FG} {tt : FT} {te : FD} {items} : kCm1 vs h tt te (items, ρ1) = if okOwn ρ1 vs = true then (compD vs h tt te items (wipeE ρ1 vs)).bind (kCm2 vs ρ1) else none := rfl
@[simp] theorem at_comp {vs} {gi : FL} {h : FG} {tt : FT} {te : FD} : gComp vs gi h tt te ρ = (gi ρ).bind (kCm1 vs h tt te) := by
  unfold gComp
  rcases gi ρ with _ | ⟨items, ρ1⟩
  · rfl
  · simp only [Option.bind_some, kCm1_at]
    split
    · rcases compD vs h tt te items (wipeE ρ1 vs) with _ | ⟨ys, ρ2⟩ <;> rfl
    · rfl
@[simp] theorem at_yes : tYesD ρ = some (true, ρ) := rfl
@[simp] theorem wipe_nil : wipeE ρ [] = ρ := rfl
@[simp] theorem wipe_cons {v vs} : wipeE ρ (v :: vs) = (wipeE ρ vs).set v .no := rfl
@[simp] theorem back_nil : backE ρ ρ1 [] = ρ1 := rfl
@[simp] theorem back_cons {v vs} : backE ρ ρ1 (v :: vs) = (backE ρ ρ1 vs).set v (ρ.getD v .no) := rfl
def kOO : Option Sl → Bool
  | some .no => true
  | some (.sh _) => true
  | some (.ow _) => false
  | some (.bo _ _) => false
  | none => false
@[simp] theorem kOO_no : kOO (some .no) = true := rfl
@[simp] theorem kOO_sh {d} : kOO (some (.sh d)) = true := rfl
@[simp] theorem okOwn_nil : okOwn ρ [] = true := rfl
@[simp] theorem okOwn_cons {v vs} : okOwn ρ (v :: vs) = (kOO ρ[v]? && okOwn ρ vs) := by
  rw [okOwn]; rcases ρ[v]? with _ | _ | _ | _ | _ <;> rfl
def kAs (h : FG) : D × Env → Option (Fl × Env) := fun p => (h p.1 p.2).map kNx
@[simp] theorem kAs_at {h : FG} {d} : kAs h (d, ρ1) = (h d ρ1).map kNx := rfl
@[simp] theorem at_asg {g : FD} {h : FG} : gAsg g h ρ = (g ρ).bind (kAs h) := by
  unfold gAsg
  rcases g ρ with _ | ⟨d, ρ1⟩
  · rfl
  · simp only [Option.bind_some, kAs_at]
    rcases h d ρ1 with _ | _ <;> rfl
def kPr2 (j : Nat) (d : D) (w : Bool) : Env → Option (Fl × Env) := fun ρ => (bind1 j d w ρ).map kNx
@[simp] theorem kPr2_at {j d w} : kPr2 j d w ρ = (bind1 j d w ρ).map kNx := rfl
def kPr1 (i j : Nat) (d : D) (w : Bool) : D × Bool × Env → Option (Fl × Env) := fun p => (bind1 i d w p.2.2).bind (kPr2 j p.1 p.2.1)
@[simp] theorem kPr1_at {i j d w e x} : kPr1 i j d w (e, x, ρ1) = (bind1 i d w ρ1).bind (kPr2 j e x) := rfl
def kPr0 (i j : Nat) (gb : FW) : D × Bool × Env → Option (Fl × Env) := fun p => (gb p.2.2).bind (kPr1 i j p.1 p.2.1)
@[simp] theorem kPr0_at {i j d w} {gb : FW} : kPr0 i j gb (d, w, ρ1) = (gb ρ1).bind (kPr1 i j d w) := rfl
@[simp] theorem at_par {i j} {ga gb : FW} : gPar i j ga gb ρ = (ga ρ).bind (kPr0 i j gb) := by
  unfold gPar
  rcases ga ρ with _ | ⟨d, w, ρ1⟩
  · rfl
  · simp only [Option.bind_some, kPr0_at]
    rcases gb ρ1 with _ | ⟨d', w', ρ2⟩
    · rfl
    · simp only [Option.bind_some, kPr1_at]
      rcases bind1 i d w ρ2 with _ | ρ3
      · rfl
      · simp only [Option.bind_some, kPr2_at]
        rcases bind1 j d' w' ρ3 with _ | _ <;> rfl
def kAu2 (i : Nat) (d : Option D) (ρ : Env) : Option (Fl × Env) := d.bind fun d => (bind1 i d false ρ).map kNx
@[simp] theorem kAu2_at {i d} : kAu2 i (some d) ρ = (bind1 i d false ρ).map kNx := rfl
def kAu1 (i : Nat) (f : D → D → Option D) (d0 : D) : D × Env → Option (Fl × Env) := fun p => kAu2 i (f d0 p.1) p.2
@[simp] theorem kAu1_at {i} {f : D → D → Option D} {d0 d} : kAu1 i f d0 (d, ρ1) = kAu2 i (f d0 d) ρ1 := rfl
def kAu0 (i : Nat) (f : D → D → Option D) (g : FD) (ρ : Env) : Option Sl → Option (Fl × Env)
  | some (.sh d0) => (g ρ).bind (kAu1 i f d0)
  | _ => none
@[simp] theorem kAu0_sh {i} {f : D → D → Option D} {g : FD} {d0} : kAu0 i f g ρ (some (.sh d0)) = (g ρ).bind (kAu1 i f d0) := rfl
@[simp] theorem at_aug {i} {f : D → D → Option D} {g : FD} : gAug i f g ρ = kAu0 i f g ρ ρ[i]? := by
  unfold gAug
  rcases ρ[i]? with _ | _ | d0 | _ | _
  · rfl
  · rfl
  · simp only [kAu0_sh]
    rcases g ρ with _ | ⟨d1, ρ1⟩
    · rfl
    · simp only [Option.bind_some, kAu1_at]
      rcases f d0 d1 with _ | d
      · rfl
      · simp only [kAu2_at]
        rcases bind1 i d false ρ1 with _ | _ <;> rfl
  · rfl
  · rfl
def kRn (bo : List Bool) : Fl × Env → Option (D × Bool × List D)
  | (.rt d w, ρ) => (finB bo 0 ρ).map fun ds => (d, w, ds)
  | (.nx, ρ) => (finB bo 0 ρ).map fun ds => (.non, false, ds)
  | (.br, _) => none
  | (.ct, _) => none
@[simp] theorem kRn_rt {bo d w} : kRn bo (.rt d w, ρ1) = (finB bo 0 ρ1).map fun ds => (d, w, ds) := rfl
@[simp] theorem kRn_nx {bo} : kRn bo (.nx, ρ1) = (finB bo 0 ρ1).map fun ds => (.non, false, ds) := rfl
theorem at_run {bo n} {g : FS} {ds} : runG bo n g ds = (g (env0 bo ds 0 ++ List.replicate (n - ds.length) .no)).bind (kRn bo) := by
  unfold runG
  rcases g _ with _ | ⟨_ | _ | _ | _, ρ⟩
  · rfl
  · simp only [Option.bind_some, kRn_nx]; rcases finB bo 0 ρ with _ | _ <;> rfl
  · rfl
  · rfl
  · simp only [Option.bind_some, kRn_rt]; rcases finB bo 0 ρ with _ | _ <;> rfl
@[simp] theorem finB_nil {k} : finB [] k ρ = some [] := by unfold finB; rfl
@[simp] theorem finB_f {bo k x} : finB (false :: bo) k (x :: ρ) = finB bo k ρ := by rw [finB]
@[simp] theorem finB_t {bo k d} : finB (true :: bo) k (.bo k d :: ρ) = (finB bo (k + 1) ρ).map fun ds => d :: ds := by
  rw [finB]; rcases finB bo (k + 1) ρ with _ | _ <;> simp
@[simp] theorem env0_t {bo d ds k} : env0 (true :: bo) (d :: ds) k = .bo k d :: env0 bo ds (k + 1) := rfl
@[simp] theorem env0_f {bo d ds k} : env0 (false :: bo) (d :: ds) k = .sh d :: env0 bo ds k := rfl
@[simp] theorem env0_nil {ds k} : env0 [] ds k = [] := by unfold env0; rfl
end
@[simp] theorem sz_small {α : Type} {l : List α} (h : l.length ≤ 1000) : l.length ≤ SZ := by unfold SZ; omega
end DV

/-! DV11: what all the laws have in common: draws, same. -/
namespace DV
open L2 PySem PySem.Spec PyProof.Rows
def drawsB : FS := (gRet (gLst (gCons (shW (gOp1W lstD (oNm 0))) (gCons (fun ρ => some (.int 0, ρ)) (gCons (fun ρ => some (.int 0, ρ)) (gCons (fun ρ => some (.int 1, ρ)) (fun ρ => some ([], ρ))))))))
def drawB : FS := (gSeq (gIfS (gAnd (gT (gOp2 eqD (oD (gOp2 ixD (oNm 0) (oD (fun ρ => some (.int 2, ρ))))) (oD (fun ρ => some (.int 0, ρ))))) (gT (gOp2 ltI (oD (gOp2 ixD (oNm 0) (oD (fun ρ => some (.int 1, ρ))))) (oD (gOp1 lenD (oD (gOp2 ixD (oNm 0) (oD (fun ρ => some (.int 0, ρ)))))))))) (gSeq (gSet 2 (wD (gOp2 ixD (oD (gOp2 ixD (oNm 0) (oD (fun ρ => some (.int 0, ρ))))) (oD (gOp2 ixD (oNm 0) (oD (fun ρ => some (.int 1, ρ)))))))) (gSeq (gPut 0 (gOp2 addD (oD (gOp2 ixD (oNm 0) (oD (fun ρ => some (.int 1, ρ))))) (oD (fun ρ => some (.int 1, ρ)))) (fun ρ => some (.int 1, ρ))) (gSeq (gIfS (gT (gOp2 geI (oNm 2) (oD (gOp2 powI (oD (fun ρ => some (.int 10, ρ))) (oD (fun ρ => some (.int 18, ρ))))))) (gPut 0 (gNm 2) (fun ρ => some (.int 2, ρ))) gSkip) (gPut 0 (gOp2 modI (oD (gOp1 intD (oD (gOp2 addD (oD (gOp2 addD (oD (gOp2 mulI (oD (gOp2 ixD (oNm 0) (oD (fun ρ => some (.int 3, ρ))))) (oD (fun ρ => some (.int 48271, ρ))))) (oNm 2))) (oD (fun ρ => some (.int 13, ρ))))))) (oD (fun ρ => some (.int 2147483647, ρ)))) (fun ρ => some (.int 3, ρ)))))) gSkip) (gSeq (gIfS (gT (gOp2 gtI (oD (gOp2 ixD (oNm 0) (oD (fun ρ => some (.int 2, ρ))))) (oD (fun ρ => some (.int 0, ρ))))) (gSeq (gSet 3 (wD (gOp2 modI (oD (gOp1 intD (oD (gOp2 ixD (oNm 0) (oD (fun ρ => some (.int 2, ρ))))))) (oNm 1)))) (gSeq (gPut 0 (gOp2 divI (oD (gOp2 ixD (oNm 0) (oD (fun ρ => some (.int 2, ρ))))) (oNm 1)) (fun ρ => some (.int 2, ρ))) (gRet (gMv 3)))) gSkip) (gSeq (gPut 0 (gOp2 modI (oD (gOp1 intD (oD (gOp2 addD (oD (gOp2 mulI (oD (gOp2 ixD (oNm 0) (oD (fun ρ => some (.int 3, ρ))))) (oD (fun ρ => some (.int 69621, ρ))))) (oD (fun ρ => some (.int 7, ρ))))))) (oD (fun ρ => some (.int 2147483629, ρ)))) (fun ρ => some (.int 3, ρ))) (gRet (wD (gOp2 modI (oD (gOp1 intD (oD (gOp2 divI (oD (gOp2 ixD (oNm 0) (oD (fun ρ => some (.int 3, ρ))))) (oD (fun ρ => some (.int 11, ρ))))))) (oNm 1)))))))
def sameB (h : FnD) : FS := (gSeq (gIfS (gOr (gT (gOp2 isiD (oNm 1) (oD (fun ρ => some (.ty "tuple", ρ))))) (gT (gOp2 isiD (oNm 1) (oD (fun ρ => some (.ty "list", ρ)))))) (gSeq (gIfS (gOr (gT (gOp2 neD (oD (gOp2 isiD (oNm 1) (oD (fun ρ => some (.ty "tuple", ρ))))) (oD (gOp2 isiD (oNm 0) (oD (fun ρ => some (.ty "tuple", ρ))))))) (gT (gOp2 neD (oD (gOp2 isiD (oNm 1) (oD (fun ρ => some (.ty "list", ρ))))) (oD (gOp2 isiD (oNm 0) (oD (fun ρ => some (.ty "list", ρ)))))))) (gRet (wD (fun ρ => some (.bl false, ρ)))) gSkip) (gSeq (gIfS (gT (gOp2 neD (oD (gOp1 lenD (oNm 0))) (oD (gOp1 lenD (oNm 1))))) (gRet (wD (fun ρ => some (.bl false, ρ)))) gSkip) (gRet (wD (gOp2 eqD (oD (gOp1 lenD (oD (shW (gComp [2] (gRng1 (gCons (gOp1 lenD (oNm 1)) (fun ρ => some ([], ρ)))) (hNm 2) (gNot (gT (shW (gCallD [false, false] h [] (gVa (gOp2 ixD (oNm 0) (oNm 2)) (gVa (gOp2 ixD (oNm 1) (oNm 2)) (fun ρ => some ([], ρ)))))))) (gNm 2)))))) (oD (fun ρ => some (.int 0, ρ)))))))) gSkip) (gSeq (gIfS (gT (gOp2 isiD (oNm 1) (oD (fun ρ => some (.ty "str", ρ))))) (gRet (wD (gAndV (gOp2 isiD (oNm 0) (oD (fun ρ => some (.ty "str", ρ)))) (gOp2 eqD (oNm 0) (oNm 1))))) gSkip) (gSeq (gIfS (gT (gOp2 isD (oNm 1) (oD (fun ρ => some (.non, ρ))))) (gRet (wD (gOp2 isD (oNm 0) (oD (fun ρ => some (.non, ρ)))))) gSkip) (gSeq (gIfS (gOr (gT (gOp2 isiD (oNm 1) (oD (fun ρ => some (.ty "bool", ρ))))) (gT (gOp2 isiD (oNm 0) (oD (fun ρ => some (.ty "bool", ρ)))))) (gRet (wD (gAndV (gOp2 isiD (oNm 1) (oD (fun ρ => some (.ty "bool", ρ)))) (gAndV (gOp2 isiD (oNm 0) (oD (fun ρ => some (.ty "bool", ρ)))) (gOp2 eqD (oNm 0) (oNm 1)))))) gSkip) (gRet (wD (gAndV (gOp2 isiD (oNm 0) (oD (fun ρ => some (.ty "int", ρ)))) (gAndV (gOp2 isiD (oNm 1) (oD (fun ρ => some (.ty "int", ρ)))) (gOp2 eqD (oNm 0) (oNm 1))))))))))
/-! ### values -/
theorem atI_nat {α : Type} (xs : List α) (k : Nat) : L2.atI xs (k : Int) = xs[k]? := by
  unfold L2.atI ixN
  simp only [Int.natCast_nonneg, if_true]
  split
  · simp
  · rename_i h
    rw [List.getElem?_eq_none (by omega)]; rfl
@[simp] theorem ix_tup {xs : List D} {k : Nat} : ixD (.tup xs) (.int (k : Int)) = xs[k]? := atI_nat xs k
@[simp] theorem ix_lst {xs : List D} {k : Nat} : ixD (.lst xs) (.int (k : Int)) = xs[k]? := atI_nat xs k
@[simp] theorem ix_tup0 {xs : List D} : ixD (.tup xs) (.int 0) = xs[0]? := atI_nat xs 0
@[simp] theorem ix_lst0 {xs : List D} : ixD (.lst xs) (.int 0) = xs[0]? := atI_nat xs 0
@[simp] theorem ix_tup1 {xs : List D} : ixD (.tup xs) (.int 1) = xs[1]? := atI_nat xs 1
@[simp] theorem ix_lst1 {xs : List D} : ixD (.lst xs) (.int 1) = xs[1]? := atI_nat xs 1
@[simp] theorem ix_tup2 {xs : List D} : ixD (.tup xs) (.int 2) = xs[2]? := atI_nat xs 2
@[simp] theorem ix_lst2 {xs : List D} : ixD (.lst xs) (.int 2) = xs[2]? := atI_nat xs 2
@[simp] theorem ix_tup3 {xs : List D} : ixD (.tup xs) (.int 3) = xs[3]? := atI_nat xs 3
@[simp] theorem ix_lst3 {xs : List D} : ixD (.lst xs) (.int 3) = xs[3]? := atI_nat xs 3
@[simp] theorem ix_tup4 {xs : List D} : ixD (.tup xs) (.int 4) = xs[4]? := atI_nat xs 4
@[simp] theorem ix_lst4 {xs : List D} : ixD (.lst xs) (.int 4) = xs[4]? := atI_nat xs 4
@[simp] theorem ix_tup5 {xs : List D} : ixD (.tup xs) (.int 5) = xs[5]? := atI_nat xs 5
@[simp] theorem ix_lst5 {xs : List D} : ixD (.lst xs) (.int 5) = xs[5]? := atI_nat xs 5
@[simp] theorem ix_tup6 {xs : List D} : ixD (.tup xs) (.int 6) = xs[6]? := atI_nat xs 6
@[simp] theorem ix_lst6 {xs : List D} : ixD (.lst xs) (.int 6) = xs[6]? := atI_nat xs 6
@[simp] theorem ix_tup7 {xs : List D} : ixD (.tup xs) (.int 7) = xs[7]? := atI_nat xs 7
@[simp] theorem ix_lst7 {xs : List D} : ixD (.lst xs) (.int 7) = xs[7]? := atI_nat xs 7
@[simp] theorem ix_tup8 {xs : List D} : ixD (.tup xs) (.int 8) = xs[8]? := atI_nat xs 8
@[simp] theorem ix_lst8 {xs : List D} : ixD (.lst xs) (.int 8) = xs[8]? := atI_nat xs 8
@[simp] theorem len_tup {xs : List D} : lenD (.tup xs) = some (.int xs.length) := rfl
@[simp] theorem len_lst {xs : List D} : lenD (.lst xs) = some (.int xs.length) := rfl
@[simp] theorem len_dic {ks vs : List D} : lenD (.dic ks vs) = some (.int ks.length) := rfl
@[simp] theorem eq_int {i j : Int} : eqD (.int i) (.int j) = some (.bl (decide (i = j))) := by simp [eqD, eqS, Bool.beq_eq_decide_eq]
@[simp] theorem eq_str {i j : Str} : eqD (.str i) (.str j) = some (.bl (decide (i = j))) := by simp [eqD, eqS, Bool.beq_eq_decide_eq]
@[simp] theorem eq_bl {i j : Bool} : eqD (.bl i) (.bl j) = some (.bl (decide (i = j))) := by simp [eqD, eqS, Bool.beq_eq_decide_eq]
@[simp] theorem ne_int {i j : Int} : neD (.int i) (.int j) = some (.bl (!decide (i = j))) := by simp [neD, eqS, Bool.beq_eq_decide_eq]
@[simp] theorem ne_str {i j : Str} : neD (.str i) (.str j) = some (.bl (!decide (i = j))) := by simp [neD, eqS, Bool.beq_eq_decide_eq]
@[simp] theorem ne_bl {i j : Bool} : neD (.bl i) (.bl j) = some (.bl (!decide (i = j))) := by simp [neD, eqS, Bool.beq_eq_decide_eq]
@[simp] theorem lt_int {i j : Int} : ltI (.int i) (.int j) = some (.bl (decide (i < j))) := rfl
@[simp] theorem le_int {i j : Int} : leI (.int i) (.int j) = some (.bl (decide (i ≤ j))) := rfl
@[simp] theorem gt_int {i j : Int} : gtI (.int i) (.int j) = some (.bl (decide (j < i))) := rfl
@[simp] theorem ge_int {i j : Int} : geI (.int i) (.int j) = some (.bl (decide (j ≤ i))) := rfl
@[simp] theorem sub_int {i j : Int} : subI (.int i) (.int j) = some (.int (i - j)) := rfl
@[simp] theorem addI_int {i j : Int} : addI (.int i) (.int j) = some (.int (i + j)) := rfl
@[simp] theorem add_ints {i j : Int} : addD (.int i) (.int j) = some (.int (i + j)) := rfl
@[simp] theorem add_tup {xs ys : List D} : addD (.tup xs) (.tup ys) = if xs.length + ys.length ≤ SZ then some (.tup (xs ++ ys)) else none := rfl
@[simp] theorem add_lst {xs ys : List D} : addD (.lst xs) (.lst ys) = if xs.length + ys.length ≤ SZ then some (.lst (xs ++ ys)) else none := rfl
@[simp] theorem int_int {i : Int} : intD (.int i) = some (.int i) := rfl
@[simp] theorem tup_lst {xs : List D} : tupD (.lst xs) = some (.tup xs) := by rfl
@[simp] theorem isi_non {s} : isiD .non (.ty s) = (tgN s).map fun t => .bl (isTg .non t) := by unfold isiD; simp only [tgD]; cases tgN s <;> rfl
@[simp] theorem isi_bl {b s} : isiD (.bl b) (.ty s) = (tgN s).map fun t => .bl (isTg .bl t) := by unfold isiD; simp only [tgD]; cases tgN s <;> rfl
@[simp] theorem isi_int {b s} : isiD (.int b) (.ty s) = (tgN s).map fun t => .bl (isTg .int t) := by unfold isiD; simp only [tgD]; cases tgN s <;> rfl
@[simp] theorem isi_str {b s} : isiD (.str b) (.ty s) = (tgN s).map fun t => .bl (isTg .str t) := by unfold isiD; simp only [tgD]; cases tgN s <;> rfl
@[simp] theorem isi_tup {b s} : isiD (.tup b) (.ty s) = (tgN s).map fun t => .bl (isTg .tup t) := by unfold isiD; simp only [tgD]; cases tgN s <;> rfl
@[simp] theorem isi_lst {b s} : isiD (.lst b) (.ty s) = (tgN s).map fun t => .bl (isTg .lst t) := by unfold isiD; simp only [tgD]; cases tgN s <;> rfl
@[simp] theorem isi_dic {b c s} : isiD (.dic b c) (.ty s) = (tgN s).map fun t => .bl (isTg .dic t) := by unfold isiD; simp only [tgD]; cases tgN s <;> rfl
@[simp] theorem tgN_tuple : tgN "tuple" = some .tup := by decide
@[simp] theorem tgN_list : tgN "list" = some .lst := by decide
@[simp] theorem tgN_str : tgN "str" = some .str := by decide
@[simp] theorem tgN_int : tgN "int" = some .int := by decide
@[simp] theorem tgN_bool : tgN "bool" = some .bl := by decide
@[simp] theorem tgN_dict : tgN "dict" = some .dic := by decide
theorem isTg_eq (a b : Tg) : isTg a b = (decide (a = b) || (decide (a = .bl) && decide (b = .int))) := rfl
@[simp] theorem sl1 {x : D} {xs : List D} : slD (.tup (x :: xs)) (some 1) none = some (.tup xs) := by
  show some (D.tup (cutD (x :: xs) (some ((1 : Nat) : Int)) none)) = _
  unfold cutD
  rw [HT.sIx_nat, HT.sIx_none]
  simp only [List.length_cons, show min 1 (xs.length + 1) = 1 by omega, List.drop_succ_cons, List.drop_zero]
  rw [List.take_of_length_le (by omega)]
@[simp] theorem zip_nil : zipD [] [] = [] := rfl
@[simp] theorem zip_cons {x y : D} {xs ys : List D} : zipD (x :: xs) (y :: ys) = .tup [x, y] :: zipD xs ys := rfl
@[simp] theorem bls_nil : blsOf [] = some [] := rfl
@[simp] theorem bls_cons {b r} : blsOf (.bl b :: r) = (blsOf r).map fun bs => b :: bs := by rw [blsOf]; cases blsOf r <;> rfl
@[simp] theorem all_at {ds} : allD (.lst ds) = (blsOf ds).map fun bs => .bl (bs.all id) := by show (match blsOf ds with | some bs => _ | none => _) = _; cases blsOf ds <;> rfl
@[simp] theorem any_at {ds} : anyD (.lst ds) = (blsOf ds).map fun bs => .bl (bs.any id) := by show (match blsOf ds with | some bs => _ | none => _) = _; cases blsOf ds <;> rfl
@[simp] theorem lst_tup {xs : List D} : lstD (.tup xs) = some (.lst xs) := rfl
@[simp] theorem lst_lst {xs : List D} : lstD (.lst xs) = some (.lst xs) := rfl
@[simp] theorem lst_scr {ns : List Int} : lstD (.scr ns) = some (.lst (ns.map .int)) := rfl
@[simp] theorem sz2 {n : Nat} (h : n ≤ 1000) : n ≤ SZ := by unfold SZ; omega
@[simp] theorem sz_val : SZ = 100000 := rfl
@[simp] theorem is_non {x : D} : isD x .non = some (.bl (isNon x)) := by cases x <;> rfl
@[simp] theorem isn_non {x : D} : isnD x .non = some (.bl (!isNon x)) := by cases x <;> rfl

/-! ### same -/
mutual
/-- plain values of bounded depth -/
def pln : D → Nat → Prop
  | .non, _ => True
  | .bl _, _ => True
  | .int _, _ => True
  | .str _, _ => True
  | .tup xs, k + 1 => xs.length ≤ 1000 ∧ plnL xs k
  | .lst xs, k + 1 => xs.length ≤ 1000 ∧ plnL xs k
  | _, _ => False
def plnL : List D → Nat → Prop
  | [], _ => True
  | x :: xs, k => pln x k ∧ plnL xs k
end
theorem plnL.get {k : Nat} : ∀ {xs : List D} {i : Nat} {x : D}, plnL xs k → xs[i]? = some x → pln x k
  | [], _, _, _, e => by simp at e
  | x :: xs, 0, y, h, e => by simp at e; subst e; unfold plnL at h; exact h.1
  | x :: xs, i + 1, y, h, e => by unfold plnL at h; exact plnL.get (i := i) h.2 (by simpa using e)
theorem same_loop {h : FnD} {a : D} {xs : List D} (hx : ∀ k : Nat, ixD a (.int (k : Int)) = xs[k]?) (hh : ∀ (i : Nat) (x : D), xs[i]? = some x → h [x, x] = some (.bl true, false, [])) : ∀ l : List Nat, (∀ i ∈ l, i < xs.length) →
    compD [2] (hNm 2) (gNot (gT (shW (gCallD [false, false] h [] (gVa (gOp2 ixD (oNm 0) (oNm 2)) (gVa (gOp2 ixD (oNm 1) (oNm 2)) (fun ρ => some ([], ρ)))))))) (gNm 2) (l.map fun i => .int (0 + (i : Nat))) [.sh a, .sh a, .no] = some ([], [.sh a, .sh a, .no])
  | [], _ => rfl
  | i :: l, hl => by
    have hi := hl i List.mem_cons_self
    have e := hh i _ (List.getElem?_eq_getElem hi)
    have ex := hx i
    rw [List.getElem?_eq_getElem hi] at ex
    have ih := same_loop hx hh l fun j m => hl j (List.mem_cons_of_mem _ m)
    simp only [List.map_cons, compD_cons]
    simp [ex, e]
    simpa using ih
theorem same_ok {S : Nat → FnD} (hS : ∀ n ds, S (n + 1) ds = runG [false, false] 3 (sameB (S n)) ds) : ∀ (n : Nat) (x : D), pln x n → S (n + 1) [x, x] = some (.bl true, false, [])
  | n, .non, _ => by rw [hS]; simp [at_run, sameB, isTg_eq, isNon]
  | n, .bl b, _ => by rw [hS]; simp [at_run, sameB, isTg_eq, isNon]
  | n, .int i, _ => by rw [hS]; simp [at_run, sameB, isTg_eq, isNon]
  | n, .str s, _ => by rw [hS]; simp [at_run, sameB, isTg_eq, isNon]
  | 0, .tup xs, h => by simp [pln] at h
  | 0, .lst xs, h => by simp [pln] at h
  | n + 1, .tup xs, h => by
    unfold pln at h
    have ih : ∀ i x, xs[i]? = some x → S (n + 1) [x, x] = some (.bl true, false, []) := fun i x e => same_ok hS n x (h.2.get e)
    have lp := same_loop (a := .tup xs) (fun k => ix_tup) ih (List.range xs.length) fun i m => List.mem_range.mp m
    have hl : (xs.length : Int) ≤ 100000 := by have := h.1; omega
    have hl2 : (-100000 : Int) ≤ xs.length := by omega
    rw [hS]
    simp [at_run, sameB, isTg_eq, isNon, rngD, hl, hl2]
    simp at lp
    simp [lp]
  | n + 1, .lst xs, h => by
    unfold pln at h
    have ih : ∀ i x, xs[i]? = some x → S (n + 1) [x, x] = some (.bl true, false, []) := fun i x e => same_ok hS n x (h.2.get e)
    have lp := same_loop (a := .lst xs) (fun k => ix_lst) ih (List.range xs.length) fun i m => List.mem_range.mp m
    have hl : (xs.length : Int) ≤ 100000 := by have := h.1; omega
    have hl2 : (-100000 : Int) ≤ xs.length := by omega
    rw [hS]
    simp [at_run, sameB, isTg_eq, isNon, rngD, hl, hl2]
    simp at lp
    simp [lp]
  | n, .ty _, h => by cases n <;> simp [pln] at h
  | n, .fn _, h => by cases n <;> simp [pln] at h
  | n, .scr _, h => by cases n <;> simp [pln] at h
  | n, .dic _ _, h => by cases n <;> simp [pln] at h
  | n, .ins _ _ _ _, h => by cases n <;> simp [pln] at h

/-! ### draws -/
structure Dr where
  ns : List Int
  at_ : Nat
  big : Int
  seed : Int
def Dr.d (s : Dr) : D := .lst [.lst (s.ns.map .int), .int s.at_, .int s.big, .int s.seed]
def Dr.ok (s : Dr) : Prop := 0 ≤ s.big
@[simp] theorem put_lst {xs : List D} {k : Nat} {d : D} : putD (.lst xs) (.int (k : Int)) d = if k < xs.length then some (.lst (xs.set k d)) else none := by
  show (match ixN xs.length (k : Int) with | some j => _ | none => _) = _
  unfold ixN
  simp only [Int.natCast_nonneg, if_true]
  by_cases h : k < xs.length
  · simp [h, Int.ofNat_lt.mpr h]
  · simp [h]
@[simp] theorem put_lst1 {xs : List D} {d : D} : putD (.lst xs) (.int 1) d = if 1 < xs.length then some (.lst (xs.set 1 d)) else none := put_lst (k := 1)
@[simp] theorem put_lst2 {xs : List D} {d : D} : putD (.lst xs) (.int 2) d = if 2 < xs.length then some (.lst (xs.set 2 d)) else none := put_lst (k := 2)
@[simp] theorem put_lst3 {xs : List D} {d : D} : putD (.lst xs) (.int 3) d = if 3 < xs.length then some (.lst (xs.set 3 d)) else none := put_lst (k := 3)
@[simp] theorem put_lst4 {xs : List D} {d : D} : putD (.lst xs) (.int 4) d = if 4 < xs.length then some (.lst (xs.set 4 d)) else none := put_lst (k := 4)
theorem mod_pos {i j : Int} (h : 0 < j) : modI (.int i) (.int j) = some (.int (i % j)) := by simp [modI, h]
theorem div_pos {i j : Int} (h : 0 < j) (h2 : j < 1073741824) : divI (.int i) (.int j) = some (.int (i / j)) := by simp [divI, h, h2]
theorem mul_small {i j : Int} (h : -(2 ^ 64) < j) (h2 : j < 2 ^ 64) : mulI (.int i) (.int j) = some (.int (i * j)) := by simp only [mulI]; rw [if_pos (.inr ⟨h, h2⟩)]
theorem pow18 : powI (.int 10) (.int 18) = some (.int 1000000000000000000) := by simp [powI]
def drawH : FS := (gIfS (gAnd (gT (gOp2 eqD (oD (gOp2 ixD (oNm 0) (oD (fun ρ => some (.int 2, ρ))))) (oD (fun ρ => some (.int 0, ρ))))) (gT (gOp2 ltI (oD (gOp2 ixD (oNm 0) (oD (fun ρ => some (.int 1, ρ))))) (oD (gOp1 lenD (oD (gOp2 ixD (oNm 0) (oD (fun ρ => some (.int 0, ρ)))))))))) (gSeq (gSet 2 (wD (gOp2 ixD (oD (gOp2 ixD (oNm 0) (oD (fun ρ => some (.int 0, ρ))))) (oD (gOp2 ixD (oNm 0) (oD (fun ρ => some (.int 1, ρ)))))))) (gSeq (gPut 0 (gOp2 addD (oD (gOp2 ixD (oNm 0) (oD (fun ρ => some (.int 1, ρ))))) (oD (fun ρ => some (.int 1, ρ)))) (fun ρ => some (.int 1, ρ))) (gSeq (gIfS (gT (gOp2 geI (oNm 2) (oD (gOp2 powI (oD (fun ρ => some (.int 10, ρ))) (oD (fun ρ => some (.int 18, ρ))))))) (gPut 0 (gNm 2) (fun ρ => some (.int 2, ρ))) gSkip) (gPut 0 (gOp2 modI (oD (gOp1 intD (oD (gOp2 addD (oD (gOp2 addD (oD (gOp2 mulI (oD (gOp2 ixD (oNm 0) (oD (fun ρ => some (.int 3, ρ))))) (oD (fun ρ => some (.int 48271, ρ))))) (oNm 2))) (oD (fun ρ => some (.int 13, ρ))))))) (oD (fun ρ => some (.int 2147483647, ρ)))) (fun ρ => some (.int 3, ρ)))))) gSkip)
def drawT : FS := (gSeq (gIfS (gT (gOp2 gtI (oD (gOp2 ixD (oNm 0) (oD (fun ρ => some (.int 2, ρ))))) (oD (fun ρ => some (.int 0, ρ))))) (gSeq (gSet 3 (wD (gOp2 modI (oD (gOp1 intD (oD (gOp2 ixD (oNm 0) (oD (fun ρ => some (.int 2, ρ))))))) (oNm 1)))) (gSeq (gPut 0 (gOp2 divI (oD (gOp2 ixD (oNm 0) (oD (fun ρ => some (.int 2, ρ))))) (oNm 1)) (fun ρ => some (.int 2, ρ))) (gRet (gMv 3)))) gSkip) (gSeq (gPut 0 (gOp2 modI (oD (gOp1 intD (oD (gOp2 addD (oD (gOp2 mulI (oD (gOp2 ixD (oNm 0) (oD (fun ρ => some (.int 3, ρ))))) (oD (fun ρ => some (.int 69621, ρ))))) (oD (fun ρ => some (.int 7, ρ))))))) (oD (fun ρ => some (.int 2147483629, ρ)))) (fun ρ => some (.int 3, ρ))) (gRet (wD (gOp2 modI (oD (gOp1 intD (oD (gOp2 divI (oD (gOp2 ixD (oNm 0) (oD (fun ρ => some (.int 3, ρ))))) (oD (fun ρ => some (.int 11, ρ))))))) (oNm 1))))))
theorem draw_ok (s : Dr) (h : s.ok) {lim : Int} (h0 : 0 < lim) (h1 : lim < 1073741824) : ∃ (v : Int) (s' : Dr), s'.ok ∧ 0 ≤ v ∧ v < lim ∧ runG [true, false] 4 drawB [s.d, .int lim] = some (.int v, false, [s'.d]) := by
  obtain ⟨ns, i, b, l⟩ := s
  have hb : 0 ≤ b := h
  -- what the second half does
  have tail : ∀ (i' : Nat) (b' l' : Int), 0 ≤ b' → ∀ x2 : Sl, ∃ (v : Int) (s' : Dr), s'.ok ∧ 0 ≤ v ∧ v < lim ∧ (drawT [.bo 0 (Dr.mk ns i' b' l').d, .sh (.int lim), x2, .no]).bind (kRn [true, false]) = some (.int v, false, [s'.d]) := fun i' b' l' hb' x2 => by
    by_cases hp : 0 < b'
    · refine ⟨b' % lim, ⟨ns, i', b' / lim, l'⟩, Int.ediv_nonneg hb' (by omega), Int.emod_nonneg _ (by omega), Int.emod_lt_of_pos _ h0, ?_⟩
      simp [drawT, Dr.d, hp, mod_pos h0, div_pos h0 h1]
    · refine ⟨(l' * 69621 + 7) % 2147483629 / 11 % lim, ⟨ns, i', b', (l' * 69621 + 7) % 2147483629⟩, hb', Int.emod_nonneg _ (by omega), Int.emod_lt_of_pos _ h0, ?_⟩
      simp [drawT, Dr.d, hp, mod_pos h0, mod_pos (show (0 : Int) < 2147483629 by decide), div_pos (show (0 : Int) < 11 by decide) (by decide), mul_small (i := l') (show -(2 ^ 64) < (69621 : Int) by decide) (by decide)]
  have split : ∀ ρ, drawB ρ = (drawH ρ).bind (kSeq drawT) := fun ρ => at_seq
  rw [at_run, split]
  by_cases hc : b = 0 ∧ i < ns.length
  · obtain ⟨rfl, hi⟩ := hc
    obtain ⟨c, hcell⟩ : ∃ c, ns[i]? = some c := ⟨_, List.getElem?_eq_getElem hi⟩
    have hi' : (i : Int) < ns.length := by omega
    by_cases hbig : 1000000000000000000 ≤ c
    · obtain ⟨v, s', r1, r2, r3, r4⟩ := tail (i + 1) c ((l * 48271 + c + 13) % 2147483647) (by omega) (.sh (.int c))
      refine ⟨v, s', r1, r2, r3, ?_⟩
      rw [← r4]
      congr 1
      simp [drawH, Dr.d, hi', hcell, hbig, pow18, mod_pos (show (0 : Int) < 2147483647 by decide), mul_small (i := l) (show -(2 ^ 64) < (48271 : Int) by decide) (by decide)]
    · obtain ⟨v, s', r1, r2, r3, r4⟩ := tail (i + 1) 0 ((l * 48271 + c + 13) % 2147483647) (by omega) (.sh (.int c))
      refine ⟨v, s', r1, r2, r3, ?_⟩
      rw [← r4]
      congr 1
      simp [drawH, Dr.d, hi', hcell, hbig, pow18, mod_pos (show (0 : Int) < 2147483647 by decide), mul_small (i := l) (show -(2 ^ 64) < (48271 : Int) by decide) (by decide)]
  · obtain ⟨v, s', r1, r2, r3, r4⟩ := tail i b l hb .no
    refine ⟨v, s', r1, r2, r3, ?_⟩
    rw [← r4]
    congr 1
    by_cases hz : b = 0
    · subst hz
      have hi : ¬ (i : Int) < ns.length := fun z => hc ⟨rfl, by omega⟩
      simp [drawH, Dr.d, hi]
    · simp [drawH, Dr.d, hz]
theorem draws_ok (ns : List Int) : runG [false] 1 drawsB [.scr ns] = some ((Dr.mk ns 0 0 1).d, true, []) := by
  simp [at_run, drawsB, Dr.d]
/-! ### equality of plain values -/
theorem eqP_ok {x y : D} (hx : okPy x = true) (hy : okPy y = true) : eqP x y = some (.bl (PyData.eqv (toPy x) (toPy y))) := by unfold eqP; rw [if_pos ⟨hx, hy⟩]
theorem neP_ok {x y : D} (hx : okPy x = true) (hy : okPy y = true) : neP x y = some (.bl (!PyData.eqv (toPy x) (toPy y))) := by unfold neP; rw [if_pos ⟨hx, hy⟩]
end DV

/-! DV12: the end of a claim. -/
namespace DV
open L2 PySem PySem.Spec PyProof.Rows
abbrev KOf {K : PySem.W.Frag} {h : Heap} (_ : K.In h) : PySem.W.Frag := K
section
variable {P : Program} {w : World} {K : PySem.W.Frag} {mg : Str → Option Value}
theorem law_mk {h : Heap} {st : Stmt} {N : List Str} {n : Nat} {g : FS} (X : K.In h) (G : h.Ns mainGlobals mg) {fa f : Addr} (hfa : mg "law" = some (.ref fa)) {od an : Option Addr} {sl : Array (Option Value)} {oc kV dc pm cd ct : Value}
    (S : FnScope N ["script"] (defScope st)) (hb : ∀ (s : Shared) (kV dc pm : Value) (an : Option Addr) (cd ct v : Value), BindsTo s (PySem.W.fnOf "law" "law" (defArgs st) (defBody st) (defScope st) .none kV dc pm an cd ct) ⟨[v], []⟩ [("script", v)])
    (hbody : ∀ (base : Heap) (f : Addr) (cdv : Value) (A : Around) (outer : List PySem.Env) (s : Shared) (H : Hp) (E : XK), Room n (A.deeper (envOfC "law" (defScope st) s.heap.objs.size f cdv)) → PSs (bodyX P w K mg base N "law" (defScope st) f cdv A outer s H E) (defBody st) (tS ⟨K, mg⟩ g))
    (a : PySem.W.nsIn K mainGlobals "law" = some (some (.ref f))) (l : K.lookup f = some ⟨oc, od, .func (PySem.W.fnOf "law" "law" (defArgs st) (defBody st) (defScope st) .none kV dc pm an cd ct), sl⟩) (c : PySem.W.codeIn K cd "law" = true) (k : PySem.W.keepIn K (.ref f) = true) :
    ∃ fd : FuncData, (∀ (s : Shared) (v : Value), BindsTo s fd ⟨[v], []⟩ [("script", v)]) ∧ ∀ base : Heap, K.In base → base.Ns mainGlobals mg → FnOk P w K mg base CX0 (n + 1) fa fd ["script"] (spD ⟨K, mg⟩ [false] (runG [false] N.length g)) := by
  have e := hfa.symm.trans (PySem.W.mg_of X G a)
  cases e
  exact ⟨_, fun s v => hb s kV dc pm an cd ct v, fun base _ _ => fn_ok (fun_mk l c k) S rfl rfl fun cdv A outer s H E hr => hbody base _ cdv A outer s H E hr⟩
end
end DV

namespace K98
open DV L2 PySem PySem.Spec PyProof.Rows
def topS (i : Nat) : Stmt := PySem.Challenge.pw_blamekeep_k98_whole_wide_types_without_r.main.body.getD i (.Pass ⟨0, 0, 0, 0⟩)
inductive Nm where
  | f_is_wide | f_under | f_alike_wide | f_finer_wide | f_alike_under | f_masked | f_upper | f_lower | f_alike | f_finer | f_join | f__law_draws | f__law_draw | f__law_same | f__law_small | f__law_near | f_law
def c_ANY : D := .tup [.str "any"]
def c_PLAIN : D := .tup [.str "int", .str "bool", .str "any"]
def dd_is_wide : List D := [.int 8]
def l_is_wide_0 (g : Nm → FnD) : FS := (gIfS (gOr (gNot (gT (gOp2 isiD (oNm 2) (oD (fun ρ => some (.ty "tuple", ρ)))))) (gOr (gT (gOp2 neD (oD (gOp1 lenD (oNm 2))) (oD (fun ρ => some (.int 2, ρ))))) (gOr (gNot (gT (shW (fun _ => none)))) (gNot (gT (shW (gCallD [false, false] (g .f_is_wide) [] (gVa (gOp2 ixD (oNm 2) (oD (fun ρ => some (.int 1, ρ)))) (gVa (gOp2 subI (oNm 1) (oD (fun ρ => some (.int 1, ρ)))) (fun ρ => some ([], ρ))))))))))) (gRet (wD (fun ρ => some (.bl false, ρ)))) gSkip)
def b_is_wide (g : Nm → FnD) : FS := (gSeq (gIfS (gOr (gNot (gT (gOp2 isiD (oNm 0) (oD (fun ρ => some (.ty "tuple", ρ)))))) (gOr (gT (gOp2 eqD (oD (gOp1 lenD (oNm 0))) (oD (fun ρ => some (.int 0, ρ))))) (gOr (gT (gOp2 eqD (oNm 1) (oD (fun ρ => some (.int 0, ρ))))) (gNot (gT (gOp2 isiD (oD (gOp2 ixD (oNm 0) (oD (fun ρ => some (.int 0, ρ))))) (oD (fun ρ => some (.ty "str", ρ))))))))) (gRet (wD (fun ρ => some (.bl false, ρ)))) gSkip) (gSeq (gIfS (gT (gOp2 inD (oD (gOp2 ixD (oNm 0) (oD (fun ρ => some (.int 0, ρ))))) (oD (fun ρ => some (c_PLAIN, ρ))))) (gRet (wD (gOp2 eqD (oD (gOp1 lenD (oNm 0))) (oD (fun ρ => some (.int 1, ρ)))))) gSkip) (gSeq (gIfS (gT (gOp2 eqD (oD (gOp2 ixD (oNm 0) (oD (fun ρ => some (.int 0, ρ))))) (oD (fun ρ => some (.str "fn", ρ))))) (gRet (wD (gAndV (gOp2 eqD (oD (gOp1 lenD (oNm 0))) (oD (fun ρ => some (.int 3, ρ)))) (gOp1 allD (oD (shW (gComp [5] (gSq (gSl slD (oNm 0) (gPart (fun ρ => some (.int 1, ρ))) (fun ρ => some (none, ρ)))) (hNm 5) tYesD (shW (gCallD [false, false] (g .f_is_wide) [] (gVa (gNm 5) (gVa (gOp2 subI (oNm 1) (oD (fun ρ => some (.int 1, ρ)))) (fun ρ => some ([], ρ))))))))))))) gSkip) (gSeq (gIfS (gOr (gT (gOp2 neD (oD (gOp2 ixD (oNm 0) (oD (fun ρ => some (.int 0, ρ))))) (oD (fun ρ => some (.str "record", ρ))))) (gOr (gT (gOp2 neD (oD (gOp1 lenD (oNm 0))) (oD (fun ρ => some (.int 2, ρ))))) (gNot (gT (gOp2 isiD (oD (gOp2 ixD (oNm 0) (oD (fun ρ => some (.int 1, ρ))))) (oD (fun ρ => some (.ty "tuple", ρ)))))))) (gRet (wD (fun ρ => some (.bl false, ρ)))) gSkip) (gSeq (gFor (gSq (gOp2 ixD (oNm 0) (oD (fun ρ => some (.int 1, ρ))))) (hNm 2) (l_is_wide_0 g)) (gSeq (gSet 3 (gComp [2] (gSq (gOp2 ixD (oNm 0) (oD (fun ρ => some (.int 1, ρ))))) (hNm 2) tYesD (gOp2 ixD (oNm 2) (oD (fun ρ => some (.int 0, ρ)))))) (gRet (wD (gOp2 eqD (oNm 3) (oD (shW (fun _ => none))))))))))))
def b_under (g : Nm → FnD) : FS := (gSeq (gIfS (gT (gOp2 neD (oD (gOp2 ixD (oNm 0) (oD (fun ρ => some (.int 0, ρ))))) (oD (gOp2 ixD (oNm 1) (oD (fun ρ => some (.int 0, ρ))))))) (gRet (wD (fun ρ => some (.bl false, ρ)))) gSkip) (gSeq (gIfS (gT (gOp2 eqD (oD (gOp2 ixD (oNm 0) (oD (fun ρ => some (.int 0, ρ))))) (oD (fun ρ => some (.str "fn", ρ))))) (gRet (wD (gAndV (shW (gCallD [false, false] (g .f_under) [] (gVa (gOp2 ixD (oNm 1) (oD (fun ρ => some (.int 1, ρ)))) (gVa (gOp2 ixD (oNm 0) (oD (fun ρ => some (.int 1, ρ)))) (fun ρ => some ([], ρ)))))) (shW (gCallD [false, false] (g .f_under) [] (gVa (gOp2 ixD (oNm 0) (oD (fun ρ => some (.int 2, ρ)))) (gVa (gOp2 ixD (oNm 1) (oD (fun ρ => some (.int 2, ρ)))) (fun ρ => some ([], ρ))))))))) gSkip) (gSeq (gIfS (gT (gOp2 neD (oD (gOp2 ixD (oNm 0) (oD (fun ρ => some (.int 0, ρ))))) (oD (fun ρ => some (.str "record", ρ))))) (gRet (wD (fun ρ => some (.bl true, ρ)))) gSkip) (gSeq (gSet 2 (fun _ => none)) (gRet (wD (gOp1 allD (oD (shW (gComp [3, 4] (gSq (gOp2 ixD (oNm 1) (oD (fun ρ => some (.int 1, ρ))))) (hTup 2 (hCons (hNm 3) (hCons (hNm 4) hNil))) tYesD (gAndV (gOp2 inD (oNm 3) (oNm 2)) (shW (gCallD [false, false] (g .f_under) [] (gVa (gOp2 ixD (oNm 2) (oNm 3)) (gVa (gNm 4) (fun ρ => some ([], ρ)))))))))))))))))
def b_alike_wide (g : Nm → FnD) : FS := (gSeq (gIfS (gOr (gT (gOp2 eqD (oNm 0) (oD (fun ρ => some (c_ANY, ρ))))) (gT (gOp2 eqD (oNm 1) (oD (fun ρ => some (c_ANY, ρ)))))) (gRet (wD (fun ρ => some (.bl true, ρ)))) gSkip) (gSeq (gIfS (gT (gOp2 neD (oD (gOp2 ixD (oNm 0) (oD (fun ρ => some (.int 0, ρ))))) (oD (gOp2 ixD (oNm 1) (oD (fun ρ => some (.int 0, ρ))))))) (gRet (wD (fun ρ => some (.bl false, ρ)))) gSkip) (gSeq (gIfS (gT (gOp2 eqD (oD (gOp2 ixD (oNm 0) (oD (fun ρ => some (.int 0, ρ))))) (oD (fun ρ => some (.str "fn", ρ))))) (gRet (wD (gAndV (shW (gCallD [false, false] (g .f_alike_wide) [] (gVa (gOp2 ixD (oNm 0) (oD (fun ρ => some (.int 1, ρ)))) (gVa (gOp2 ixD (oNm 1) (oD (fun ρ => some (.int 1, ρ)))) (fun ρ => some ([], ρ)))))) (shW (gCallD [false, false] (g .f_alike_wide) [] (gVa (gOp2 ixD (oNm 0) (oD (fun ρ => some (.int 2, ρ)))) (gVa (gOp2 ixD (oNm 1) (oD (fun ρ => some (.int 2, ρ)))) (fun ρ => some ([], ρ))))))))) gSkip) (gSeq (gIfS (gT (gOp2 neD (oD (gOp2 ixD (oNm 0) (oD (fun ρ => some (.int 0, ρ))))) (oD (fun ρ => some (.str "record", ρ))))) (gRet (wD (fun ρ => some (.bl true, ρ)))) gSkip) (gSeq (gAsg (gTup (gCons (shW (fun _ => none)) (gCons (shW (fun _ => none)) (fun ρ => some ([], ρ))))) (hTup 2 (hCons (hNm 2) (hCons (hNm 3) hNil)))) (gRet (wD (gAndV (gOp2 eqD (oD (shW (fun _ => none))) (oD (shW (fun _ => none)))) (gOp1 allD (oD (shW (gComp [4] (gSq (gNm 2)) (hNm 4) tYesD (shW (gCallD [false, false] (g .f_alike_wide) [] (gVa (gOp2 ixD (oNm 2) (oNm 4)) (gVa (gOp2 ixD (oNm 3) (oNm 4)) (fun ρ => some ([], ρ))))))))))))))))))
def b_finer_wide (g : Nm → FnD) : FS := (gSeq (gIfS (gT (gOp2 eqD (oNm 1) (oD (fun ρ => some (c_ANY, ρ))))) (gRet (wD (fun ρ => some (.bl true, ρ)))) gSkip) (gSeq (gIfS (gT (gOp2 neD (oD (gOp2 ixD (oNm 0) (oD (fun ρ => some (.int 0, ρ))))) (oD (gOp2 ixD (oNm 1) (oD (fun ρ => some (.int 0, ρ))))))) (gRet (wD (fun ρ => some (.bl false, ρ)))) gSkip) (gSeq (gIfS (gT (gOp2 eqD (oD (gOp2 ixD (oNm 0) (oD (fun ρ => some (.int 0, ρ))))) (oD (fun ρ => some (.str "fn", ρ))))) (gRet (wD (gAndV (shW (gCallD [false, false] (g .f_finer_wide) [] (gVa (gOp2 ixD (oNm 0) (oD (fun ρ => some (.int 1, ρ)))) (gVa (gOp2 ixD (oNm 1) (oD (fun ρ => some (.int 1, ρ)))) (fun ρ => some ([], ρ)))))) (shW (gCallD [false, false] (g .f_finer_wide) [] (gVa (gOp2 ixD (oNm 0) (oD (fun ρ => some (.int 2, ρ)))) (gVa (gOp2 ixD (oNm 1) (oD (fun ρ => some (.int 2, ρ)))) (fun ρ => some ([], ρ))))))))) gSkip) (gSeq (gIfS (gT (gOp2 neD (oD (gOp2 ixD (oNm 0) (oD (fun ρ => some (.int 0, ρ))))) (oD (fun ρ => some (.str "record", ρ))))) (gRet (wD (fun ρ => some (.bl true, ρ)))) gSkip) (gSeq (gAsg (gTup (gCons (shW (fun _ => none)) (gCons (shW (fun _ => none)) (fun ρ => some ([], ρ))))) (hTup 2 (hCons (hNm 2) (hCons (hNm 3) hNil)))) (gRet (wD (gAndV (gOp2 eqD (oD (shW (fun _ => none))) (oD (shW (fun _ => none)))) (gOp1 allD (oD (shW (gComp [4] (gSq (gNm 2)) (hNm 4) tYesD (shW (gCallD [false, false] (g .f_finer_wide) [] (gVa (gOp2 ixD (oNm 2) (oNm 4)) (gVa (gOp2 ixD (oNm 3) (oNm 4)) (fun ρ => some ([], ρ))))))))))))))))))
def b_alike_under (g : Nm → FnD) : FS := (gSeq (gIfS (gOr (gT (gOp2 eqD (oNm 0) (oD (fun ρ => some (c_ANY, ρ))))) (gT (gOp2 eqD (oNm 1) (oD (fun ρ => some (c_ANY, ρ)))))) (gRet (wD (fun ρ => some (.bl true, ρ)))) gSkip) (gSeq (gIfS (gT (gOp2 neD (oD (gOp2 ixD (oNm 0) (oD (fun ρ => some (.int 0, ρ))))) (oD (gOp2 ixD (oNm 1) (oD (fun ρ => some (.int 0, ρ))))))) (gRet (wD (fun ρ => some (.bl false, ρ)))) gSkip) (gSeq (gIfS (gT (gOp2 eqD (oD (gOp2 ixD (oNm 0) (oD (fun ρ => some (.int 0, ρ))))) (oD (fun ρ => some (.str "fn", ρ))))) (gRet (wD (gAndV (shW (gCallD [false, false] (g .f_alike_under) [] (gVa (gOp2 ixD (oNm 1) (oD (fun ρ => some (.int 1, ρ)))) (gVa (gOp2 ixD (oNm 0) (oD (fun ρ => some (.int 1, ρ)))) (fun ρ => some ([], ρ)))))) (shW (gCallD [false, false] (g .f_alike_under) [] (gVa (gOp2 ixD (oNm 0) (oD (fun ρ => some (.int 2, ρ)))) (gVa (gOp2 ixD (oNm 1) (oD (fun ρ => some (.int 2, ρ)))) (fun ρ => some ([], ρ))))))))) gSkip) (gSeq (gIfS (gT (gOp2 neD (oD (gOp2 ixD (oNm 0) (oD (fun ρ => some (.int 0, ρ))))) (oD (fun ρ => some (.str "record", ρ))))) (gRet (wD (fun ρ => some (.bl true, ρ)))) gSkip) (gSeq (gSet 2 (fun _ => none)) (gRet (wD (gOp1 allD (oD (shW (gComp [3, 4] (gSq (gOp2 ixD (oNm 1) (oD (fun ρ => some (.int 1, ρ))))) (hTup 2 (hCons (hNm 3) (hCons (hNm 4) hNil))) tYesD (gAndV (gOp2 inD (oNm 3) (oNm 2)) (shW (gCallD [false, false] (g .f_alike_under) [] (gVa (gOp2 ixD (oNm 2) (oNm 3)) (gVa (gNm 4) (fun ρ => some ([], ρ))))))))))))))))))
def b_masked (g : Nm → FnD) : FS := (gSeq (gIfS (gT (gOp2 eqD (oNm 1) (oD (fun ρ => some (c_ANY, ρ))))) (gRet (wD (fun ρ => some (c_ANY, ρ)))) gSkip) (gSeq (gIfS (gOr (gT (gOp2 neD (oD (gOp2 ixD (oNm 0) (oD (fun ρ => some (.int 0, ρ))))) (oD (gOp2 ixD (oNm 1) (oD (fun ρ => some (.int 0, ρ))))))) (gT (gOp2 ninD (oD (gOp2 ixD (oNm 0) (oD (fun ρ => some (.int 0, ρ))))) (oD (gTup (gCons (fun ρ => some (.str "fn", ρ)) (gCons (fun ρ => some (.str "record", ρ)) (fun ρ => some ([], ρ))))))))) (gRet (gMv 0)) gSkip) (gSeq (gIfS (gT (gOp2 eqD (oD (gOp2 ixD (oNm 0) (oD (fun ρ => some (.int 0, ρ))))) (oD (fun ρ => some (.str "fn", ρ))))) (gRet (wD (gTup (gCons (fun ρ => some (.str "fn", ρ)) (gCons (shW (gCallD [false, false] (g .f_masked) [] (gVa (gOp2 ixD (oNm 0) (oD (fun ρ => some (.int 1, ρ)))) (gVa (gOp2 ixD (oNm 1) (oD (fun ρ => some (.int 1, ρ)))) (fun ρ => some ([], ρ)))))) (gCons (shW (gCallD [false, false] (g .f_masked) [] (gVa (gOp2 ixD (oNm 0) (oD (fun ρ => some (.int 2, ρ)))) (gVa (gOp2 ixD (oNm 1) (oD (fun ρ => some (.int 2, ρ)))) (fun ρ => some ([], ρ)))))) (fun ρ => some ([], ρ)))))))) gSkip) (gSeq (gSet 2 (fun _ => none)) (gRet (fun _ => none))))))
def b_upper (g : Nm → FnD) : FS := (gSeq (gIfS (gT (gOp2 neD (oD (gOp2 ixD (oNm 0) (oD (fun ρ => some (.int 0, ρ))))) (oD (gOp2 ixD (oNm 1) (oD (fun ρ => some (.int 0, ρ))))))) (gRet (wD (fun ρ => some (.non, ρ)))) gSkip) (gSeq (gIfS (gT (gOp2 eqD (oD (gOp2 ixD (oNm 0) (oD (fun ρ => some (.int 0, ρ))))) (oD (fun ρ => some (.str "fn", ρ))))) (gSeq (gSet 2 (wD (gTup (gCons (shW (gCallD [false, false] (g .f_lower) [] (gVa (gOp2 ixD (oNm 0) (oD (fun ρ => some (.int 1, ρ)))) (gVa (gOp2 ixD (oNm 1) (oD (fun ρ => some (.int 1, ρ)))) (fun ρ => some ([], ρ)))))) (gCons (shW (gCallD [false, false] (g .f_upper) [] (gVa (gOp2 ixD (oNm 0) (oD (fun ρ => some (.int 2, ρ)))) (gVa (gOp2 ixD (oNm 1) (oD (fun ρ => some (.int 2, ρ)))) (fun ρ => some ([], ρ)))))) (fun ρ => some ([], ρ))))))) (gRet (gIfW (gT (gOp2 inD (oD (fun ρ => some (.non, ρ))) (oNm 2))) (wD (fun ρ => some (.non, ρ))) (wD (gOp2 addD (oD (gTup (gCons (fun ρ => some (.str "fn", ρ)) (fun ρ => some ([], ρ))))) (oNm 2)))))) gSkip) (gSeq (gIfS (gT (gOp2 neD (oD (gOp2 ixD (oNm 0) (oD (fun ρ => some (.int 0, ρ))))) (oD (fun ρ => some (.str "record", ρ))))) (gRet (gMv 0)) gSkip) (gSeq (gAsg (gTup (gCons (shW (fun _ => none)) (gCons (shW (fun _ => none)) (fun ρ => some ([], ρ))))) (hTup 2 (hCons (hNm 3) (hCons (hNm 4) hNil)))) (gSeq (gSet 5 (fun _ => none)) (gRet (fun _ => none)))))))
def l_lower_0 (g : Nm → FnD) : FS := (gPut 5 (gIf (gT (gOp2 inD (oNm 6) (oNm 3))) (shW (gCallD [false, false] (g .f_lower) [] (gVa (gOp2 ixD (oNm 3) (oNm 6)) (gVa (gOp2 ixD (oNm 4) (oNm 6)) (fun ρ => some ([], ρ)))))) (gOp2 ixD (oNm 4) (oNm 6))) (gNm 6))
def b_lower (g : Nm → FnD) : FS := (gSeq (gIfS (gT (gOp2 neD (oD (gOp2 ixD (oNm 0) (oD (fun ρ => some (.int 0, ρ))))) (oD (gOp2 ixD (oNm 1) (oD (fun ρ => some (.int 0, ρ))))))) (gRet (wD (fun ρ => some (.non, ρ)))) gSkip) (gSeq (gIfS (gT (gOp2 eqD (oD (gOp2 ixD (oNm 0) (oD (fun ρ => some (.int 0, ρ))))) (oD (fun ρ => some (.str "fn", ρ))))) (gSeq (gSet 2 (wD (gTup (gCons (shW (gCallD [false, false] (g .f_upper) [] (gVa (gOp2 ixD (oNm 0) (oD (fun ρ => some (.int 1, ρ)))) (gVa (gOp2 ixD (oNm 1) (oD (fun ρ => some (.int 1, ρ)))) (fun ρ => some ([], ρ)))))) (gCons (shW (gCallD [false, false] (g .f_lower) [] (gVa (gOp2 ixD (oNm 0) (oD (fun ρ => some (.int 2, ρ)))) (gVa (gOp2 ixD (oNm 1) (oD (fun ρ => some (.int 2, ρ)))) (fun ρ => some ([], ρ)))))) (fun ρ => some ([], ρ))))))) (gRet (gIfW (gT (gOp2 inD (oD (fun ρ => some (.non, ρ))) (oNm 2))) (wD (fun ρ => some (.non, ρ))) (wD (gOp2 addD (oD (gTup (gCons (fun ρ => some (.str "fn", ρ)) (fun ρ => some ([], ρ))))) (oNm 2)))))) gSkip) (gSeq (gIfS (gT (gOp2 neD (oD (gOp2 ixD (oNm 0) (oD (fun ρ => some (.int 0, ρ))))) (oD (fun ρ => some (.str "record", ρ))))) (gRet (gMv 0)) gSkip) (gSeq (gPar 3 4 (fun _ => none) (fun _ => none)) (gSeq (gSet 5 (fun _ => none)) (gSeq (gFor (gSq (gNm 4)) (hNm 6) (l_lower_0 g)) (gRet (gIfW (gT (gOp2 inD (oD (fun ρ => some (.non, ρ))) (oD (shW (fun _ => none))))) (wD (fun ρ => some (.non, ρ))) (fun _ => none)))))))))
def b_alike (g : Nm → FnD) : FS := (gSeq (gIfS (gOr (gT (gOp2 eqD (oNm 0) (oD (fun ρ => some (c_ANY, ρ))))) (gT (gOp2 eqD (oNm 1) (oD (fun ρ => some (c_ANY, ρ)))))) (gRet (wD (fun ρ => some (.bl true, ρ)))) gSkip) (gSeq (gIfS (gT (gOp2 neD (oD (gOp2 ixD (oNm 0) (oD (fun ρ => some (.int 0, ρ))))) (oD (gOp2 ixD (oNm 1) (oD (fun ρ => some (.int 0, ρ))))))) (gRet (wD (fun ρ => some (.bl false, ρ)))) gSkip) (gRet (wD (gOp1 allD (oD (shW (gComp [2, 3] (gZip (gCons (gSl slD (oNm 0) (gPart (fun ρ => some (.int 1, ρ))) (fun ρ => some (none, ρ))) (gCons (gSl slD (oNm 1) (gPart (fun ρ => some (.int 1, ρ))) (fun ρ => some (none, ρ))) (fun ρ => some ([], ρ))))) (hTup 2 (hCons (hNm 2) (hCons (hNm 3) hNil))) tYesD (shW (gCallD [false, false] (g .f_alike) [] (gVa (gNm 2) (gVa (gNm 3) (fun ρ => some ([], ρ))))))))))))))
def b_finer (g : Nm → FnD) : FS := (gSeq (gIfS (gT (gOp2 eqD (oNm 1) (oD (fun ρ => some (c_ANY, ρ))))) (gRet (wD (fun ρ => some (.bl true, ρ)))) gSkip) (gSeq (gIfS (gT (gOp2 neD (oD (gOp2 ixD (oNm 0) (oD (fun ρ => some (.int 0, ρ))))) (oD (gOp2 ixD (oNm 1) (oD (fun ρ => some (.int 0, ρ))))))) (gRet (wD (fun ρ => some (.bl false, ρ)))) gSkip) (gRet (wD (gOp1 allD (oD (shW (gComp [2, 3] (gZip (gCons (gSl slD (oNm 0) (gPart (fun ρ => some (.int 1, ρ))) (fun ρ => some (none, ρ))) (gCons (gSl slD (oNm 1) (gPart (fun ρ => some (.int 1, ρ))) (fun ρ => some (none, ρ))) (fun ρ => some ([], ρ))))) (hTup 2 (hCons (hNm 2) (hCons (hNm 3) hNil))) tYesD (shW (gCallD [false, false] (g .f_finer) [] (gVa (gNm 2) (gVa (gNm 3) (fun ρ => some ([], ρ))))))))))))))
def b_join (g : Nm → FnD) : FS := (gSeq (gIfS (gOr (gT (gOp2 eqD (oNm 0) (oD (fun ρ => some (c_ANY, ρ))))) (gOr (gT (gOp2 eqD (oNm 1) (oD (fun ρ => some (c_ANY, ρ))))) (gT (gOp2 neD (oD (gOp2 ixD (oNm 0) (oD (fun ρ => some (.int 0, ρ))))) (oD (gOp2 ixD (oNm 1) (oD (fun ρ => some (.int 0, ρ))))))))) (gRet (wD (fun ρ => some (c_ANY, ρ)))) gSkip) (gRet (wD (gOp2 addD (oD (gTup (gCons (gOp2 ixD (oNm 0) (oD (fun ρ => some (.int 0, ρ)))) (fun ρ => some ([], ρ))))) (oD (gOp1 tupD (oD (shW (gComp [2, 3] (gZip (gCons (gSl slD (oNm 0) (gPart (fun ρ => some (.int 1, ρ))) (fun ρ => some (none, ρ))) (gCons (gSl slD (oNm 1) (gPart (fun ρ => some (.int 1, ρ))) (fun ρ => some (none, ρ))) (fun ρ => some ([], ρ))))) (hTup 2 (hCons (hNm 2) (hCons (hNm 3) hNil))) tYesD (shW (gCallD [false, false] (g .f_join) [] (gVa (gNm 2) (gVa (gNm 3) (fun ρ => some ([], ρ)))))))))))))))
def b__law_draws (g : Nm → FnD) : FS := (gRet (gLst (gCons (shW (gOp1W lstD (oNm 0))) (gCons (fun ρ => some (.int 0, ρ)) (gCons (fun ρ => some (.int 0, ρ)) (gCons (fun ρ => some (.int 1, ρ)) (fun ρ => some ([], ρ))))))))
def b__law_draw (g : Nm → FnD) : FS := (gSeq (gIfS (gAnd (gT (gOp2 eqD (oD (gOp2 ixD (oNm 0) (oD (fun ρ => some (.int 2, ρ))))) (oD (fun ρ => some (.int 0, ρ))))) (gT (gOp2 ltI (oD (gOp2 ixD (oNm 0) (oD (fun ρ => some (.int 1, ρ))))) (oD (gOp1 lenD (oD (gOp2 ixD (oNm 0) (oD (fun ρ => some (.int 0, ρ)))))))))) (gSeq (gSet 2 (wD (gOp2 ixD (oD (gOp2 ixD (oNm 0) (oD (fun ρ => some (.int 0, ρ))))) (oD (gOp2 ixD (oNm 0) (oD (fun ρ => some (.int 1, ρ)))))))) (gSeq (gPut 0 (gOp2 addD (oD (gOp2 ixD (oNm 0) (oD (fun ρ => some (.int 1, ρ))))) (oD (fun ρ => some (.int 1, ρ)))) (fun ρ => some (.int 1, ρ))) (gSeq (gIfS (gT (gOp2 geI (oNm 2) (oD (gOp2 powI (oD (fun ρ => some (.int 10, ρ))) (oD (fun ρ => some (.int 18, ρ))))))) (gPut 0 (gNm 2) (fun ρ => some (.int 2, ρ))) gSkip) (gPut 0 (gOp2 modI (oD (gOp1 intD (oD (gOp2 addD (oD (gOp2 addD (oD (gOp2 mulI (oD (gOp2 ixD (oNm 0) (oD (fun ρ => some (.int 3, ρ))))) (oD (fun ρ => some (.int 48271, ρ))))) (oNm 2))) (oD (fun ρ => some (.int 13, ρ))))))) (oD (fun ρ => some (.int 2147483647, ρ)))) (fun ρ => some (.int 3, ρ)))))) gSkip) (gSeq (gIfS (gT (gOp2 gtI (oD (gOp2 ixD (oNm 0) (oD (fun ρ => some (.int 2, ρ))))) (oD (fun ρ => some (.int 0, ρ))))) (gSeq (gSet 3 (wD (gOp2 modI (oD (gOp1 intD (oD (gOp2 ixD (oNm 0) (oD (fun ρ => some (.int 2, ρ))))))) (oNm 1)))) (gSeq (gPut 0 (gOp2 divI (oD (gOp2 ixD (oNm 0) (oD (fun ρ => some (.int 2, ρ))))) (oNm 1)) (fun ρ => some (.int 2, ρ))) (gRet (gMv 3)))) gSkip) (gSeq (gPut 0 (gOp2 modI (oD (gOp1 intD (oD (gOp2 addD (oD (gOp2 mulI (oD (gOp2 ixD (oNm 0) (oD (fun ρ => some (.int 3, ρ))))) (oD (fun ρ => some (.int 69621, ρ))))) (oD (fun ρ => some (.int 7, ρ))))))) (oD (fun ρ => some (.int 2147483629, ρ)))) (fun ρ => some (.int 3, ρ))) (gRet (wD (gOp2 modI (oD (gOp1 intD (oD (gOp2 divI (oD (gOp2 ixD (oNm 0) (oD (fun ρ => some (.int 3, ρ))))) (oD (fun ρ => some (.int 11, ρ))))))) (oNm 1)))))))
def b__law_same (g : Nm → FnD) : FS := (gSeq (gIfS (gOr (gT (gOp2 isiD (oNm 1) (oD (fun ρ => some (.ty "tuple", ρ))))) (gT (gOp2 isiD (oNm 1) (oD (fun ρ => some (.ty "list", ρ)))))) (gSeq (gIfS (gOr (gT (gOp2 neD (oD (gOp2 isiD (oNm 1) (oD (fun ρ => some (.ty "tuple", ρ))))) (oD (gOp2 isiD (oNm 0) (oD (fun ρ => some (.ty "tuple", ρ))))))) (gT (gOp2 neD (oD (gOp2 isiD (oNm 1) (oD (fun ρ => some (.ty "list", ρ))))) (oD (gOp2 isiD (oNm 0) (oD (fun ρ => some (.ty "list", ρ)))))))) (gRet (wD (fun ρ => some (.bl false, ρ)))) gSkip) (gSeq (gIfS (gT (gOp2 neD (oD (gOp1 lenD (oNm 0))) (oD (gOp1 lenD (oNm 1))))) (gRet (wD (fun ρ => some (.bl false, ρ)))) gSkip) (gRet (wD (gOp2 eqD (oD (gOp1 lenD (oD (shW (gComp [2] (gRng1 (gCons (gOp1 lenD (oNm 1)) (fun ρ => some ([], ρ)))) (hNm 2) (gNot (gT (shW (gCallD [false, false] (g .f__law_same) [] (gVa (gOp2 ixD (oNm 0) (oNm 2)) (gVa (gOp2 ixD (oNm 1) (oNm 2)) (fun ρ => some ([], ρ)))))))) (gNm 2)))))) (oD (fun ρ => some (.int 0, ρ)))))))) gSkip) (gSeq (gIfS (gT (gOp2 isiD (oNm 1) (oD (fun ρ => some (.ty "str", ρ))))) (gRet (wD (gAndV (gOp2 isiD (oNm 0) (oD (fun ρ => some (.ty "str", ρ)))) (gOp2 eqD (oNm 0) (oNm 1))))) gSkip) (gSeq (gIfS (gT (gOp2 isD (oNm 1) (oD (fun ρ => some (.non, ρ))))) (gRet (wD (gOp2 isD (oNm 0) (oD (fun ρ => some (.non, ρ)))))) gSkip) (gSeq (gIfS (gOr (gT (gOp2 isiD (oNm 1) (oD (fun ρ => some (.ty "bool", ρ))))) (gT (gOp2 isiD (oNm 0) (oD (fun ρ => some (.ty "bool", ρ)))))) (gRet (wD (gAndV (gOp2 isiD (oNm 1) (oD (fun ρ => some (.ty "bool", ρ)))) (gAndV (gOp2 isiD (oNm 0) (oD (fun ρ => some (.ty "bool", ρ)))) (gOp2 eqD (oNm 0) (oNm 1)))))) gSkip) (gRet (wD (gAndV (gOp2 isiD (oNm 0) (oD (fun ρ => some (.ty "int", ρ)))) (gAndV (gOp2 isiD (oNm 1) (oD (fun ρ => some (.ty "int", ρ)))) (gOp2 eqD (oNm 0) (oNm 1))))))))))
def b__law_small (g : Nm → FnD) : FS := (gSeq (gSet 2 (gIfW (gT (gOp2 gtI (oNm 1) (oD (fun ρ => some (.int 1, ρ))))) (gCallD [true, false] (g .f__law_draw) [] (gBo 0 (gVa (fun ρ => some (.int 6, ρ)) (fun ρ => some ([], ρ))))) (gCallD [true, false] (g .f__law_draw) [] (gBo 0 (gVa (fun ρ => some (.int 3, ρ)) (fun ρ => some ([], ρ))))))) (gSeq (gIfS (gT (gOp2 ltI (oNm 2) (oD (fun ρ => some (.int 3, ρ))))) (gRet (wD (gOp2 ixD (oD (shW (gLst (gCons (gTup (gCons (fun ρ => some (.str "any", ρ)) (fun ρ => some ([], ρ)))) (gCons (gTup (gCons (fun ρ => some (.str "int", ρ)) (fun ρ => some ([], ρ)))) (gCons (gTup (gCons (fun ρ => some (.str "bool", ρ)) (fun ρ => some ([], ρ)))) (fun ρ => some ([], ρ)))))))) (oNm 2)))) gSkip) (gRet (wD (gTup (gCons (fun ρ => some (.str "fn", ρ)) (gCons (shW (gCallD [true, false] (g .f__law_small) [] (gBo 0 (gVa (gOp2 subI (oNm 1) (oD (fun ρ => some (.int 1, ρ)))) (fun ρ => some ([], ρ)))))) (gCons (shW (gCallD [true, false] (g .f__law_small) [] (gBo 0 (gVa (gOp2 subI (oNm 1) (oD (fun ρ => some (.int 1, ρ)))) (fun ρ => some ([], ρ)))))) (fun ρ => some ([], ρ))))))))))
def b__law_near (g : Nm → FnD) : FS := (gSeq (gSet 2 (gCallD [true, false] (g .f__law_draw) [] (gBo 0 (gVa (fun ρ => some (.int 5, ρ)) (fun ρ => some ([], ρ)))))) (gSeq (gIfS (gT (gOp2 eqD (oNm 2) (oD (fun ρ => some (.int 0, ρ))))) (gRet (wD (gTup (gCons (fun ρ => some (.str "any", ρ)) (fun ρ => some ([], ρ)))))) gSkip) (gSeq (gIfS (gT (gOp2 eqD (oNm 2) (oD (fun ρ => some (.int 1, ρ))))) (gRet (gCallD [true, false] (g .f__law_small) [] (gBo 0 (gVa (fun ρ => some (.int 2, ρ)) (fun ρ => some ([], ρ)))))) gSkip) (gRet (gIfW (gT (gOp2 neD (oD (gOp2 ixD (oNm 1) (oD (fun ρ => some (.int 0, ρ))))) (oD (fun ρ => some (.str "fn", ρ))))) (gMv 1) (wD (gTup (gCons (fun ρ => some (.str "fn", ρ)) (gCons (shW (gCallD [true, false] (g .f__law_near) [] (gBo 0 (gVa (gOp2 ixD (oNm 1) (oD (fun ρ => some (.int 1, ρ)))) (fun ρ => some ([], ρ)))))) (gCons (shW (gCallD [true, false] (g .f__law_near) [] (gBo 0 (gVa (gOp2 ixD (oNm 1) (oD (fun ρ => some (.int 2, ρ)))) (fun ρ => some ([], ρ)))))) (fun ρ => some ([], ρ))))))))))))
def l_law_0 (g : Nm → FnD) : FS := (gSeq (gSet 3 (gCallD [true, false] (g .f__law_small) [] (gBo 1 (gVa (fun ρ => some (.int 3, ρ)) (fun ρ => some ([], ρ)))))) (gSeq (gSet 4 (gCallD [true, false] (g .f__law_near) [] (gBo 1 (gVa (gNm 3) (fun ρ => some ([], ρ)))))) (gSeq (gIfS (gOr (gT (gOp2 isnD (oD (shW (gCallD [false, false] (g .f_is_wide) dd_is_wide (gVa (gNm 3) (fun ρ => some ([], ρ)))))) (oD (fun ρ => some (.bl true, ρ))))) (gOr (gNot (gT (shW (gCallD [false, false] (g .f__law_same) [] (gVa (shW (gCallD [false, false] (g .f_alike_wide) [] (gVa (gNm 3) (gVa (gNm 4) (fun ρ => some ([], ρ)))))) (gVa (shW (gCallD [false, false] (g .f_alike) [] (gVa (gNm 3) (gVa (gNm 4) (fun ρ => some ([], ρ)))))) (fun ρ => some ([], ρ)))))))) (gNot (gT (shW (gCallD [false, false] (g .f__law_same) [] (gVa (shW (gCallD [false, false] (g .f_finer_wide) [] (gVa (gNm 3) (gVa (gNm 4) (fun ρ => some ([], ρ)))))) (gVa (shW (gCallD [false, false] (g .f_finer) [] (gVa (gNm 3) (gVa (gNm 4) (fun ρ => some ([], ρ)))))) (fun ρ => some ([], ρ)))))))))) (gRet (wD (fun ρ => some (.bl false, ρ)))) gSkip) (gSeq (gIfS (gOr (gNot (gT (shW (gCallD [false, false] (g .f__law_same) [] (gVa (shW (gCallD [false, false] (g .f_alike_under) [] (gVa (gNm 3) (gVa (gNm 4) (fun ρ => some ([], ρ)))))) (gVa (shW (gCallD [false, false] (g .f_alike) [] (gVa (gNm 3) (gVa (gNm 4) (fun ρ => some ([], ρ)))))) (fun ρ => some ([], ρ)))))))) (gNot (gT (shW (gCallD [false, false] (g .f__law_same) [] (gVa (shW (gCallD [false, false] (g .f_under) [] (gVa (gNm 3) (gVa (gNm 4) (fun ρ => some ([], ρ)))))) (gVa (gOp2 eqD (oNm 3) (oNm 4)) (fun ρ => some ([], ρ))))))))) (gRet (wD (fun ρ => some (.bl false, ρ)))) gSkip) (gSeq (gIfS (gOr (gNot (gT (shW (gCallD [false, false] (g .f__law_same) [] (gVa (shW (gCallD [false, false] (g .f_upper) [] (gVa (gNm 3) (gVa (gNm 4) (fun ρ => some ([], ρ)))))) (gVa (gIf (gT (gOp2 eqD (oNm 3) (oNm 4))) (gNm 3) (fun ρ => some (.non, ρ))) (fun ρ => some ([], ρ)))))))) (gNot (gT (shW (gCallD [false, false] (g .f__law_same) [] (gVa (shW (gCallD [false, false] (g .f_lower) [] (gVa (gNm 3) (gVa (gNm 4) (fun ρ => some ([], ρ)))))) (gVa (gIf (gT (gOp2 eqD (oNm 3) (oNm 4))) (gNm 3) (fun ρ => some (.non, ρ))) (fun ρ => some ([], ρ))))))))) (gRet (wD (fun ρ => some (.bl false, ρ)))) gSkip) (gSeq (gIfS (gAnd (gT (shW (gCallD [false, false] (g .f_alike) [] (gVa (gNm 3) (gVa (gNm 4) (fun ρ => some ([], ρ))))))) (gOr (gNot (gT (shW (gCallD [false, false] (g .f__law_same) [] (gVa (shW (gCallD [false, false] (g .f_masked) [] (gVa (gNm 3) (gVa (gNm 4) (fun ρ => some ([], ρ)))))) (gVa (shW (gCallD [false, false] (g .f_masked) [] (gVa (gNm 4) (gVa (gNm 3) (fun ρ => some ([], ρ)))))) (fun ρ => some ([], ρ)))))))) (gNot (gT (shW (gCallD [false, false] (g .f__law_same) [] (gVa (shW (gCallD [false, false] (g .f_masked) [] (gVa (gNm 3) (gVa (gNm 4) (fun ρ => some ([], ρ)))))) (gVa (shW (gCallD [false, false] (g .f_join) [] (gVa (gNm 3) (gVa (gNm 4) (fun ρ => some ([], ρ)))))) (fun ρ => some ([], ρ)))))))))) (gRet (wD (fun ρ => some (.bl false, ρ)))) gSkip) (gIfS (gT (gOp2 isnD (oD (shW (gCallD [false, false] (g .f_finer) [] (gVa (gNm 3) (gVa (shW (gCallD [false, false] (g .f_masked) [] (gVa (gNm 3) (gVa (gNm 4) (fun ρ => some ([], ρ)))))) (fun ρ => some ([], ρ))))))) (oD (fun ρ => some (.bl true, ρ))))) (gRet (wD (fun ρ => some (.bl false, ρ)))) gSkip)))))))
def b_law (g : Nm → FnD) : FS := (gSeq (gSet 1 (gCallD [false] (g .f__law_draws) [] (gVa (gNm 0) (fun ρ => some ([], ρ))))) (gSeq (gFor (gRng1 (gCons (fun ρ => some (.int 12, ρ)) (fun ρ => some ([], ρ)))) (hNm 2) (l_law_0 g)) (gRet (wD (fun ρ => some (.bl true, ρ))))))
def bo : Nm → List Bool
  | .f_is_wide => [false, false]
  | .f_under => [false, false]
  | .f_alike_wide => [false, false]
  | .f_finer_wide => [false, false]
  | .f_alike_under => [false, false]
  | .f_masked => [false, false]
  | .f_upper => [false, false]
  | .f_lower => [false, false]
  | .f_alike => [false, false]
  | .f_finer => [false, false]
  | .f_join => [false, false]
  | .f__law_draws => [false]
  | .f__law_draw => [true, false]
  | .f__law_same => [false, false]
  | .f__law_small => [true, false]
  | .f__law_near => [true, false]
  | .f_law => [false]
def bd (g : Nm → FnD) : Nm → FnD
  | .f_is_wide => runG [false, false] 6 (b_is_wide g)
  | .f_under => runG [false, false] 5 (b_under g)
  | .f_alike_wide => runG [false, false] 5 (b_alike_wide g)
  | .f_finer_wide => runG [false, false] 5 (b_finer_wide g)
  | .f_alike_under => runG [false, false] 5 (b_alike_under g)
  | .f_masked => runG [false, false] 5 (b_masked g)
  | .f_upper => runG [false, false] 7 (b_upper g)
  | .f_lower => runG [false, false] 7 (b_lower g)
  | .f_alike => runG [false, false] 4 (b_alike g)
  | .f_finer => runG [false, false] 4 (b_finer g)
  | .f_join => runG [false, false] 4 (b_join g)
  | .f__law_draws => runG [false] 1 (b__law_draws g)
  | .f__law_draw => runG [true, false] 4 (b__law_draw g)
  | .f__law_same => runG [false, false] 3 (b__law_same g)
  | .f__law_small => runG [true, false] 3 (b__law_small g)
  | .f__law_near => runG [true, false] 3 (b__law_near g)
  | .f_law => runG [false] 5 (b_law g)
def G : Nat → Nm → FnD
  | 0 => fun _ _ => none
  | n + 1 => bd (G n)
theorem G_succ (n : Nat) (x : Nm) (ds : List D) : G (n + 1) x ds = bd (G n) x ds := rfl
section
variable {P : Program} {w : World} {K : PySem.W.Frag} {mg : Str → Option Value} {base : Heap}
structure Gf (K : PySem.W.Frag) (mg : Str → Option Value) : Prop where
  z : Zs mg
  g_ANY : ∃ u v, mg "ANY" = some u ∧ RelV v u ∧ ∀ F H, Rep ⟨K, mg⟩ F H c_ANY v
  g_PLAIN : ∃ u v, mg "PLAIN" = some u ∧ RelV v u ∧ ∀ F H, Rep ⟨K, mg⟩ F H c_PLAIN v
structure Fs (P : Program) (w : World) (K : PySem.W.Frag) (mg : Str → Option Value) (base : Heap) (n : Nat) (g : Nm → FnD) : Prop where
  f_is_wide : FnA P w K mg base n "is_wide" [false, false] (g .f_is_wide)
  f_is_wide_d : FnA P w K mg base n "is_wide" [false, false] (g .f_is_wide) dd_is_wide
  f_under : FnA P w K mg base n "under" [false, false] (g .f_under)
  f_alike_wide : FnA P w K mg base n "alike_wide" [false, false] (g .f_alike_wide)
  f_finer_wide : FnA P w K mg base n "finer_wide" [false, false] (g .f_finer_wide)
  f_alike_under : FnA P w K mg base n "alike_under" [false, false] (g .f_alike_under)
  f_masked : FnA P w K mg base n "masked" [false, false] (g .f_masked)
  f_upper : FnA P w K mg base n "upper" [false, false] (g .f_upper)
  f_lower : FnA P w K mg base n "lower" [false, false] (g .f_lower)
  f_alike : FnA P w K mg base n "alike" [false, false] (g .f_alike)
  f_finer : FnA P w K mg base n "finer" [false, false] (g .f_finer)
  f_join : FnA P w K mg base n "join" [false, false] (g .f_join)
  f__law_draws : FnA P w K mg base n "_law_draws" [false] (g .f__law_draws)
  f__law_draw : FnA P w K mg base n "_law_draw" [true, false] (g .f__law_draw)
  f__law_same : FnA P w K mg base n "_law_same" [false, false] (g .f__law_same)
  f__law_small : FnA P w K mg base n "_law_small" [true, false] (g .f__law_small)
  f__law_near : FnA P w K mg base n "_law_near" [true, false] (g .f__law_near)
  f_law : FnA P w K mg base n "law" [false] (g .f_law)
abbrev s_is_wide : Stmt := topS 5
abbrev N_is_wide : List Str := ["value", "left", "field", "labels", "label", "part"]
theorem sc_is_wide : FnScope N_is_wide ["value", "left"] (defScope s_is_wide) := ⟨rfl, rfl, rfl, by decide +kernel, rfl, by decide +kernel, by decide +kernel⟩
theorem ok_is_wide {n : Nat} {g : Nm → FnD} (Gs : Gf K mg) (ih : Fs P w K mg base n g) : ∀ (f : Addr) (cdv : Value) (A : Around) (outer : List PySem.Env) (s : Shared) (H : Hp) (E : XK), Room n (A.deeper (envOfC "is_wide" (defScope s_is_wide) s.heap.objs.size f cdv)) →
    PSs (bodyX P w K mg base N_is_wide "is_wide" (defScope s_is_wide) f cdv A outer s H E) (defBody s_is_wide) (tS ⟨K, mg⟩ (b_is_wide g)) := fun f cdv A outer s H E hr =>
  have Z := Gs.z
  have SC := sc_is_wide
  (css_cons (cs_if (CB.pt (cb_or (ct_not (ct_val (w_isi Z (co_name (i := 0)) (co_of (ty_tuple Z))))) (cb_or (t_cmp (c_eq hr) (co_of (w_len Z (co_name (i := 0)))) (co_of cd_int)) (cb_or (t_cmp (c_eq hr) (co_name (i := 1)) (co_of cd_int)) (cb_or1 (ct_not (ct_val (w_isi Z (co_of (w_ix hr (co_name (i := 0)) (co_of cd_int))) (co_of (ty_str Z)))))))))) (css_one (cs_ret (cw_of cd_bl))) css_nil)
    (css_cons (cs_if (t_cmp (c_in hr) (co_of (w_ix hr (co_name (i := 0)) (co_of cd_int))) (co_of (cd_glob ⟨rfl, Gs.g_PLAIN⟩))) (css_one (cs_ret (cw_of (w_cmp (c_eq hr) (co_of (w_len Z (co_name (i := 0)))) (co_of cd_int))))) css_nil)
    (css_cons (cs_if (t_cmp (c_eq hr) (co_of (w_ix hr (co_name (i := 0)) (co_of cd_int))) (co_of cd_str)) (css_one (cs_ret (cw_of (cd_and (w_cmp (c_eq hr) (co_of (w_len Z (co_name (i := 0)))) (co_of cd_int)) (cd_one (w_all Z rfl (co_of (cd_of (cw_lc rfl SC.nd (own := [("part", 5)]) (ci_seq (cd_slice (co_name (i := 0)) (cp_some cd_int) cp_none)) (blkOk_by (by show blkC N_is_wide (defScope s_is_wide) _ _ = true; decide +kernel)) (by decide) (fun _ _ _ _ _ => (cg_name (i := 5) SC.nd rfl (by first | exact Or.inl rfl | exact Or.inr rfl) (by first | exact Or.inl rfl | exact Or.inr rfl))) (fun _ _ _ _ _ => cts_nil) (fun _ _ _ _ _ => (cd_of (cw_call ih.f_is_wide.to hr rfl (ca_val (cd_name (i := 5)) (ca_val (w_sub (co_name (i := 1)) (co_of cd_int)) ca_nil)))))))))))))) css_nil)
    (css_cons (cs_if (CB.pt (cb_or (t_cmp (c_ne hr) (co_of (w_ix hr (co_name (i := 0)) (co_of cd_int))) (co_of cd_str)) (cb_or (t_cmp (c_ne hr) (co_of (w_len Z (co_name (i := 0)))) (co_of cd_int)) (cb_or1 (ct_not (ct_val (w_isi Z (co_of (w_ix hr (co_name (i := 0)) (co_of cd_int))) (co_of (ty_tuple Z))))))))) (css_one (cs_ret (cw_of cd_bl))) css_nil)
    (css_cons (cs_for PassesOwn.never rfl (ci_seq (w_ix hr (co_name (i := 0)) (co_of cd_int))) (cg_name (i := 2) SC.nd rfl (by first | exact Or.inl rfl | exact Or.inr rfl) (by first | exact Or.inl rfl | exact Or.inr rfl)) (css_one (cs_if (CB.pt (cb_or (ct_not (ct_val (w_isi Z (co_name (i := 2)) (co_of (ty_tuple Z))))) (cb_or (t_cmp (c_ne hr) (co_of (w_len Z (co_name (i := 2)))) (co_of cd_int)) (cb_or (ct_not (ct_val (cd_of cw_never))) (cb_or1 (ct_not (ct_val (cd_of (cw_call ih.f_is_wide.to hr rfl (ca_val (w_ix hr (co_name (i := 2)) (co_of cd_int)) (ca_val (w_sub (co_name (i := 1)) (co_of cd_int)) ca_nil))))))))))) (css_one (cs_ret (cw_of cd_bl))) css_nil)))
    (css_cons (cs_setLc (i := 3) rfl SC.nd rfl rfl (sw_true rfl rfl rfl (by show _ = _; decide +kernel)) (own := [("field", 2)]) (ci_seq (w_ix hr (co_name (i := 0)) (co_of cd_int))) (blkOk_by (by show blkC N_is_wide (defScope s_is_wide) _ _ = true; decide +kernel)) (by decide) (fun _ _ _ _ _ => (cg_name (i := 2) SC.nd rfl (by first | exact Or.inl rfl | exact Or.inr rfl) (by first | exact Or.inl rfl | exact Or.inr rfl))) (fun _ _ _ _ _ => cts_nil) (fun _ _ _ _ _ => (w_ix hr (co_name (i := 2)) (co_of cd_int))))
    (css_one (cs_ret (cw_of (w_cmp (c_eq hr) (co_name (i := 3)) (co_of (cd_of cw_never))))))))))))
abbrev s_under : Stmt := topS 8
abbrev N_under : List Str := ["one", "two", "known", "label", "part"]
theorem sc_under : FnScope N_under ["one", "two"] (defScope s_under) := ⟨rfl, rfl, rfl, by decide +kernel, rfl, by decide +kernel, by decide +kernel⟩
theorem ok_under {n : Nat} {g : Nm → FnD} (Gs : Gf K mg) (ih : Fs P w K mg base n g) : ∀ (f : Addr) (cdv : Value) (A : Around) (outer : List PySem.Env) (s : Shared) (H : Hp) (E : XK), Room n (A.deeper (envOfC "under" (defScope s_under) s.heap.objs.size f cdv)) →
    PSs (bodyX P w K mg base N_under "under" (defScope s_under) f cdv A outer s H E) (defBody s_under) (tS ⟨K, mg⟩ (b_under g)) := fun f cdv A outer s H E hr =>
  have Z := Gs.z
  have SC := sc_under
  (css_cons (cs_if (t_cmp (c_ne hr) (co_of (w_ix hr (co_name (i := 0)) (co_of cd_int))) (co_of (w_ix hr (co_name (i := 1)) (co_of cd_int)))) (css_one (cs_ret (cw_of cd_bl))) css_nil)
    (css_cons (cs_if (t_cmp (c_eq hr) (co_of (w_ix hr (co_name (i := 0)) (co_of cd_int))) (co_of cd_str)) (css_one (cs_ret (cw_of (cd_and (cd_of (cw_call ih.f_under.to hr rfl (ca_val (w_ix hr (co_name (i := 1)) (co_of cd_int)) (ca_val (w_ix hr (co_name (i := 0)) (co_of cd_int)) ca_nil)))) (cd_one (cd_of (cw_call ih.f_under.to hr rfl (ca_val (w_ix hr (co_name (i := 0)) (co_of cd_int)) (ca_val (w_ix hr (co_name (i := 1)) (co_of cd_int)) ca_nil))))))))) css_nil)
    (css_cons (cs_if (t_cmp (c_ne hr) (co_of (w_ix hr (co_name (i := 0)) (co_of cd_int))) (co_of cd_str)) (css_one (cs_ret (cw_of cd_bl))) css_nil)
    (css_cons (cs_set (i := 2) SC.nd rfl (by first | exact Or.inl rfl | exact Or.inr rfl) cw_never)
    (css_one (cs_ret (cw_of (w_all Z rfl (co_of (cd_of (cw_lc rfl SC.nd (own := [("label", 3), ("part", 4)]) (ci_seq (w_ix hr (co_name (i := 1)) (co_of cd_int))) (blkOk_by (by show blkC N_under (defScope s_under) _ _ = true; decide +kernel)) (by decide) (fun _ _ _ _ _ => (cg_tup rfl (cgs_cons (cg_name (i := 3) SC.nd rfl (by first | exact Or.inl rfl | exact Or.inr rfl) (by first | exact Or.inl rfl | exact Or.inr rfl)) (cgs_cons (cg_name (i := 4) SC.nd rfl (by first | exact Or.inl rfl | exact Or.inr rfl) (by first | exact Or.inl rfl | exact Or.inr rfl)) cgs_nil)))) (fun _ _ _ _ _ => cts_nil) (fun _ _ _ _ _ => (cd_and (w_cmp (c_in hr) (co_name (i := 3)) (co_name (i := 2))) (cd_one (cd_of (cw_call ih.f_under.to hr rfl (ca_val (w_ix hr (co_name (i := 2)) (co_name (i := 3))) (ca_val (cd_name (i := 4)) ca_nil))))))))))))))))))
abbrev s_alike_wide : Stmt := topS 9
abbrev N_alike_wide : List Str := ["one", "two", "first", "other", "label"]
theorem sc_alike_wide : FnScope N_alike_wide ["one", "two"] (defScope s_alike_wide) := ⟨rfl, rfl, rfl, by decide +kernel, rfl, by decide +kernel, by decide +kernel⟩
theorem ok_alike_wide {n : Nat} {g : Nm → FnD} (Gs : Gf K mg) (ih : Fs P w K mg base n g) : ∀ (f : Addr) (cdv : Value) (A : Around) (outer : List PySem.Env) (s : Shared) (H : Hp) (E : XK), Room n (A.deeper (envOfC "alike_wide" (defScope s_alike_wide) s.heap.objs.size f cdv)) →
    PSs (bodyX P w K mg base N_alike_wide "alike_wide" (defScope s_alike_wide) f cdv A outer s H E) (defBody s_alike_wide) (tS ⟨K, mg⟩ (b_alike_wide g)) := fun f cdv A outer s H E hr =>
  have Z := Gs.z
  have SC := sc_alike_wide
  (css_cons (cs_if (CB.pt (cb_or (t_cmp (c_eq hr) (co_name (i := 0)) (co_of (cd_glob ⟨rfl, Gs.g_ANY⟩))) (cb_or1 (t_cmp (c_eq hr) (co_name (i := 1)) (co_of (cd_glob ⟨rfl, Gs.g_ANY⟩)))))) (css_one (cs_ret (cw_of cd_bl))) css_nil)
    (css_cons (cs_if (t_cmp (c_ne hr) (co_of (w_ix hr (co_name (i := 0)) (co_of cd_int))) (co_of (w_ix hr (co_name (i := 1)) (co_of cd_int)))) (css_one (cs_ret (cw_of cd_bl))) css_nil)
    (css_cons (cs_if (t_cmp (c_eq hr) (co_of (w_ix hr (co_name (i := 0)) (co_of cd_int))) (co_of cd_str)) (css_one (cs_ret (cw_of (cd_and (cd_of (cw_call ih.f_alike_wide.to hr rfl (ca_val (w_ix hr (co_name (i := 0)) (co_of cd_int)) (ca_val (w_ix hr (co_name (i := 1)) (co_of cd_int)) ca_nil)))) (cd_one (cd_of (cw_call ih.f_alike_wide.to hr rfl (ca_val (w_ix hr (co_name (i := 0)) (co_of cd_int)) (ca_val (w_ix hr (co_name (i := 1)) (co_of cd_int)) ca_nil))))))))) css_nil)
    (css_cons (cs_if (t_cmp (c_ne hr) (co_of (w_ix hr (co_name (i := 0)) (co_of cd_int))) (co_of cd_str)) (css_one (cs_ret (cw_of cd_bl))) css_nil)
    (css_cons (cs_asg (cd_tup (cl_cons (cd_of cw_never) (cl_cons (cd_of cw_never) cl_nil))) (cg_tup rfl (cgs_cons (cg_name (i := 2) SC.nd rfl (by first | exact Or.inl rfl | exact Or.inr rfl) (by first | exact Or.inl rfl | exact Or.inr rfl)) (cgs_cons (cg_name (i := 3) SC.nd rfl (by first | exact Or.inl rfl | exact Or.inr rfl) (by first | exact Or.inl rfl | exact Or.inr rfl)) cgs_nil))))
    (css_one (cs_ret (cw_of (cd_and (w_cmp (c_eq hr) (co_of (cd_of cw_never)) (co_of (cd_of cw_never))) (cd_one (w_all Z rfl (co_of (cd_of (cw_lc rfl SC.nd (own := [("label", 4)]) (ci_seq (cd_name (i := 2))) (blkOk_by (by show blkC N_alike_wide (defScope s_alike_wide) _ _ = true; decide +kernel)) (by decide) (fun _ _ _ _ _ => (cg_name (i := 4) SC.nd rfl (by first | exact Or.inl rfl | exact Or.inr rfl) (by first | exact Or.inl rfl | exact Or.inr rfl))) (fun _ _ _ _ _ => cts_nil) (fun _ _ _ _ _ => (cd_of (cw_call ih.f_alike_wide.to hr rfl (ca_val (w_ix hr (co_name (i := 2)) (co_name (i := 4))) (ca_val (w_ix hr (co_name (i := 3)) (co_name (i := 4))) ca_nil)))))))))))))))))))
abbrev s_finer_wide : Stmt := topS 10
abbrev N_finer_wide : List Str := ["one", "two", "first", "other", "label"]
theorem sc_finer_wide : FnScope N_finer_wide ["one", "two"] (defScope s_finer_wide) := ⟨rfl, rfl, rfl, by decide +kernel, rfl, by decide +kernel, by decide +kernel⟩
theorem ok_finer_wide {n : Nat} {g : Nm → FnD} (Gs : Gf K mg) (ih : Fs P w K mg base n g) : ∀ (f : Addr) (cdv : Value) (A : Around) (outer : List PySem.Env) (s : Shared) (H : Hp) (E : XK), Room n (A.deeper (envOfC "finer_wide" (defScope s_finer_wide) s.heap.objs.size f cdv)) →
    PSs (bodyX P w K mg base N_finer_wide "finer_wide" (defScope s_finer_wide) f cdv A outer s H E) (defBody s_finer_wide) (tS ⟨K, mg⟩ (b_finer_wide g)) := fun f cdv A outer s H E hr =>
  have Z := Gs.z
  have SC := sc_finer_wide
  (css_cons (cs_if (t_cmp (c_eq hr) (co_name (i := 1)) (co_of (cd_glob ⟨rfl, Gs.g_ANY⟩))) (css_one (cs_ret (cw_of cd_bl))) css_nil)
    (css_cons (cs_if (t_cmp (c_ne hr) (co_of (w_ix hr (co_name (i := 0)) (co_of cd_int))) (co_of (w_ix hr (co_name (i := 1)) (co_of cd_int)))) (css_one (cs_ret (cw_of cd_bl))) css_nil)
    (css_cons (cs_if (t_cmp (c_eq hr) (co_of (w_ix hr (co_name (i := 0)) (co_of cd_int))) (co_of cd_str)) (css_one (cs_ret (cw_of (cd_and (cd_of (cw_call ih.f_finer_wide.to hr rfl (ca_val (w_ix hr (co_name (i := 0)) (co_of cd_int)) (ca_val (w_ix hr (co_name (i := 1)) (co_of cd_int)) ca_nil)))) (cd_one (cd_of (cw_call ih.f_finer_wide.to hr rfl (ca_val (w_ix hr (co_name (i := 0)) (co_of cd_int)) (ca_val (w_ix hr (co_name (i := 1)) (co_of cd_int)) ca_nil))))))))) css_nil)
    (css_cons (cs_if (t_cmp (c_ne hr) (co_of (w_ix hr (co_name (i := 0)) (co_of cd_int))) (co_of cd_str)) (css_one (cs_ret (cw_of cd_bl))) css_nil)
    (css_cons (cs_asg (cd_tup (cl_cons (cd_of cw_never) (cl_cons (cd_of cw_never) cl_nil))) (cg_tup rfl (cgs_cons (cg_name (i := 2) SC.nd rfl (by first | exact Or.inl rfl | exact Or.inr rfl) (by first | exact Or.inl rfl | exact Or.inr rfl)) (cgs_cons (cg_name (i := 3) SC.nd rfl (by first | exact Or.inl rfl | exact Or.inr rfl) (by first | exact Or.inl rfl | exact Or.inr rfl)) cgs_nil))))
    (css_one (cs_ret (cw_of (cd_and (w_cmp (c_eq hr) (co_of (cd_of cw_never)) (co_of (cd_of cw_never))) (cd_one (w_all Z rfl (co_of (cd_of (cw_lc rfl SC.nd (own := [("label", 4)]) (ci_seq (cd_name (i := 2))) (blkOk_by (by show blkC N_finer_wide (defScope s_finer_wide) _ _ = true; decide +kernel)) (by decide) (fun _ _ _ _ _ => (cg_name (i := 4) SC.nd rfl (by first | exact Or.inl rfl | exact Or.inr rfl) (by first | exact Or.inl rfl | exact Or.inr rfl))) (fun _ _ _ _ _ => cts_nil) (fun _ _ _ _ _ => (cd_of (cw_call ih.f_finer_wide.to hr rfl (ca_val (w_ix hr (co_name (i := 2)) (co_name (i := 4))) (ca_val (w_ix hr (co_name (i := 3)) (co_name (i := 4))) ca_nil)))))))))))))))))))
abbrev s_alike_under : Stmt := topS 11
abbrev N_alike_under : List Str := ["one", "two", "known", "label", "part"]
theorem sc_alike_under : FnScope N_alike_under ["one", "two"] (defScope s_alike_under) := ⟨rfl, rfl, rfl, by decide +kernel, rfl, by decide +kernel, by decide +kernel⟩
theorem ok_alike_under {n : Nat} {g : Nm → FnD} (Gs : Gf K mg) (ih : Fs P w K mg base n g) : ∀ (f : Addr) (cdv : Value) (A : Around) (outer : List PySem.Env) (s : Shared) (H : Hp) (E : XK), Room n (A.deeper (envOfC "alike_under" (defScope s_alike_under) s.heap.objs.size f cdv)) →
    PSs (bodyX P w K mg base N_alike_under "alike_under" (defScope s_alike_under) f cdv A outer s H E) (defBody s_alike_under) (tS ⟨K, mg⟩ (b_alike_under g)) := fun f cdv A outer s H E hr =>
  have Z := Gs.z
  have SC := sc_alike_under
  (css_cons (cs_if (CB.pt (cb_or (t_cmp (c_eq hr) (co_name (i := 0)) (co_of (cd_glob ⟨rfl, Gs.g_ANY⟩))) (cb_or1 (t_cmp (c_eq hr) (co_name (i := 1)) (co_of (cd_glob ⟨rfl, Gs.g_ANY⟩)))))) (css_one (cs_ret (cw_of cd_bl))) css_nil)
    (css_cons (cs_if (t_cmp (c_ne hr) (co_of (w_ix hr (co_name (i := 0)) (co_of cd_int))) (co_of (w_ix hr (co_name (i := 1)) (co_of cd_int)))) (css_one (cs_ret (cw_of cd_bl))) css_nil)
    (css_cons (cs_if (t_cmp (c_eq hr) (co_of (w_ix hr (co_name (i := 0)) (co_of cd_int))) (co_of cd_str)) (css_one (cs_ret (cw_of (cd_and (cd_of (cw_call ih.f_alike_under.to hr rfl (ca_val (w_ix hr (co_name (i := 1)) (co_of cd_int)) (ca_val (w_ix hr (co_name (i := 0)) (co_of cd_int)) ca_nil)))) (cd_one (cd_of (cw_call ih.f_alike_under.to hr rfl (ca_val (w_ix hr (co_name (i := 0)) (co_of cd_int)) (ca_val (w_ix hr (co_name (i := 1)) (co_of cd_int)) ca_nil))))))))) css_nil)
    (css_cons (cs_if (t_cmp (c_ne hr) (co_of (w_ix hr (co_name (i := 0)) (co_of cd_int))) (co_of cd_str)) (css_one (cs_ret (cw_of cd_bl))) css_nil)
    (css_cons (cs_set (i := 2) SC.nd rfl (by first | exact Or.inl rfl | exact Or.inr rfl) cw_never)
    (css_one (cs_ret (cw_of (w_all Z rfl (co_of (cd_of (cw_lc rfl SC.nd (own := [("label", 3), ("part", 4)]) (ci_seq (w_ix hr (co_name (i := 1)) (co_of cd_int))) (blkOk_by (by show blkC N_alike_under (defScope s_alike_under) _ _ = true; decide +kernel)) (by decide) (fun _ _ _ _ _ => (cg_tup rfl (cgs_cons (cg_name (i := 3) SC.nd rfl (by first | exact Or.inl rfl | exact Or.inr rfl) (by first | exact Or.inl rfl | exact Or.inr rfl)) (cgs_cons (cg_name (i := 4) SC.nd rfl (by first | exact Or.inl rfl | exact Or.inr rfl) (by first | exact Or.inl rfl | exact Or.inr rfl)) cgs_nil)))) (fun _ _ _ _ _ => cts_nil) (fun _ _ _ _ _ => (cd_and (w_cmp (c_in hr) (co_name (i := 3)) (co_name (i := 2))) (cd_one (cd_of (cw_call ih.f_alike_under.to hr rfl (ca_val (w_ix hr (co_name (i := 2)) (co_name (i := 3))) (ca_val (cd_name (i := 4)) ca_nil)))))))))))))))))))
abbrev s_masked : Stmt := topS 12
abbrev N_masked : List Str := ["one", "two", "other", "label", "part"]
theorem sc_masked : FnScope N_masked ["one", "two"] (defScope s_masked) := ⟨rfl, rfl, rfl, by decide +kernel, rfl, by decide +kernel, by decide +kernel⟩
theorem ok_masked {n : Nat} {g : Nm → FnD} (Gs : Gf K mg) (ih : Fs P w K mg base n g) : ∀ (f : Addr) (cdv : Value) (A : Around) (outer : List PySem.Env) (s : Shared) (H : Hp) (E : XK), Room n (A.deeper (envOfC "masked" (defScope s_masked) s.heap.objs.size f cdv)) →
    PSs (bodyX P w K mg base N_masked "masked" (defScope s_masked) f cdv A outer s H E) (defBody s_masked) (tS ⟨K, mg⟩ (b_masked g)) := fun f cdv A outer s H E hr =>
  have Z := Gs.z
  have SC := sc_masked
  (css_cons (cs_if (t_cmp (c_eq hr) (co_name (i := 1)) (co_of (cd_glob ⟨rfl, Gs.g_ANY⟩))) (css_one (cs_ret (cw_of (cd_glob ⟨rfl, Gs.g_ANY⟩)))) css_nil)
    (css_cons (cs_if (CB.pt (cb_or (t_cmp (c_ne hr) (co_of (w_ix hr (co_name (i := 0)) (co_of cd_int))) (co_of (w_ix hr (co_name (i := 1)) (co_of cd_int)))) (cb_or1 (t_cmp (c_nin hr) (co_of (w_ix hr (co_name (i := 0)) (co_of cd_int))) (co_of (cd_tup (cl_cons cd_str (cl_cons cd_str cl_nil)))))))) (css_one (cs_ret (cw_move (i := 0)))) css_nil)
    (css_cons (cs_if (t_cmp (c_eq hr) (co_of (w_ix hr (co_name (i := 0)) (co_of cd_int))) (co_of cd_str)) (css_one (cs_ret (cw_of (cd_tup (cl_cons cd_str (cl_cons (cd_of (cw_call ih.f_masked.to hr rfl (ca_val (w_ix hr (co_name (i := 0)) (co_of cd_int)) (ca_val (w_ix hr (co_name (i := 1)) (co_of cd_int)) ca_nil)))) (cl_cons (cd_of (cw_call ih.f_masked.to hr rfl (ca_val (w_ix hr (co_name (i := 0)) (co_of cd_int)) (ca_val (w_ix hr (co_name (i := 1)) (co_of cd_int)) ca_nil)))) cl_nil))))))) css_nil)
    (css_cons (cs_set (i := 2) SC.nd rfl (by first | exact Or.inl rfl | exact Or.inr rfl) cw_never)
    (css_one (cs_ret cw_never))))))
abbrev s_upper : Stmt := topS 13
abbrev N_upper : List Str := ["one", "two", "parts", "first", "other", "found", "label"]
theorem sc_upper : FnScope N_upper ["one", "two"] (defScope s_upper) := ⟨rfl, rfl, rfl, by decide +kernel, rfl, by decide +kernel, by decide +kernel⟩
theorem ok_upper {n : Nat} {g : Nm → FnD} (Gs : Gf K mg) (ih : Fs P w K mg base n g) : ∀ (f : Addr) (cdv : Value) (A : Around) (outer : List PySem.Env) (s : Shared) (H : Hp) (E : XK), Room n (A.deeper (envOfC "upper" (defScope s_upper) s.heap.objs.size f cdv)) →
    PSs (bodyX P w K mg base N_upper "upper" (defScope s_upper) f cdv A outer s H E) (defBody s_upper) (tS ⟨K, mg⟩ (b_upper g)) := fun f cdv A outer s H E hr =>
  have Z := Gs.z
  have SC := sc_upper
  (css_cons (cs_if (t_cmp (c_ne hr) (co_of (w_ix hr (co_name (i := 0)) (co_of cd_int))) (co_of (w_ix hr (co_name (i := 1)) (co_of cd_int)))) (css_one (cs_ret (cw_of cd_non))) css_nil)
    (css_cons (cs_if (t_cmp (c_eq hr) (co_of (w_ix hr (co_name (i := 0)) (co_of cd_int))) (co_of cd_str)) (css_cons (cs_set (i := 2) SC.nd rfl (by first | exact Or.inl rfl | exact Or.inr rfl) (cw_of (cd_tup (cl_cons (cd_of (cw_call ih.f_lower.to hr rfl (ca_val (w_ix hr (co_name (i := 0)) (co_of cd_int)) (ca_val (w_ix hr (co_name (i := 1)) (co_of cd_int)) ca_nil)))) (cl_cons (cd_of (cw_call ih.f_upper.to hr rfl (ca_val (w_ix hr (co_name (i := 0)) (co_of cd_int)) (ca_val (w_ix hr (co_name (i := 1)) (co_of cd_int)) ca_nil)))) cl_nil)))))
    (css_one (cs_ret (cw_if (t_cmp (c_in hr) (co_of cd_non) (co_name (i := 2))) (cw_of cd_non) (cw_of (w_add (co_of (cd_tup (cl_cons cd_str cl_nil))) (co_name (i := 2)))))))) css_nil)
    (css_cons (cs_if (t_cmp (c_ne hr) (co_of (w_ix hr (co_name (i := 0)) (co_of cd_int))) (co_of cd_str)) (css_one (cs_ret (cw_move (i := 0)))) css_nil)
    (css_cons (cs_asg (cd_tup (cl_cons (cd_of cw_never) (cl_cons (cd_of cw_never) cl_nil))) (cg_tup rfl (cgs_cons (cg_name (i := 3) SC.nd rfl (by first | exact Or.inl rfl | exact Or.inr rfl) (by first | exact Or.inl rfl | exact Or.inr rfl)) (cgs_cons (cg_name (i := 4) SC.nd rfl (by first | exact Or.inl rfl | exact Or.inr rfl) (by first | exact Or.inl rfl | exact Or.inr rfl)) cgs_nil))))
    (css_cons (cs_set (i := 5) SC.nd rfl (by first | exact Or.inl rfl | exact Or.inr rfl) cw_never)
    (css_one (cs_ret cw_never)))))))
abbrev s_lower : Stmt := topS 14
abbrev N_lower : List Str := ["one", "two", "parts", "first", "other", "found", "label"]
theorem sc_lower : FnScope N_lower ["one", "two"] (defScope s_lower) := ⟨rfl, rfl, rfl, by decide +kernel, rfl, by decide +kernel, by decide +kernel⟩
theorem ok_lower {n : Nat} {g : Nm → FnD} (Gs : Gf K mg) (ih : Fs P w K mg base n g) : ∀ (f : Addr) (cdv : Value) (A : Around) (outer : List PySem.Env) (s : Shared) (H : Hp) (E : XK), Room n (A.deeper (envOfC "lower" (defScope s_lower) s.heap.objs.size f cdv)) →
    PSs (bodyX P w K mg base N_lower "lower" (defScope s_lower) f cdv A outer s H E) (defBody s_lower) (tS ⟨K, mg⟩ (b_lower g)) := fun f cdv A outer s H E hr =>
  have Z := Gs.z
  have SC := sc_lower
  (css_cons (cs_if (t_cmp (c_ne hr) (co_of (w_ix hr (co_name (i := 0)) (co_of cd_int))) (co_of (w_ix hr (co_name (i := 1)) (co_of cd_int)))) (css_one (cs_ret (cw_of cd_non))) css_nil)
    (css_cons (cs_if (t_cmp (c_eq hr) (co_of (w_ix hr (co_name (i := 0)) (co_of cd_int))) (co_of cd_str)) (css_cons (cs_set (i := 2) SC.nd rfl (by first | exact Or.inl rfl | exact Or.inr rfl) (cw_of (cd_tup (cl_cons (cd_of (cw_call ih.f_upper.to hr rfl (ca_val (w_ix hr (co_name (i := 0)) (co_of cd_int)) (ca_val (w_ix hr (co_name (i := 1)) (co_of cd_int)) ca_nil)))) (cl_cons (cd_of (cw_call ih.f_lower.to hr rfl (ca_val (w_ix hr (co_name (i := 0)) (co_of cd_int)) (ca_val (w_ix hr (co_name (i := 1)) (co_of cd_int)) ca_nil)))) cl_nil)))))
    (css_one (cs_ret (cw_if (t_cmp (c_in hr) (co_of cd_non) (co_name (i := 2))) (cw_of cd_non) (cw_of (w_add (co_of (cd_tup (cl_cons cd_str cl_nil))) (co_name (i := 2)))))))) css_nil)
    (css_cons (cs_if (t_cmp (c_ne hr) (co_of (w_ix hr (co_name (i := 0)) (co_of cd_int))) (co_of cd_str)) (css_one (cs_ret (cw_move (i := 0)))) css_nil)
    (css_cons (cs_par (i := 3) (j := 4) rfl SC.nd rfl rfl (by decide) rfl rfl cw_never cw_never (by rfl))
    (css_cons (cs_set (i := 5) SC.nd rfl (by first | exact Or.inl rfl | exact Or.inr rfl) cw_never)
    (css_cons (cs_for PassesOwn.never rfl (ci_seq (cd_name (i := 4))) (cg_name (i := 6) SC.nd rfl (by first | exact Or.inl rfl | exact Or.inr rfl) (by first | exact Or.inl rfl | exact Or.inr rfl)) (css_one (cs_put (i := 5) (ru1 hr) rfl (by first | exact Or.inl rfl | exact Or.inr (Or.inl rfl) | exact Or.inr (Or.inr rfl)) (cd_if (t_cmp (c_in hr) (co_name (i := 6)) (co_name (i := 3))) (cd_of (cw_call ih.f_lower.to hr rfl (ca_val (w_ix hr (co_name (i := 3)) (co_name (i := 6))) (ca_val (w_ix hr (co_name (i := 4)) (co_name (i := 6))) ca_nil)))) (w_ix hr (co_name (i := 4)) (co_name (i := 6)))) (cd_name (i := 6)))))
    (css_one (cs_ret (cw_if (t_cmp (c_in hr) (co_of cd_non) (co_of (cd_of cw_never))) (cw_of cd_non) cw_never)))))))))
abbrev s_alike : Stmt := topS 16
abbrev N_alike : List Str := ["one", "two", "first", "other"]
theorem sc_alike : FnScope N_alike ["one", "two"] (defScope s_alike) := ⟨rfl, rfl, rfl, by decide +kernel, rfl, by decide +kernel, by decide +kernel⟩
theorem ok_alike {n : Nat} {g : Nm → FnD} (Gs : Gf K mg) (ih : Fs P w K mg base n g) : ∀ (f : Addr) (cdv : Value) (A : Around) (outer : List PySem.Env) (s : Shared) (H : Hp) (E : XK), Room n (A.deeper (envOfC "alike" (defScope s_alike) s.heap.objs.size f cdv)) →
    PSs (bodyX P w K mg base N_alike "alike" (defScope s_alike) f cdv A outer s H E) (defBody s_alike) (tS ⟨K, mg⟩ (b_alike g)) := fun f cdv A outer s H E hr =>
  have Z := Gs.z
  have SC := sc_alike
  (css_cons (cs_if (CB.pt (cb_or (t_cmp (c_eq hr) (co_name (i := 0)) (co_of (cd_glob ⟨rfl, Gs.g_ANY⟩))) (cb_or1 (t_cmp (c_eq hr) (co_name (i := 1)) (co_of (cd_glob ⟨rfl, Gs.g_ANY⟩)))))) (css_one (cs_ret (cw_of cd_bl))) css_nil)
    (css_cons (cs_if (t_cmp (c_ne hr) (co_of (w_ix hr (co_name (i := 0)) (co_of cd_int))) (co_of (w_ix hr (co_name (i := 1)) (co_of cd_int)))) (css_one (cs_ret (cw_of cd_bl))) css_nil)
    (css_one (cs_ret (cw_of (w_all Z rfl (co_of (cd_of (cw_lc rfl SC.nd (own := [("first", 2), ("other", 3)]) (ci_zip rfl Z.zip (cl_cons (cd_slice (co_name (i := 0)) (cp_some cd_int) cp_none) (cl_cons (cd_slice (co_name (i := 1)) (cp_some cd_int) cp_none) cl_nil))) (blkOk_by (by show blkC N_alike (defScope s_alike) _ _ = true; decide +kernel)) (by decide) (fun _ _ _ _ _ => (cg_tup rfl (cgs_cons (cg_name (i := 2) SC.nd rfl (by first | exact Or.inl rfl | exact Or.inr rfl) (by first | exact Or.inl rfl | exact Or.inr rfl)) (cgs_cons (cg_name (i := 3) SC.nd rfl (by first | exact Or.inl rfl | exact Or.inr rfl) (by first | exact Or.inl rfl | exact Or.inr rfl)) cgs_nil)))) (fun _ _ _ _ _ => cts_nil) (fun _ _ _ _ _ => (cd_of (cw_call ih.f_alike.to hr rfl (ca_val (cd_name (i := 2)) (ca_val (cd_name (i := 3)) ca_nil))))))))))))))
abbrev s_finer : Stmt := topS 17
abbrev N_finer : List Str := ["one", "two", "first", "other"]
theorem sc_finer : FnScope N_finer ["one", "two"] (defScope s_finer) := ⟨rfl, rfl, rfl, by decide +kernel, rfl, by decide +kernel, by decide +kernel⟩
theorem ok_finer {n : Nat} {g : Nm → FnD} (Gs : Gf K mg) (ih : Fs P w K mg base n g) : ∀ (f : Addr) (cdv : Value) (A : Around) (outer : List PySem.Env) (s : Shared) (H : Hp) (E : XK), Room n (A.deeper (envOfC "finer" (defScope s_finer) s.heap.objs.size f cdv)) →
    PSs (bodyX P w K mg base N_finer "finer" (defScope s_finer) f cdv A outer s H E) (defBody s_finer) (tS ⟨K, mg⟩ (b_finer g)) := fun f cdv A outer s H E hr =>
  have Z := Gs.z
  have SC := sc_finer
  (css_cons (cs_if (t_cmp (c_eq hr) (co_name (i := 1)) (co_of (cd_glob ⟨rfl, Gs.g_ANY⟩))) (css_one (cs_ret (cw_of cd_bl))) css_nil)
    (css_cons (cs_if (t_cmp (c_ne hr) (co_of (w_ix hr (co_name (i := 0)) (co_of cd_int))) (co_of (w_ix hr (co_name (i := 1)) (co_of cd_int)))) (css_one (cs_ret (cw_of cd_bl))) css_nil)
    (css_one (cs_ret (cw_of (w_all Z rfl (co_of (cd_of (cw_lc rfl SC.nd (own := [("first", 2), ("other", 3)]) (ci_zip rfl Z.zip (cl_cons (cd_slice (co_name (i := 0)) (cp_some cd_int) cp_none) (cl_cons (cd_slice (co_name (i := 1)) (cp_some cd_int) cp_none) cl_nil))) (blkOk_by (by show blkC N_finer (defScope s_finer) _ _ = true; decide +kernel)) (by decide) (fun _ _ _ _ _ => (cg_tup rfl (cgs_cons (cg_name (i := 2) SC.nd rfl (by first | exact Or.inl rfl | exact Or.inr rfl) (by first | exact Or.inl rfl | exact Or.inr rfl)) (cgs_cons (cg_name (i := 3) SC.nd rfl (by first | exact Or.inl rfl | exact Or.inr rfl) (by first | exact Or.inl rfl | exact Or.inr rfl)) cgs_nil)))) (fun _ _ _ _ _ => cts_nil) (fun _ _ _ _ _ => (cd_of (cw_call ih.f_finer.to hr rfl (ca_val (cd_name (i := 2)) (ca_val (cd_name (i := 3)) ca_nil))))))))))))))
abbrev s_join : Stmt := topS 18
abbrev N_join : List Str := ["one", "two", "first", "other"]
theorem sc_join : FnScope N_join ["one", "two"] (defScope s_join) := ⟨rfl, rfl, rfl, by decide +kernel, rfl, by decide +kernel, by decide +kernel⟩
theorem ok_join {n : Nat} {g : Nm → FnD} (Gs : Gf K mg) (ih : Fs P w K mg base n g) : ∀ (f : Addr) (cdv : Value) (A : Around) (outer : List PySem.Env) (s : Shared) (H : Hp) (E : XK), Room n (A.deeper (envOfC "join" (defScope s_join) s.heap.objs.size f cdv)) →
    PSs (bodyX P w K mg base N_join "join" (defScope s_join) f cdv A outer s H E) (defBody s_join) (tS ⟨K, mg⟩ (b_join g)) := fun f cdv A outer s H E hr =>
  have Z := Gs.z
  have SC := sc_join
  (css_cons (cs_if (CB.pt (cb_or (t_cmp (c_eq hr) (co_name (i := 0)) (co_of (cd_glob ⟨rfl, Gs.g_ANY⟩))) (cb_or (t_cmp (c_eq hr) (co_name (i := 1)) (co_of (cd_glob ⟨rfl, Gs.g_ANY⟩))) (cb_or1 (t_cmp (c_ne hr) (co_of (w_ix hr (co_name (i := 0)) (co_of cd_int))) (co_of (w_ix hr (co_name (i := 1)) (co_of cd_int)))))))) (css_one (cs_ret (cw_of (cd_glob ⟨rfl, Gs.g_ANY⟩)))) css_nil)
    (css_one (cs_ret (cw_of (w_add (co_of (cd_tup (cl_cons (w_ix hr (co_name (i := 0)) (co_of cd_int)) cl_nil))) (co_of (w_tuple Z (co_of (cd_of (cw_lc rfl SC.nd (own := [("first", 2), ("other", 3)]) (ci_zip rfl Z.zip (cl_cons (cd_slice (co_name (i := 0)) (cp_some cd_int) cp_none) (cl_cons (cd_slice (co_name (i := 1)) (cp_some cd_int) cp_none) cl_nil))) (blkOk_by (by show blkC N_join (defScope s_join) _ _ = true; decide +kernel)) (by decide) (fun _ _ _ _ _ => (cg_tup rfl (cgs_cons (cg_name (i := 2) SC.nd rfl (by first | exact Or.inl rfl | exact Or.inr rfl) (by first | exact Or.inl rfl | exact Or.inr rfl)) (cgs_cons (cg_name (i := 3) SC.nd rfl (by first | exact Or.inl rfl | exact Or.inr rfl) (by first | exact Or.inl rfl | exact Or.inr rfl)) cgs_nil)))) (fun _ _ _ _ _ => cts_nil) (fun _ _ _ _ _ => (cd_of (cw_call ih.f_join.to hr rfl (ca_val (cd_name (i := 2)) (ca_val (cd_name (i := 3)) ca_nil)))))))))))))))
abbrev s__law_draws : Stmt := topS 20
abbrev N__law_draws : List Str := ["script"]
theorem sc__law_draws : FnScope N__law_draws ["script"] (defScope s__law_draws) := ⟨rfl, rfl, rfl, by decide +kernel, rfl, by decide +kernel, by decide +kernel⟩
theorem ok__law_draws {n : Nat} {g : Nm → FnD} (Gs : Gf K mg) (ih : Fs P w K mg base n g) : ∀ (f : Addr) (cdv : Value) (A : Around) (outer : List PySem.Env) (s : Shared) (H : Hp) (E : XK), Room n (A.deeper (envOfC "_law_draws" (defScope s__law_draws) s.heap.objs.size f cdv)) →
    PSs (bodyX P w K mg base N__law_draws "_law_draws" (defScope s__law_draws) f cdv A outer s H E) (defBody s__law_draws) (tS ⟨K, mg⟩ (b__law_draws g)) := fun f cdv A outer s H E hr =>
  have Z := Gs.z
  have SC := sc__law_draws
  (css_one (cs_ret (cw_lst (cl_cons (cd_of (w_list Z (co_name (i := 0)))) (cl_cons cd_int (cl_cons cd_int (cl_cons cd_int cl_nil)))))))
abbrev s__law_draw : Stmt := topS 21
abbrev N__law_draw : List Str := ["draws", "limit", "cell", "value"]
theorem sc__law_draw : FnScope N__law_draw ["draws", "limit"] (defScope s__law_draw) := ⟨rfl, rfl, rfl, by decide +kernel, rfl, by decide +kernel, by decide +kernel⟩
theorem ok__law_draw {n : Nat} {g : Nm → FnD} (Gs : Gf K mg) (ih : Fs P w K mg base n g) : ∀ (f : Addr) (cdv : Value) (A : Around) (outer : List PySem.Env) (s : Shared) (H : Hp) (E : XK), Room n (A.deeper (envOfC "_law_draw" (defScope s__law_draw) s.heap.objs.size f cdv)) →
    PSs (bodyX P w K mg base N__law_draw "_law_draw" (defScope s__law_draw) f cdv A outer s H E) (defBody s__law_draw) (tS ⟨K, mg⟩ (b__law_draw g)) := fun f cdv A outer s H E hr =>
  have Z := Gs.z
  have SC := sc__law_draw
  (css_cons (cs_if (CB.pt (cb_and (t_cmp (c_eq hr) (co_of (w_ix hr (co_name (i := 0)) (co_of cd_int))) (co_of cd_int)) (cb_and1 (t_cmp c_lt (co_of (w_ix hr (co_name (i := 0)) (co_of cd_int))) (co_of (w_len Z (co_of (w_ix hr (co_name (i := 0)) (co_of cd_int))))))))) (css_cons (cs_set (i := 2) SC.nd rfl (by first | exact Or.inl rfl | exact Or.inr rfl) (cw_of (w_ix hr (co_of (w_ix hr (co_name (i := 0)) (co_of cd_int))) (co_of (w_ix hr (co_name (i := 0)) (co_of cd_int))))))
    (css_cons (cs_put (i := 0) (ru1 hr) rfl (by first | exact Or.inl rfl | exact Or.inr (Or.inl rfl) | exact Or.inr (Or.inr rfl)) (w_add (co_of (w_ix hr (co_name (i := 0)) (co_of cd_int))) (co_of cd_int)) cd_int)
    (css_cons (cs_if (t_cmp c_ge (co_name (i := 2)) (co_of (w_pow (co_of cd_int) (co_of cd_int)))) (css_one (cs_put (i := 0) (ru1 hr) rfl (by first | exact Or.inl rfl | exact Or.inr (Or.inl rfl) | exact Or.inr (Or.inr rfl)) (cd_name (i := 2)) cd_int)) css_nil)
    (css_one (cs_put (i := 0) (ru1 hr) rfl (by first | exact Or.inl rfl | exact Or.inr (Or.inl rfl) | exact Or.inr (Or.inr rfl)) (w_mod (co_of (w_int Z (co_of (w_add (co_of (w_add (co_of (w_mul (co_of (w_ix hr (co_name (i := 0)) (co_of cd_int))) (co_of cd_int))) (co_name (i := 2)))) (co_of cd_int))))) (co_of cd_int)) cd_int))))) css_nil)
    (css_cons (cs_if (t_cmp c_gt (co_of (w_ix hr (co_name (i := 0)) (co_of cd_int))) (co_of cd_int)) (css_cons (cs_set (i := 3) SC.nd rfl (by first | exact Or.inl rfl | exact Or.inr rfl) (cw_of (w_mod (co_of (w_int Z (co_of (w_ix hr (co_name (i := 0)) (co_of cd_int))))) (co_name (i := 1)))))
    (css_cons (cs_put (i := 0) (ru1 hr) rfl (by first | exact Or.inl rfl | exact Or.inr (Or.inl rfl) | exact Or.inr (Or.inr rfl)) (w_div (co_of (w_ix hr (co_name (i := 0)) (co_of cd_int))) (co_name (i := 1))) cd_int)
    (css_one (cs_ret (cw_move (i := 3)))))) css_nil)
    (css_cons (cs_put (i := 0) (ru1 hr) rfl (by first | exact Or.inl rfl | exact Or.inr (Or.inl rfl) | exact Or.inr (Or.inr rfl)) (w_mod (co_of (w_int Z (co_of (w_add (co_of (w_mul (co_of (w_ix hr (co_name (i := 0)) (co_of cd_int))) (co_of cd_int))) (co_of cd_int))))) (co_of cd_int)) cd_int)
    (css_one (cs_ret (cw_of (w_mod (co_of (w_int Z (co_of (w_div (co_of (w_ix hr (co_name (i := 0)) (co_of cd_int))) (co_of cd_int))))) (co_name (i := 1)))))))))
abbrev s__law_same : Stmt := topS 22
abbrev N__law_same : List Str := ["actual", "expected", "k"]
theorem sc__law_same : FnScope N__law_same ["actual", "expected"] (defScope s__law_same) := ⟨rfl, rfl, rfl, by decide +kernel, rfl, by decide +kernel, by decide +kernel⟩
theorem ok__law_same {n : Nat} {g : Nm → FnD} (Gs : Gf K mg) (ih : Fs P w K mg base n g) : ∀ (f : Addr) (cdv : Value) (A : Around) (outer : List PySem.Env) (s : Shared) (H : Hp) (E : XK), Room n (A.deeper (envOfC "_law_same" (defScope s__law_same) s.heap.objs.size f cdv)) →
    PSs (bodyX P w K mg base N__law_same "_law_same" (defScope s__law_same) f cdv A outer s H E) (defBody s__law_same) (tS ⟨K, mg⟩ (b__law_same g)) := fun f cdv A outer s H E hr =>
  have Z := Gs.z
  have SC := sc__law_same
  (css_cons (cs_if (CB.pt (cb_or (ct_val (w_isi Z (co_name (i := 1)) (co_of (ty_tuple Z)))) (cb_or1 (ct_val (w_isi Z (co_name (i := 1)) (co_of (ty_list Z))))))) (css_cons (cs_if (CB.pt (cb_or (t_cmp (c_ne hr) (co_of (w_isi Z (co_name (i := 1)) (co_of (ty_tuple Z)))) (co_of (w_isi Z (co_name (i := 0)) (co_of (ty_tuple Z))))) (cb_or1 (t_cmp (c_ne hr) (co_of (w_isi Z (co_name (i := 1)) (co_of (ty_list Z)))) (co_of (w_isi Z (co_name (i := 0)) (co_of (ty_list Z)))))))) (css_one (cs_ret (cw_of cd_bl))) css_nil)
    (css_cons (cs_if (t_cmp (c_ne hr) (co_of (w_len Z (co_name (i := 0)))) (co_of (w_len Z (co_name (i := 1))))) (css_one (cs_ret (cw_of cd_bl))) css_nil)
    (css_one (cs_ret (cw_of (w_cmp (c_eq hr) (co_of (w_len Z (co_of (cd_of (cw_lc rfl SC.nd (own := [("k", 2)]) (ci_rng1 rfl Z.range (cl_cons (w_len Z (co_name (i := 1))) cl_nil)) (blkOk_by (by show blkC N__law_same (defScope s__law_same) _ _ = true; decide +kernel)) (by decide) (fun _ _ _ _ _ => (cg_name (i := 2) SC.nd rfl (by first | exact Or.inl rfl | exact Or.inr rfl) (by first | exact Or.inl rfl | exact Or.inr rfl))) (fun _ _ _ _ _ => (cts_one (ct_not (ct_val (cd_of (cw_call ih.f__law_same.to hr rfl (ca_val (w_ix hr (co_name (i := 0)) (co_name (i := 2))) (ca_val (w_ix hr (co_name (i := 1)) (co_name (i := 2))) ca_nil)))))))) (fun _ _ _ _ _ => (cd_name (i := 2)))))))) (co_of cd_int))))))) css_nil)
    (css_cons (cs_if (ct_val (w_isi Z (co_name (i := 1)) (co_of (ty_str Z)))) (css_one (cs_ret (cw_of (cd_and (w_isi Z (co_name (i := 0)) (co_of (ty_str Z))) (cd_one (w_cmp (c_eq hr) (co_name (i := 0)) (co_name (i := 1)))))))) css_nil)
    (css_cons (cs_if (t_cmp c_is (co_name (i := 1)) (co_of cd_non)) (css_one (cs_ret (cw_of (w_cmp c_is (co_name (i := 0)) (co_of cd_non))))) css_nil)
    (css_cons (cs_if (CB.pt (cb_or (ct_val (w_isi Z (co_name (i := 1)) (co_of (ty_bool Z)))) (cb_or1 (ct_val (w_isi Z (co_name (i := 0)) (co_of (ty_bool Z))))))) (css_one (cs_ret (cw_of (cd_and (w_isi Z (co_name (i := 1)) (co_of (ty_bool Z))) (cd_and (w_isi Z (co_name (i := 0)) (co_of (ty_bool Z))) (cd_one (w_cmp (c_eq hr) (co_name (i := 0)) (co_name (i := 1))))))))) css_nil)
    (css_one (cs_ret (cw_of (cd_and (w_isi Z (co_name (i := 0)) (co_of (ty_int Z))) (cd_and (w_isi Z (co_name (i := 1)) (co_of (ty_int Z))) (cd_one (w_cmp (c_eq hr) (co_name (i := 0)) (co_name (i := 1)))))))))))))
abbrev s__law_small : Stmt := topS 23
abbrev N__law_small : List Str := ["draws", "deep", "form"]
theorem sc__law_small : FnScope N__law_small ["draws", "deep"] (defScope s__law_small) := ⟨rfl, rfl, rfl, by decide +kernel, rfl, by decide +kernel, by decide +kernel⟩
theorem ok__law_small {n : Nat} {g : Nm → FnD} (Gs : Gf K mg) (ih : Fs P w K mg base n g) : ∀ (f : Addr) (cdv : Value) (A : Around) (outer : List PySem.Env) (s : Shared) (H : Hp) (E : XK), Room n (A.deeper (envOfC "_law_small" (defScope s__law_small) s.heap.objs.size f cdv)) →
    PSs (bodyX P w K mg base N__law_small "_law_small" (defScope s__law_small) f cdv A outer s H E) (defBody s__law_small) (tS ⟨K, mg⟩ (b__law_small g)) := fun f cdv A outer s H E hr =>
  have Z := Gs.z
  have SC := sc__law_small
  (css_cons (cs_set (i := 2) SC.nd rfl (by first | exact Or.inl rfl | exact Or.inr rfl) (cw_if (t_cmp c_gt (co_name (i := 1)) (co_of cd_int)) (cw_call ih.f__law_draw.to hr rfl (ca_bor (i := 0) rfl (by first | exact Or.inl rfl | exact Or.inr (Or.inl rfl) | exact Or.inr (Or.inr rfl)) (ca_val cd_int ca_nil))) (cw_call ih.f__law_draw.to hr rfl (ca_bor (i := 0) rfl (by first | exact Or.inl rfl | exact Or.inr (Or.inl rfl) | exact Or.inr (Or.inr rfl)) (ca_val cd_int ca_nil)))))
    (css_cons (cs_if (t_cmp c_lt (co_name (i := 2)) (co_of cd_int)) (css_one (cs_ret (cw_of (w_ix hr (co_of (cd_of (cw_lst (cl_cons (cd_tup (cl_cons cd_str cl_nil)) (cl_cons (cd_tup (cl_cons cd_str cl_nil)) (cl_cons (cd_tup (cl_cons cd_str cl_nil)) cl_nil)))))) (co_name (i := 2)))))) css_nil)
    (css_one (cs_ret (cw_of (cd_tup (cl_cons cd_str (cl_cons (cd_of (cw_call ih.f__law_small.to hr rfl (ca_bor (i := 0) rfl (by first | exact Or.inl rfl | exact Or.inr (Or.inl rfl) | exact Or.inr (Or.inr rfl)) (ca_val (w_sub (co_name (i := 1)) (co_of cd_int)) ca_nil)))) (cl_cons (cd_of (cw_call ih.f__law_small.to hr rfl (ca_bor (i := 0) rfl (by first | exact Or.inl rfl | exact Or.inr (Or.inl rfl) | exact Or.inr (Or.inr rfl)) (ca_val (w_sub (co_name (i := 1)) (co_of cd_int)) ca_nil)))) cl_nil)))))))))
abbrev s__law_near : Stmt := topS 24
abbrev N__law_near : List Str := ["draws", "kind", "form"]
theorem sc__law_near : FnScope N__law_near ["draws", "kind"] (defScope s__law_near) := ⟨rfl, rfl, rfl, by decide +kernel, rfl, by decide +kernel, by decide +kernel⟩
theorem ok__law_near {n : Nat} {g : Nm → FnD} (Gs : Gf K mg) (ih : Fs P w K mg base n g) : ∀ (f : Addr) (cdv : Value) (A : Around) (outer : List PySem.Env) (s : Shared) (H : Hp) (E : XK), Room n (A.deeper (envOfC "_law_near" (defScope s__law_near) s.heap.objs.size f cdv)) →
    PSs (bodyX P w K mg base N__law_near "_law_near" (defScope s__law_near) f cdv A outer s H E) (defBody s__law_near) (tS ⟨K, mg⟩ (b__law_near g)) := fun f cdv A outer s H E hr =>
  have Z := Gs.z
  have SC := sc__law_near
  (css_cons (cs_set (i := 2) SC.nd rfl (by first | exact Or.inl rfl | exact Or.inr rfl) (cw_call ih.f__law_draw.to hr rfl (ca_bor (i := 0) rfl (by first | exact Or.inl rfl | exact Or.inr (Or.inl rfl) | exact Or.inr (Or.inr rfl)) (ca_val cd_int ca_nil))))
    (css_cons (cs_if (t_cmp (c_eq hr) (co_name (i := 2)) (co_of cd_int)) (css_one (cs_ret (cw_of (cd_tup (cl_cons cd_str cl_nil))))) css_nil)
    (css_cons (cs_if (t_cmp (c_eq hr) (co_name (i := 2)) (co_of cd_int)) (css_one (cs_ret (cw_call ih.f__law_small.to hr rfl (ca_bor (i := 0) rfl (by first | exact Or.inl rfl | exact Or.inr (Or.inl rfl) | exact Or.inr (Or.inr rfl)) (ca_val cd_int ca_nil))))) css_nil)
    (css_one (cs_ret (cw_if (t_cmp (c_ne hr) (co_of (w_ix hr (co_name (i := 1)) (co_of cd_int))) (co_of cd_str)) (cw_move (i := 1)) (cw_of (cd_tup (cl_cons cd_str (cl_cons (cd_of (cw_call ih.f__law_near.to hr rfl (ca_bor (i := 0) rfl (by first | exact Or.inl rfl | exact Or.inr (Or.inl rfl) | exact Or.inr (Or.inr rfl)) (ca_val (w_ix hr (co_name (i := 1)) (co_of cd_int)) ca_nil)))) (cl_cons (cd_of (cw_call ih.f__law_near.to hr rfl (ca_bor (i := 0) rfl (by first | exact Or.inl rfl | exact Or.inr (Or.inl rfl) | exact Or.inr (Or.inr rfl)) (ca_val (w_ix hr (co_name (i := 1)) (co_of cd_int)) ca_nil)))) cl_nil)))))))))))
abbrev s_law : Stmt := topS 25
abbrev N_law : List Str := ["script", "draws", "turn", "one", "two"]
theorem sc_law : FnScope N_law ["script"] (defScope s_law) := ⟨rfl, rfl, rfl, by decide +kernel, rfl, by decide +kernel, by decide +kernel⟩
theorem ok_law {n : Nat} {g : Nm → FnD} (Gs : Gf K mg) (ih : Fs P w K mg base n g) : ∀ (f : Addr) (cdv : Value) (A : Around) (outer : List PySem.Env) (s : Shared) (H : Hp) (E : XK), Room n (A.deeper (envOfC "law" (defScope s_law) s.heap.objs.size f cdv)) →
    PSs (bodyX P w K mg base N_law "law" (defScope s_law) f cdv A outer s H E) (defBody s_law) (tS ⟨K, mg⟩ (b_law g)) := fun f cdv A outer s H E hr =>
  have Z := Gs.z
  have SC := sc_law
  (css_cons (cs_set (i := 1) SC.nd rfl (by first | exact Or.inl rfl | exact Or.inr rfl) (cw_call ih.f__law_draws.to hr rfl (ca_val (cd_name (i := 0)) ca_nil)))
    (css_cons (cs_for PassesOwn.never rfl (ci_rng1 rfl Z.range (cl_cons cd_int cl_nil)) (cg_name (i := 2) SC.nd rfl (by first | exact Or.inl rfl | exact Or.inr rfl) (by first | exact Or.inl rfl | exact Or.inr rfl)) (css_cons (cs_set (i := 3) SC.nd rfl (by first | exact Or.inl rfl | exact Or.inr rfl) (cw_call ih.f__law_small.to hr rfl (ca_bor (i := 1) rfl (by first | exact Or.inl rfl | exact Or.inr (Or.inl rfl) | exact Or.inr (Or.inr rfl)) (ca_val cd_int ca_nil))))
    (css_cons (cs_set (i := 4) SC.nd rfl (by first | exact Or.inl rfl | exact Or.inr rfl) (cw_call ih.f__law_near.to hr rfl (ca_bor (i := 1) rfl (by first | exact Or.inl rfl | exact Or.inr (Or.inl rfl) | exact Or.inr (Or.inr rfl)) (ca_val (cd_name (i := 3)) ca_nil))))
    (css_cons (cs_if (CB.pt (cb_or (t_cmp c_isn (co_of (cd_of (cw_call ih.f_is_wide_d.to hr rfl (ca_val (cd_name (i := 3)) ca_nil)))) (co_of cd_bl)) (cb_or (ct_not (ct_val (cd_of (cw_call ih.f__law_same.to hr rfl (ca_val (cd_of (cw_call ih.f_alike_wide.to hr rfl (ca_val (cd_name (i := 3)) (ca_val (cd_name (i := 4)) ca_nil)))) (ca_val (cd_of (cw_call ih.f_alike.to hr rfl (ca_val (cd_name (i := 3)) (ca_val (cd_name (i := 4)) ca_nil)))) ca_nil)))))) (cb_or1 (ct_not (ct_val (cd_of (cw_call ih.f__law_same.to hr rfl (ca_val (cd_of (cw_call ih.f_finer_wide.to hr rfl (ca_val (cd_name (i := 3)) (ca_val (cd_name (i := 4)) ca_nil)))) (ca_val (cd_of (cw_call ih.f_finer.to hr rfl (ca_val (cd_name (i := 3)) (ca_val (cd_name (i := 4)) ca_nil)))) ca_nil)))))))))) (css_one (cs_ret (cw_of cd_bl))) css_nil)
    (css_cons (cs_if (CB.pt (cb_or (ct_not (ct_val (cd_of (cw_call ih.f__law_same.to hr rfl (ca_val (cd_of (cw_call ih.f_alike_under.to hr rfl (ca_val (cd_name (i := 3)) (ca_val (cd_name (i := 4)) ca_nil)))) (ca_val (cd_of (cw_call ih.f_alike.to hr rfl (ca_val (cd_name (i := 3)) (ca_val (cd_name (i := 4)) ca_nil)))) ca_nil)))))) (cb_or1 (ct_not (ct_val (cd_of (cw_call ih.f__law_same.to hr rfl (ca_val (cd_of (cw_call ih.f_under.to hr rfl (ca_val (cd_name (i := 3)) (ca_val (cd_name (i := 4)) ca_nil)))) (ca_val (w_cmp (c_eq hr) (co_name (i := 3)) (co_name (i := 4))) ca_nil))))))))) (css_one (cs_ret (cw_of cd_bl))) css_nil)
    (css_cons (cs_if (CB.pt (cb_or (ct_not (ct_val (cd_of (cw_call ih.f__law_same.to hr rfl (ca_val (cd_of (cw_call ih.f_upper.to hr rfl (ca_val (cd_name (i := 3)) (ca_val (cd_name (i := 4)) ca_nil)))) (ca_val (cd_if (t_cmp (c_eq hr) (co_name (i := 3)) (co_name (i := 4))) (cd_name (i := 3)) cd_non) ca_nil)))))) (cb_or1 (ct_not (ct_val (cd_of (cw_call ih.f__law_same.to hr rfl (ca_val (cd_of (cw_call ih.f_lower.to hr rfl (ca_val (cd_name (i := 3)) (ca_val (cd_name (i := 4)) ca_nil)))) (ca_val (cd_if (t_cmp (c_eq hr) (co_name (i := 3)) (co_name (i := 4))) (cd_name (i := 3)) cd_non) ca_nil))))))))) (css_one (cs_ret (cw_of cd_bl))) css_nil)
    (css_cons (cs_if (CB.pt (cb_and (ct_val (cd_of (cw_call ih.f_alike.to hr rfl (ca_val (cd_name (i := 3)) (ca_val (cd_name (i := 4)) ca_nil))))) (cb_and1 (CB.pt (cb_or (ct_not (ct_val (cd_of (cw_call ih.f__law_same.to hr rfl (ca_val (cd_of (cw_call ih.f_masked.to hr rfl (ca_val (cd_name (i := 3)) (ca_val (cd_name (i := 4)) ca_nil)))) (ca_val (cd_of (cw_call ih.f_masked.to hr rfl (ca_val (cd_name (i := 4)) (ca_val (cd_name (i := 3)) ca_nil)))) ca_nil)))))) (cb_or1 (ct_not (ct_val (cd_of (cw_call ih.f__law_same.to hr rfl (ca_val (cd_of (cw_call ih.f_masked.to hr rfl (ca_val (cd_name (i := 3)) (ca_val (cd_name (i := 4)) ca_nil)))) (ca_val (cd_of (cw_call ih.f_join.to hr rfl (ca_val (cd_name (i := 3)) (ca_val (cd_name (i := 4)) ca_nil)))) ca_nil)))))))))))) (css_one (cs_ret (cw_of cd_bl))) css_nil)
    (css_one (cs_if (t_cmp c_isn (co_of (cd_of (cw_call ih.f_finer.to hr rfl (ca_val (cd_name (i := 3)) (ca_val (cd_of (cw_call ih.f_masked.to hr rfl (ca_val (cd_name (i := 3)) (ca_val (cd_name (i := 4)) ca_nil)))) ca_nil))))) (co_of cd_bl)) (css_one (cs_ret (cw_of cd_bl))) css_nil)))))))))
    (css_one (cs_ret (cw_of cd_bl)))))
structure Ds (K : PySem.W.Frag) (mg : Str → Option Value) : Prop where
  f_is_wide : DefD K mg "is_wide" s_is_wide ["value", "left"] dd_is_wide [.int 8]
  f_under : DefF K mg "under" s_under ["one", "two"]
  f_alike_wide : DefF K mg "alike_wide" s_alike_wide ["one", "two"]
  f_finer_wide : DefF K mg "finer_wide" s_finer_wide ["one", "two"]
  f_alike_under : DefF K mg "alike_under" s_alike_under ["one", "two"]
  f_masked : DefF K mg "masked" s_masked ["one", "two"]
  f_upper : DefF K mg "upper" s_upper ["one", "two"]
  f_lower : DefF K mg "lower" s_lower ["one", "two"]
  f_alike : DefF K mg "alike" s_alike ["one", "two"]
  f_finer : DefF K mg "finer" s_finer ["one", "two"]
  f_join : DefF K mg "join" s_join ["one", "two"]
  f__law_draws : DefF K mg "_law_draws" s__law_draws ["script"]
  f__law_draw : DefF K mg "_law_draw" s__law_draw ["draws", "limit"]
  f__law_same : DefF K mg "_law_same" s__law_same ["actual", "expected"]
  f__law_small : DefF K mg "_law_small" s__law_small ["draws", "deep"]
  f__law_near : DefF K mg "_law_near" s__law_near ["draws", "kind"]
  f_law : DefF K mg "law" s_law ["script"]
theorem all_ok (Gs : Gf K mg) (Df : Ds K mg) : ∀ n, Fs P w K mg base n (G n)
  | 0 => ⟨(Df.f_is_wide.zero fun _ => rfl).1, (Df.f_is_wide.zero fun _ => rfl).2, Df.f_under.zero fun _ => rfl, Df.f_alike_wide.zero fun _ => rfl, Df.f_finer_wide.zero fun _ => rfl, Df.f_alike_under.zero fun _ => rfl, Df.f_masked.zero fun _ => rfl, Df.f_upper.zero fun _ => rfl, Df.f_lower.zero fun _ => rfl, Df.f_alike.zero fun _ => rfl, Df.f_finer.zero fun _ => rfl, Df.f_join.zero fun _ => rfl, Df.f__law_draws.zero fun _ => rfl, Df.f__law_draw.zero fun _ => rfl, Df.f__law_same.zero fun _ => rfl, Df.f__law_small.zero fun _ => rfl, Df.f__law_near.zero fun _ => rfl, Df.f_law.zero fun _ => rfl⟩
  | n + 1 => by
    have ih := all_ok Gs Df n
    have h_is_wide := Df.f_is_wide.step (P := P) (w := w) (base := base) (bo := [false, false]) (n := n) (g := b_is_wide (G n)) sc_is_wide rfl (ok_is_wide Gs ih)
    have h_under := Df.f_under.step (P := P) (w := w) (base := base) (bo := [false, false]) (n := n) (g := b_under (G n)) sc_under rfl (ok_under Gs ih)
    have h_alike_wide := Df.f_alike_wide.step (P := P) (w := w) (base := base) (bo := [false, false]) (n := n) (g := b_alike_wide (G n)) sc_alike_wide rfl (ok_alike_wide Gs ih)
    have h_finer_wide := Df.f_finer_wide.step (P := P) (w := w) (base := base) (bo := [false, false]) (n := n) (g := b_finer_wide (G n)) sc_finer_wide rfl (ok_finer_wide Gs ih)
    have h_alike_under := Df.f_alike_under.step (P := P) (w := w) (base := base) (bo := [false, false]) (n := n) (g := b_alike_under (G n)) sc_alike_under rfl (ok_alike_under Gs ih)
    have h_masked := Df.f_masked.step (P := P) (w := w) (base := base) (bo := [false, false]) (n := n) (g := b_masked (G n)) sc_masked rfl (ok_masked Gs ih)
    have h_upper := Df.f_upper.step (P := P) (w := w) (base := base) (bo := [false, false]) (n := n) (g := b_upper (G n)) sc_upper rfl (ok_upper Gs ih)
    have h_lower := Df.f_lower.step (P := P) (w := w) (base := base) (bo := [false, false]) (n := n) (g := b_lower (G n)) sc_lower rfl (ok_lower Gs ih)
    have h_alike := Df.f_alike.step (P := P) (w := w) (base := base) (bo := [false, false]) (n := n) (g := b_alike (G n)) sc_alike rfl (ok_alike Gs ih)
    have h_finer := Df.f_finer.step (P := P) (w := w) (base := base) (bo := [false, false]) (n := n) (g := b_finer (G n)) sc_finer rfl (ok_finer Gs ih)
    have h_join := Df.f_join.step (P := P) (w := w) (base := base) (bo := [false, false]) (n := n) (g := b_join (G n)) sc_join rfl (ok_join Gs ih)
    have h__law_draws := Df.f__law_draws.step (P := P) (w := w) (base := base) (bo := [false]) (n := n) (g := b__law_draws (G n)) sc__law_draws rfl (ok__law_draws Gs ih)
    have h__law_draw := Df.f__law_draw.step (P := P) (w := w) (base := base) (bo := [true, false]) (n := n) (g := b__law_draw (G n)) sc__law_draw rfl (ok__law_draw Gs ih)
    have h__law_same := Df.f__law_same.step (P := P) (w := w) (base := base) (bo := [false, false]) (n := n) (g := b__law_same (G n)) sc__law_same rfl (ok__law_same Gs ih)
    have h__law_small := Df.f__law_small.step (P := P) (w := w) (base := base) (bo := [true, false]) (n := n) (g := b__law_small (G n)) sc__law_small rfl (ok__law_small Gs ih)
    have h__law_near := Df.f__law_near.step (P := P) (w := w) (base := base) (bo := [true, false]) (n := n) (g := b__law_near (G n)) sc__law_near rfl (ok__law_near Gs ih)
    have h_law := Df.f_law.step (P := P) (w := w) (base := base) (bo := [false]) (n := n) (g := b_law (G n)) sc_law rfl (ok_law Gs ih)
    exact ⟨h_is_wide.1, h_is_wide.2, h_under, h_alike_wide, h_finer_wide, h_alike_under, h_masked, h_upper, h_lower, h_alike, h_finer, h_join, h__law_draws, h__law_draw, h__law_same, h__law_small, h__law_near, h_law⟩
end
end K98

namespace K98
open DV L2 PySem PySem.Spec PyProof.Rows
inductive Ty where
  | any | int | bool | fn (a b : Ty)
deriving DecidableEq
def enc : Ty → D
  | .any => .tup [.str "any"]
  | .int => .tup [.str "int"]
  | .bool => .tup [.str "bool"]
  | .fn a b => .tup [.str "fn", enc a, enc b]
def dep : Ty → Nat
  | .fn a b => max (dep a) (dep b) + 1
  | _ => 0
@[simp] theorem dep_any : dep .any = 0 := rfl
@[simp] theorem dep_int : dep .int = 0 := rfl
@[simp] theorem dep_bool : dep .bool = 0 := rfl
theorem dep_fn {a b : Ty} {n : Nat} (h : dep (.fn a b) < n + 1) : dep a < n ∧ dep b < n := by unfold dep at h; omega
theorem enc_lay : ∀ t, (toPy (enc t)).canLay0 = true
  | .any => by decide +kernel
  | .int => by decide +kernel
  | .bool => by decide +kernel
  | .fn a b => by
    have s : PyData.strOk "fn" = true := by decide +kernel
    simp [enc, toPy, toPyL, PyData.canLay0, PyData.canLayAll0, enc_lay a, enc_lay b, s]
theorem enc_dep : ∀ t, (toPy (enc t)).depth = dep t + 1
  | .any => by decide +kernel
  | .int => by decide +kernel
  | .bool => by decide +kernel
  | .fn a b => by simp [enc, toPy, toPyL, PyData.depth, PyData.depthAll, enc_dep a, enc_dep b, dep]
theorem ok_enc {t : Ty} (h : dep t ≤ 60) : okPy (enc t) = true := by
  unfold okPy SeqAt.shaped
  rw [enc_lay, enc_dep]
  simp; omega
theorem eqv_enc : ∀ a b, PyData.eqv (toPy (enc a)) (toPy (enc b)) = decide (a = b)
  | .fn a b, .fn c d => by simp [enc, toPy, toPyL, PyData.eqv, PyData.eqvAll, eqv_enc a c, eqv_enc b d]
  | .any, .any => by decide +kernel
  | .any, .int => by decide +kernel
  | .any, .bool => by decide +kernel
  | .int, .any => by decide +kernel
  | .int, .int => by decide +kernel
  | .int, .bool => by decide +kernel
  | .bool, .any => by decide +kernel
  | .bool, .int => by decide +kernel
  | .bool, .bool => by decide +kernel
  | .any, .fn _ _ => by simp [enc, toPy, toPyL, PyData.eqv, PyData.eqvAll]
  | .int, .fn _ _ => by simp [enc, toPy, toPyL, PyData.eqv, PyData.eqvAll]
  | .bool, .fn _ _ => by simp [enc, toPy, toPyL, PyData.eqv, PyData.eqvAll]
  | .fn _ _, .any => by simp [enc, toPy, toPyL, PyData.eqv, PyData.eqvAll]
  | .fn _ _, .int => by simp [enc, toPy, toPyL, PyData.eqv, PyData.eqvAll]
  | .fn _ _, .bool => by simp [enc, toPy, toPyL, PyData.eqv, PyData.eqvAll]
theorem enc_tup (t : Ty) : ∃ xs, enc t = .tup xs := by cases t <;> exact ⟨_, rfl⟩
theorem eq_enc {a b : Ty} (ha : dep a ≤ 60) (hb : dep b ≤ 60) : eqD (enc a) (enc b) = some (.bl (decide (a = b))) := by
  have : eqS (enc a) (enc b) = none := by
    obtain ⟨x, e⟩ := enc_tup a
    obtain ⟨y, e'⟩ := enc_tup b
    rw [e, e']; rfl
  unfold eqD
  rw [this, eqP_ok (ok_enc ha) (ok_enc hb), eqv_enc]; rfl
@[simp] theorem eq_any_any : eqD (enc .any) (enc .any) = some (.bl true) := eq_enc (Nat.zero_le _) (Nat.zero_le _)
@[simp] theorem eq_any_int : eqD (enc .any) (enc .int) = some (.bl false) := eq_enc (Nat.zero_le _) (Nat.zero_le _)
@[simp] theorem eq_any_bool : eqD (enc .any) (enc .bool) = some (.bl false) := eq_enc (Nat.zero_le _) (Nat.zero_le _)
@[simp] theorem eq_any_fn {a b : Ty} (h : dep (.fn a b) ≤ 60) : eqD (enc .any) (enc (.fn a b)) = some (.bl false) := by rw [eq_enc (Nat.zero_le _) h]; rfl
@[simp] theorem eq_fn_any {a b : Ty} (h : dep (.fn a b) ≤ 60) : eqD (enc (.fn a b)) (enc .any) = some (.bl false) := by rw [eq_enc h (Nat.zero_le _)]; rfl
@[simp] theorem eq_int_any : eqD (enc .int) (enc .any) = some (.bl false) := eq_enc (Nat.zero_le _) (Nat.zero_le _)
@[simp] theorem eq_int_int : eqD (enc .int) (enc .int) = some (.bl true) := eq_enc (Nat.zero_le _) (Nat.zero_le _)
@[simp] theorem eq_int_bool : eqD (enc .int) (enc .bool) = some (.bl false) := eq_enc (Nat.zero_le _) (Nat.zero_le _)
@[simp] theorem eq_int_fn {a b : Ty} (h : dep (.fn a b) ≤ 60) : eqD (enc .int) (enc (.fn a b)) = some (.bl false) := by rw [eq_enc (Nat.zero_le _) h]; rfl
@[simp] theorem eq_fn_int {a b : Ty} (h : dep (.fn a b) ≤ 60) : eqD (enc (.fn a b)) (enc .int) = some (.bl false) := by rw [eq_enc h (Nat.zero_le _)]; rfl
@[simp] theorem eq_bool_any : eqD (enc .bool) (enc .any) = some (.bl false) := eq_enc (Nat.zero_le _) (Nat.zero_le _)
@[simp] theorem eq_bool_int : eqD (enc .bool) (enc .int) = some (.bl false) := eq_enc (Nat.zero_le _) (Nat.zero_le _)
@[simp] theorem eq_bool_bool : eqD (enc .bool) (enc .bool) = some (.bl true) := eq_enc (Nat.zero_le _) (Nat.zero_le _)
@[simp] theorem eq_bool_fn {a b : Ty} (h : dep (.fn a b) ≤ 60) : eqD (enc .bool) (enc (.fn a b)) = some (.bl false) := by rw [eq_enc (Nat.zero_le _) h]; rfl
@[simp] theorem eq_fn_bool {a b : Ty} (h : dep (.fn a b) ≤ 60) : eqD (enc (.fn a b)) (enc .bool) = some (.bl false) := by rw [eq_enc h (Nat.zero_le _)]; rfl
@[simp] theorem any_enc : c_ANY = enc .any := rfl
def tag : Ty → Str
  | .any => "any"
  | .int => "int"
  | .bool => "bool"
  | .fn _ _ => "fn"
@[simp] theorem ix_enc0 {t : Ty} : ixD (enc t) (.int 0) = some (.str (tag t)) := by cases t <;> rfl
@[simp] theorem ix_enc1 {a b : Ty} : ixD (enc (.fn a b)) (.int 1) = some (enc a) := rfl
@[simp] theorem ix_enc2 {a b : Ty} : ixD (enc (.fn a b)) (.int 2) = some (enc b) := rfl
@[simp] theorem isi_enc {t : Ty} {s} : isiD (enc t) (.ty s) = (tgN s).map fun u => .bl (isTg .tup u) := by obtain ⟨x, e⟩ := enc_tup t; rw [e]; exact isi_tup
@[simp] theorem isNon_enc {t : Ty} : DV.isNon (enc t) = false := by obtain ⟨x, e⟩ := enc_tup t; rw [e]; rfl
@[simp] theorem len_any : lenD (enc .any) = some (.int 1) := rfl
@[simp] theorem len_int : lenD (enc .int) = some (.int 1) := rfl
@[simp] theorem len_bool : lenD (enc .bool) = some (.int 1) := rfl
@[simp] theorem len_fn {a b : Ty} : lenD (enc (.fn a b)) = some (.int 3) := rfl
@[simp] theorem sl_any : slD (enc .any) (some 1) none = some (.tup []) := sl1
@[simp] theorem sl_int : slD (enc .int) (some 1) none = some (.tup []) := sl1
@[simp] theorem sl_bool : slD (enc .bool) (some 1) none = some (.tup []) := sl1
@[simp] theorem sl_fn {a b : Ty} : slD (enc (.fn a b)) (some 1) none = some (.tup [enc a, enc b]) := sl1
@[simp] theorem tag_any : tag .any = "any" := rfl
@[simp] theorem tag_int : tag .int = "int" := rfl
@[simp] theorem tag_bool : tag .bool = "bool" := rfl
@[simp] theorem tag_fn {a b : Ty} : tag (.fn a b) = "fn" := rfl
theorem fn_lit {a b : Ty} : D.tup [.str "fn", enc a, enc b] = enc (.fn a b) := rfl

def alk : Ty → Ty → Bool
  | .any, _ => true
  | _, .any => true
  | .int, .int => true
  | .bool, .bool => true
  | .fn a b, .fn c d => alk a c && alk b d
  | _, _ => false
def fin : Ty → Ty → Bool
  | _, .any => true
  | .int, .int => true
  | .bool, .bool => true
  | .fn a b, .fn c d => fin a c && fin b d
  | _, _ => false
def msk : Ty → Ty → Ty
  | _, .any => .any
  | .fn a b, .fn c d => .fn (msk a c) (msk b d)
  | x, _ => x
def jn : Ty → Ty → Ty
  | .any, _ => .any
  | _, .any => .any
  | .int, .int => .int
  | .bool, .bool => .bool
  | .fn a b, .fn c d => .fn (jn a c) (jn b d)
  | _, _ => .any
theorem alike_wide_ok : ∀ (n : Nat) (a b : Ty), dep a < n → dep b < n → n ≤ 60 → G n .f_alike_wide [enc a, enc b] = some (.bl (alk a b), false, [])
  | 0, a, b, h, _, _ => absurd h (by omega)
  | n + 1, a, b, ha, hb, hn => by
    have ih := alike_wide_ok n
    have ka : dep a ≤ 60 := by omega
    have kb : dep b ≤ 60 := by omega
    rw [G_succ]
    cases a <;> cases b
    case fn.fn a1 a2 b1 b2 =>
      have l := dep_fn ha; have r := dep_fn hb
      have e1 := ih a1 b1 l.1 r.1 (by omega)
      have e2 := ih a2 b2 l.2 r.2 (by omega)
      simp only [alk]
      generalize alk a1 b1 = u at e1 ⊢
      generalize alk a2 b2 = v at e2 ⊢
      cases u <;> cases v <;> simp [bd, at_run, b_alike_wide, e1, e2, ka, kb, strOf_inj]
    all_goals simp [bd, at_run, b_alike_wide, alk, ka, kb, strOf_inj]
theorem finer_wide_ok : ∀ (n : Nat) (a b : Ty), dep a < n → dep b < n → n ≤ 60 → G n .f_finer_wide [enc a, enc b] = some (.bl (fin a b), false, [])
  | 0, a, b, h, _, _ => absurd h (by omega)
  | n + 1, a, b, ha, hb, hn => by
    have ih := finer_wide_ok n
    have ka : dep a ≤ 60 := by omega
    have kb : dep b ≤ 60 := by omega
    rw [G_succ]
    cases a <;> cases b
    case fn.fn a1 a2 b1 b2 =>
      have l := dep_fn ha; have r := dep_fn hb
      have e1 := ih a1 b1 l.1 r.1 (by omega)
      have e2 := ih a2 b2 l.2 r.2 (by omega)
      simp only [fin]
      generalize fin a1 b1 = u at e1 ⊢
      generalize fin a2 b2 = v at e2 ⊢
      cases u <;> cases v <;> simp [bd, at_run, b_finer_wide, e1, e2, ka, kb, strOf_inj]
    all_goals simp [bd, at_run, b_finer_wide, fin, ka, kb, strOf_inj]
theorem alk_comm : ∀ a b, alk a b = alk b a
  | .fn a b, .fn c d => by simp only [alk]; rw [alk_comm a c, alk_comm b d]
  | .any, .any => rfl
  | .any, .int => rfl
  | .any, .bool => rfl
  | .any, .fn _ _ => rfl
  | .int, .any => rfl
  | .int, .int => rfl
  | .int, .bool => rfl
  | .int, .fn _ _ => rfl
  | .bool, .any => rfl
  | .bool, .int => rfl
  | .bool, .bool => rfl
  | .bool, .fn _ _ => rfl
  | .fn _ _, .any => rfl
  | .fn _ _, .int => rfl
  | .fn _ _, .bool => rfl
def same2 (a b : Ty) : Bool := decide (a = b)
theorem same2_fn (a b c d : Ty) : same2 (.fn a b) (.fn c d) = (same2 c a && same2 b d) := by
  unfold same2
  rw [Bool.eq_iff_iff]
  simp only [Ty.fn.injEq, decide_eq_true_eq, Bool.and_eq_true]
  exact ⟨fun h => ⟨h.1.symm, h.2⟩, fun h => ⟨h.1.symm, h.2⟩⟩
theorem alike_under_ok : ∀ (n : Nat) (a b : Ty), dep a < n → dep b < n → n ≤ 60 → G n .f_alike_under [enc a, enc b] = some (.bl (alk a b), false, [])
  | 0, a, b, h, _, _ => absurd h (by omega)
  | n + 1, a, b, ha, hb, hn => by
    have ih := alike_under_ok n
    have ka : dep a ≤ 60 := by omega
    have kb : dep b ≤ 60 := by omega
    rw [G_succ]
    cases a <;> cases b
    case fn.fn a1 a2 b1 b2 =>
      have l := dep_fn ha; have r := dep_fn hb
      have e1 := ih b1 a1 r.1 l.1 (by omega)
      have e2 := ih a2 b2 l.2 r.2 (by omega)
      simp only [alk, alk_comm a1 b1]
      generalize alk b1 a1 = u at e1 ⊢
      generalize alk a2 b2 = v at e2 ⊢
      cases u <;> cases v <;> simp [bd, at_run, b_alike_under, e1, e2, ka, kb, strOf_inj]
    all_goals simp [bd, at_run, b_alike_under, alk, ka, kb, strOf_inj]
theorem under_ok : ∀ (n : Nat) (a b : Ty), dep a < n → dep b < n → n ≤ 60 → G n .f_under [enc a, enc b] = some (.bl (same2 a b), false, [])
  | 0, a, b, h, _, _ => absurd h (by omega)
  | n + 1, a, b, ha, hb, hn => by
    have ih := under_ok n
    have ka : dep a ≤ 60 := by omega
    have kb : dep b ≤ 60 := by omega
    rw [G_succ]
    cases a <;> cases b
    case fn.fn a1 a2 b1 b2 =>
      have l := dep_fn ha; have r := dep_fn hb
      have e1 := ih b1 a1 r.1 l.1 (by omega)
      have e2 := ih a2 b2 l.2 r.2 (by omega)
      rw [same2_fn]
      generalize same2 b1 a1 = u at e1 ⊢
      generalize same2 a2 b2 = v at e2 ⊢
      cases u <;> cases v <;> simp [bd, at_run, b_under, e1, e2, ka, kb, strOf_inj]
    all_goals simp [bd, at_run, b_under, same2, ka, kb, strOf_inj]
theorem alike_ok : ∀ (n : Nat) (a b : Ty), dep a < n → dep b < n → n ≤ 60 → G n .f_alike [enc a, enc b] = some (.bl (alk a b), false, [])
  | 0, a, b, h, _, _ => absurd h (by omega)
  | n + 1, a, b, ha, hb, hn => by
    have ih := alike_ok n
    have ka : dep a ≤ 60 := by omega
    have kb : dep b ≤ 60 := by omega
    rw [G_succ]
    cases a <;> cases b
    case fn.fn a1 a2 b1 b2 =>
      have l := dep_fn ha; have r := dep_fn hb
      have e1 := ih a1 b1 l.1 r.1 (by omega)
      have e2 := ih a2 b2 l.2 r.2 (by omega)
      simp only [alk]
      generalize alk a1 b1 = u at e1 ⊢
      generalize alk a2 b2 = v at e2 ⊢
      cases u <;> cases v <;> simp [bd, at_run, b_alike, e1, e2, ka, kb, strOf_inj, compD_cons]
    all_goals simp [bd, at_run, b_alike, alk, ka, kb, strOf_inj, compD_cons]
theorem finer_ok : ∀ (n : Nat) (a b : Ty), dep a < n → dep b < n → n ≤ 60 → G n .f_finer [enc a, enc b] = some (.bl (fin a b), false, [])
  | 0, a, b, h, _, _ => absurd h (by omega)
  | n + 1, a, b, ha, hb, hn => by
    have ih := finer_ok n
    have ka : dep a ≤ 60 := by omega
    have kb : dep b ≤ 60 := by omega
    rw [G_succ]
    cases a <;> cases b
    case fn.fn a1 a2 b1 b2 =>
      have l := dep_fn ha; have r := dep_fn hb
      have e1 := ih a1 b1 l.1 r.1 (by omega)
      have e2 := ih a2 b2 l.2 r.2 (by omega)
      simp only [fin]
      generalize fin a1 b1 = u at e1 ⊢
      generalize fin a2 b2 = v at e2 ⊢
      cases u <;> cases v <;> simp [bd, at_run, b_finer, e1, e2, ka, kb, strOf_inj, compD_cons]
    all_goals simp [bd, at_run, b_finer, fin, ka, kb, strOf_inj, compD_cons]
theorem inD_in {x y z : Str} : ninD (.str x) (.tup [.str y, .str z]) = some (.bl (!(decide (y = x) || decide (z = x)))) := by
  simp [ninD, inB, inS, inK, inF, seqOf, flatD, eqFl]
  rfl
theorem masked_ok : ∀ (n : Nat) (a b : Ty), dep a < n → dep b < n → n ≤ 60 → G n .f_masked [enc a, enc b] = some (enc (msk a b), false, [])
  | 0, a, b, h, _, _ => absurd h (by omega)
  | n + 1, a, b, ha, hb, hn => by
    have ih := masked_ok n
    have ka : dep a ≤ 60 := by omega
    have kb : dep b ≤ 60 := by omega
    rw [G_succ]
    cases a <;> cases b
    case fn.fn a1 a2 b1 b2 =>
      have l := dep_fn ha; have r := dep_fn hb
      have e1 := ih a1 b1 l.1 r.1 (by omega)
      have e2 := ih a2 b2 l.2 r.2 (by omega)
      simp [bd, at_run, b_masked, e1, e2, ka, kb, strOf_inj, msk, fn_lit, inD_in]
    all_goals simp [bd, at_run, b_masked, msk, ka, kb, strOf_inj, inD_in]
@[simp] theorem add_int : addD (enc .int) (.tup []) = some (enc .int) := by simp [enc]
@[simp] theorem add_bool : addD (enc .bool) (.tup []) = some (enc .bool) := by simp [enc]
@[simp] theorem isNon_non : DV.isNon .non = true := rfl
@[simp] theorem lit_any : D.tup [.str "any"] = enc .any := rfl
@[simp] theorem lit_int : D.tup [.str "int"] = enc .int := rfl
@[simp] theorem lit_bool : D.tup [.str "bool"] = enc .bool := rfl
theorem join_ok : ∀ (n : Nat) (a b : Ty), dep a < n → dep b < n → n ≤ 60 → G n .f_join [enc a, enc b] = some (enc (jn a b), false, [])
  | 0, a, b, h, _, _ => absurd h (by omega)
  | n + 1, a, b, ha, hb, hn => by
    have ih := join_ok n
    have ka : dep a ≤ 60 := by omega
    have kb : dep b ≤ 60 := by omega
    rw [G_succ]
    cases a <;> cases b
    case fn.fn a1 a2 b1 b2 =>
      have l := dep_fn ha; have r := dep_fn hb
      have e1 := ih a1 b1 l.1 r.1 (by omega)
      have e2 := ih a2 b2 l.2 r.2 (by omega)
      simp [bd, at_run, b_join, e1, e2, ka, kb, strOf_inj, jn, fn_lit, inD_in, compD_cons]
    all_goals simp [bd, at_run, b_join, jn, ka, kb, strOf_inj, inD_in, compD_cons]
theorem toPyL_any : ∀ xs : List D, ((toPyL xs).any fun z => PyData.eqv z .none) = xs.any DV.isNon
  | [] => rfl
  | x :: xs => by
    simp only [toPyL, List.any_cons, toPyL_any xs]
    cases x <;> simp [toPy, PyData.eqv, DV.isNon]
theorem in_non {xs : List D} (h : okPy (.tup xs) = true) (h2 : xs.all flatD = false) : inD .non (.tup xs) = some (.bl (xs.any DV.isNon)) := by
  have o : okPy .non = true := by decide +kernel
  simp [inD, inB, inS, inK, isKey, inF, seqOf, h2, inP, h, o, toPy]
  simpa using toPyL_any xs
theorem flat_enc {t : Ty} : flatD (enc t) = false := by obtain ⟨x, e⟩ := enc_tup t; rw [e]; rfl
def opt (a b : Ty) : D := if a = b then enc a else .non
theorem opt_lay (a b : Ty) : (toPy (opt a b)).canLay0 = true := by unfold opt; split; exact enc_lay a; decide +kernel
theorem opt_dep (a b : Ty) : (toPy (opt a b)).depth ≤ dep a + 1 := by
  unfold opt; split
  · rw [enc_dep]; exact Nat.le_refl _
  · simp [toPy, PyData.depth]
theorem in_opt {a b c d : Ty} (ha : dep a ≤ 59) (hb : dep c ≤ 59) : inD .non (.tup [opt a b, opt c d]) = some (.bl (decide (a ≠ b) || decide (c ≠ d))) := by
  by_cases h : a = b ∨ c = d
  · rw [in_non]
    · congr 2
      unfold opt
      by_cases h1 : a = b <;> by_cases h2 : c = d <;> simp [h1, h2]
    · unfold okPy SeqAt.shaped
      have e1 := opt_lay a b
      have e2 := opt_lay c d
      have d1 := opt_dep a b
      have d2 := opt_dep c d
      simp [toPy, toPyL, PyData.canLay0, PyData.canLayAll0, e1, e2, PyData.depth, PyData.depthAll]
      omega
    · unfold opt
      rcases h with h | h
      · subst h; simp [flat_enc]
      · subst h; simp [flat_enc]
  · have h1 : a ≠ b := fun z => h (.inl z)
    have h2 : c ≠ d := fun z => h (.inr z)
    simp [opt, h1, h2]
    simp [inD, inB, inS, inK, isKey, inF, seqOf, flatD, eqFl]
@[simp] theorem isNon_opt {a b : Ty} : DV.isNon (opt a b) = decide (a ≠ b) := by unfold opt; by_cases h : a = b <;> simp [h]
theorem opt_same {a : Ty} : opt a a = enc a := by simp [opt]
theorem opt_ne {a b : Ty} (h : a ≠ b) : opt a b = .non := by simp [opt, h]
theorem two_ok : ∀ (n : Nat) (a b : Ty), dep a < n → dep b < n → n ≤ 59 → G n .f_upper [enc a, enc b] = some (opt a b, false, []) ∧ G n .f_lower [enc a, enc b] = some (opt a b, false, [])
  | 0, a, b, h, _, _ => absurd h (by omega)
  | n + 1, a, b, ha, hb, hn => by
    have ih := two_ok n
    have ka : dep a ≤ 60 := by omega
    have kb : dep b ≤ 60 := by omega
    rw [G_succ, G_succ]
    cases a <;> cases b
    case fn.fn a1 a2 b1 b2 =>
     constructor
     ·have l := dep_fn ha; have r := dep_fn hb
      have e1 := (ih a1 b1 l.1 r.1 (by omega)).2
      have e2 := (ih a2 b2 l.2 r.2 (by omega)).1
      by_cases h1 : a1 = b1
      · by_cases h2 : a2 = b2
        · subst h1 h2
          have q := in_opt (a := a1) (b := a1) (c := a2) (d := a2) (by have := l.1; omega) (by have := l.2; omega)
          simp only [opt_same] at e1 e2 q ⊢
          simp at q
          simp [bd, at_run, b_upper, e1, e2, ka, kb, strOf_inj, q, fn_lit]
        · subst h1
          have q := in_opt (a := a1) (b := a1) (c := a2) (d := b2) (by have := l.1; omega) (by have := l.2; omega)
          have e3 : opt (.fn a1 a2) (.fn a1 b2) = .non := opt_ne (by simp [h2])
          rw [e3]
          simp only [opt_same, opt_ne h2] at e1 e2 q
          simp [h2] at q
          simp [bd, at_run, b_upper, e1, e2, ka, kb, strOf_inj, q]
      · have q := in_opt (a := a1) (b := b1) (c := a2) (d := b2) (by have := l.1; omega) (by have := l.2; omega)
        have e3 : opt (.fn a1 a2) (.fn b1 b2) = .non := opt_ne (by simp [h1])
        rw [e3]
        simp only [opt_ne h1] at e1 q
        simp [h1] at q
        simp [bd, at_run, b_upper, e1, e2, ka, kb, strOf_inj, q]
     ·have l := dep_fn ha; have r := dep_fn hb
      have e1 := (ih a1 b1 l.1 r.1 (by omega)).1
      have e2 := (ih a2 b2 l.2 r.2 (by omega)).2
      by_cases h1 : a1 = b1
      · by_cases h2 : a2 = b2
        · subst h1 h2
          have q := in_opt (a := a1) (b := a1) (c := a2) (d := a2) (by have := l.1; omega) (by have := l.2; omega)
          simp only [opt_same] at e1 e2 q ⊢
          simp at q
          simp [bd, at_run, b_lower, e1, e2, ka, kb, strOf_inj, q, fn_lit]
        · subst h1
          have q := in_opt (a := a1) (b := a1) (c := a2) (d := b2) (by have := l.1; omega) (by have := l.2; omega)
          have e3 : opt (.fn a1 a2) (.fn a1 b2) = .non := opt_ne (by simp [h2])
          rw [e3]
          simp only [opt_same, opt_ne h2] at e1 e2 q
          simp [h2] at q
          simp [bd, at_run, b_lower, e1, e2, ka, kb, strOf_inj, q]
      · have q := in_opt (a := a1) (b := b1) (c := a2) (d := b2) (by have := l.1; omega) (by have := l.2; omega)
        have e3 : opt (.fn a1 a2) (.fn b1 b2) = .non := opt_ne (by simp [h1])
        rw [e3]
        simp only [opt_ne h1] at e1 q
        simp [h1] at q
        simp [bd, at_run, b_lower, e1, e2, ka, kb, strOf_inj, q]
    all_goals (constructor <;> simp [bd, at_run, b_upper, b_lower, opt, ka, kb, strOf_inj])

theorem in_plain {x : Str} : inD (.str x) c_PLAIN = some (.bl (decide (Str.ofString "int" = x) || (decide (Str.ofString "bool" = x) || decide (Str.ofString "any" = x)))) := by
  simp [inD, inB, inS, inK, inF, seqOf, flatD, eqFl, c_PLAIN, strOf_beq]
  rfl
theorem is_wide_ok : ∀ (n : Nat) (t : Ty) (k : Int), (dep t : Int) < k → dep t < n → n ≤ 60 → G n .f_is_wide [enc t, .int k] = some (.bl true, false, [])
  | 0, t, k, _, h, _ => absurd h (by omega)
  | n + 1, t, k, hk, ht, hn => by
    have ih := is_wide_ok n
    have k0 : k ≠ 0 := by omega
    rw [G_succ]
    cases t
    case fn a b =>
      have l := dep_fn ht
      have e1 := ih a (k - 1) (by simp only [dep] at hk; omega) l.1 (by omega)
      have e2 := ih b (k - 1) (by simp only [dep] at hk; omega) l.2 (by omega)
      simp [bd, at_run, b_is_wide, k0, in_plain, strOf_inj, isTg_eq, compD_cons, e1, e2]
    all_goals simp [bd, at_run, b_is_wide, k0, in_plain, strOf_inj, isTg_eq]
theorem draw1 {n : Nat} {s : Dr} (h : s.ok) {lim : Int} (h0 : 0 < lim) (h1 : lim < 1073741824) : ∃ (v : Int) (s' : Dr), s'.ok ∧ 0 ≤ v ∧ v < lim ∧ G (n + 1) .f__law_draw [s.d, .int lim] = some (.int v, false, [s'.d]) := draw_ok s h h0 h1
theorem small_ok : ∀ (n : Nat) (k : Nat) (s : Dr), s.ok → 1 ≤ k → k + 1 ≤ n → ∃ (t : Ty) (s' : Dr), s'.ok ∧ dep t < k ∧ G n .f__law_small [s.d, .int k] = some (enc t, false, [s'.d])
  | 0, k, s, _, _, h => absurd h (by omega)
  | 1, k, s, _, h1, h => absurd h (by omega)
  | n + 2, k, s, hs, h1, hk => by
    have ih := small_ok (n + 1)
    have pick : ∀ (v : Int), 0 ≤ v → v < 3 → v = 0 ∨ v = 1 ∨ v = 2 := by omega
    by_cases hd : 1 < k
    · obtain ⟨v, s1, o1, v0, v6, e⟩ := draw1 (n := n) hs (lim := 6) (by omega) (by omega)
      have hd' : (1 : Int) < k := by omega
      by_cases h3 : v < 3
      · rcases pick v v0 h3 with rfl | rfl | rfl
        · exact ⟨.any, s1, o1, by simp; omega, by rw [G_succ]; simp [bd, at_run, b__law_small, e, hd']⟩
        · exact ⟨.int, s1, o1, by simp; omega, by rw [G_succ]; simp [bd, at_run, b__law_small, e, hd']⟩
        · exact ⟨.bool, s1, o1, by simp; omega, by rw [G_succ]; simp [bd, at_run, b__law_small, e, hd']⟩
      · obtain ⟨a, s2, o2, da, e2⟩ := ih (k - 1) s1 o1 (by omega) (by omega)
        obtain ⟨b, s3, o3, db, e3⟩ := ih (k - 1) s2 o2 (by omega) (by omega)
        have ek : (k : Int) - 1 = ((k - 1 : Nat) : Int) := by omega
        refine ⟨.fn a b, s3, o3, by simp only [dep]; omega, ?_⟩
        rw [G_succ]
        simp [bd, at_run, b__law_small, e, hd', h3, ek, e2, e3, fn_lit]
    · obtain ⟨v, s1, o1, v0, v3, e⟩ := draw1 (n := n) hs (lim := 3) (by omega) (by omega)
      have hd' : ¬ (1 : Int) < k := by omega
      rcases pick v v0 v3 with rfl | rfl | rfl
      · exact ⟨.any, s1, o1, by simp; omega, by rw [G_succ]; simp [bd, at_run, b__law_small, e, hd']⟩
      · exact ⟨.int, s1, o1, by simp; omega, by rw [G_succ]; simp [bd, at_run, b__law_small, e, hd']⟩
      · exact ⟨.bool, s1, o1, by simp; omega, by rw [G_succ]; simp [bd, at_run, b__law_small, e, hd']⟩
theorem near_ok : ∀ (n : Nat) (t : Ty) (s : Dr), s.ok → dep t + 4 ≤ n → ∃ (u : Ty) (s' : Dr), s'.ok ∧ dep u ≤ dep t + 1 ∧ G n .f__law_near [s.d, enc t] = some (enc u, false, [s'.d])
  | 0, t, s, _, h => absurd h (by omega)
  | 1, t, s, _, h => absurd h (by omega)
  | n + 2, t, s, hs, hk => by
    have ih := near_ok (n + 1)
    obtain ⟨v, s1, o1, v0, v5, e⟩ := draw1 (n := n) hs (lim := 5) (by omega) (by omega)
    by_cases h0 : v = 0
    · subst h0
      exact ⟨.any, s1, o1, by simp, by rw [G_succ]; simp [bd, at_run, b__law_near, e]⟩
    by_cases h1 : v = 1
    · subst h1
      obtain ⟨u, s2, o2, d2, e2⟩ := small_ok (n + 1) 2 s1 o1 (by omega) (by omega)
      exact ⟨u, s2, o2, by omega, by rw [G_succ]; simp at e2; simp [bd, at_run, b__law_near, e, e2]⟩
    cases t
    case fn a b =>
      obtain ⟨a', s2, o2, d2, e2⟩ := ih a s1 o1 (by simp only [dep] at hk; omega)
      obtain ⟨b', s3, o3, d3, e3⟩ := ih b s2 o2 (by simp only [dep] at hk; omega)
      refine ⟨.fn a' b', s3, o3, by have e1 : dep (.fn a b) = max (dep a) (dep b) + 1 := rfl; have e2 : dep (.fn a' b') = max (dep a') (dep b') + 1 := rfl; omega, ?_⟩
      rw [G_succ]
      simp [bd, at_run, b__law_near, e, h0, h1, e2, e3, fn_lit]
    all_goals exact ⟨_, s1, o1, Nat.le_succ _, by rw [G_succ]; simp [bd, at_run, b__law_near, e, h0, h1, strOf_inj]⟩

theorem pln_enc : ∀ (t : Ty) (n : Nat), dep t < n → pln (enc t) n
  | t, 0, h => absurd h (by omega)
  | .any, n + 1, _ => by simp only [enc, pln, plnL]; decide
  | .int, n + 1, _ => by simp only [enc, pln, plnL]; decide
  | .bool, n + 1, _ => by simp only [enc, pln, plnL]; decide
  | .fn a b, n + 1, h => by
    have l := dep_fn h
    simp only [enc, pln, plnL]
    exact ⟨by simp, trivial, pln_enc a n l.1, pln_enc b n l.2, trivial⟩
theorem same_r {n : Nat} {x : D} (h : pln x n) : G (n + 1) .f__law_same [x, x] = some (.bl true, false, []) := same_ok (S := fun n => G n .f__law_same) (fun _ _ => rfl) n x h
theorem fin_msk : ∀ a b, fin a (msk a b) = true
  | .fn a b, .fn c d => by simp [msk, fin, fin_msk a c, fin_msk b d]
  | .any, .any => rfl
  | .any, .int => rfl
  | .any, .bool => rfl
  | .any, .fn _ _ => rfl
  | .int, .any => rfl
  | .int, .int => rfl
  | .int, .bool => rfl
  | .int, .fn _ _ => rfl
  | .bool, .any => rfl
  | .bool, .int => rfl
  | .bool, .bool => rfl
  | .bool, .fn _ _ => rfl
  | .fn a b, .any => rfl
  | .fn a b, .int => by simp [msk, fin, fin_self a, fin_self b]
  | .fn a b, .bool => by simp [msk, fin, fin_self a, fin_self b]
where
  fin_self : ∀ a, fin a a = true
  | .any => rfl
  | .int => rfl
  | .bool => rfl
  | .fn a b => by simp [fin, fin_self a, fin_self b]
theorem msk_comm : ∀ a b, alk a b = true → msk a b = msk b a
  | .fn a b, .fn c d, h => by
    simp only [alk, Bool.and_eq_true] at h
    simp [msk, msk_comm a c h.1, msk_comm b d h.2]
  | .any, .any, _ => rfl
  | .any, .int, _ => rfl
  | .any, .bool, _ => rfl
  | .any, .fn _ _, _ => rfl
  | .int, .any, _ => rfl
  | .int, .int, _ => rfl
  | .int, .bool, h => by simp [alk] at h
  | .int, .fn _ _, h => by simp [alk] at h
  | .bool, .any, _ => rfl
  | .bool, .int, h => by simp [alk] at h
  | .bool, .bool, _ => rfl
  | .bool, .fn _ _, h => by simp [alk] at h
  | .fn _ _, .any, _ => rfl
  | .fn _ _, .int, h => by simp [alk] at h
  | .fn _ _, .bool, h => by simp [alk] at h
theorem msk_jn : ∀ a b, alk a b = true → msk a b = jn a b
  | .fn a b, .fn c d, h => by
    simp only [alk, Bool.and_eq_true] at h
    simp [msk, jn, msk_jn a c h.1, msk_jn b d h.2]
  | .any, .any, _ => rfl
  | .any, .int, _ => rfl
  | .any, .bool, _ => rfl
  | .any, .fn _ _, _ => rfl
  | .int, .any, _ => rfl
  | .int, .int, _ => rfl
  | .int, .bool, h => by simp [alk] at h
  | .int, .fn _ _, h => by simp [alk] at h
  | .bool, .any, _ => rfl
  | .bool, .int, h => by simp [alk] at h
  | .bool, .bool, _ => rfl
  | .bool, .fn _ _, h => by simp [alk] at h
  | .fn _ _, .any, _ => rfl
  | .fn _ _, .int, h => by simp [alk] at h
  | .fn _ _, .bool, h => by simp [alk] at h
theorem msk_dep : ∀ a b, dep (msk a b) ≤ dep a
  | .fn a b, .fn c d => by have := msk_dep a c; have := msk_dep b d; simp only [msk, dep]; omega
  | .any, .any => Nat.le_refl _
  | .any, .int => Nat.le_refl _
  | .any, .bool => Nat.le_refl _
  | .any, .fn _ _ => Nat.le_refl _
  | .int, .any => Nat.le_refl _
  | .int, .int => Nat.le_refl _
  | .int, .bool => Nat.le_refl _
  | .int, .fn _ _ => Nat.le_refl _
  | .bool, .any => Nat.le_refl _
  | .bool, .int => Nat.le_refl _
  | .bool, .bool => Nat.le_refl _
  | .bool, .fn _ _ => Nat.le_refl _
  | .fn _ _, .any => Nat.zero_le _
  | .fn _ _, .int => Nat.le_refl _
  | .fn _ _, .bool => Nat.le_refl _
theorem dd_wide : dd_is_wide = [.int 8] := rfl
@[simp] theorem isn_bl {a b : Bool} : isnD (.bl a) (.bl b) = some (.bl (!(a == b))) := rfl
/-- a slot that may be bound -/
def free : Sl → Prop
  | .no => True
  | .sh _ => True
  | _ => False
theorem bind_free {i : Nat} {d : D} {x : Sl} {ρ : DV.Env} (e : ρ[i]? = some x) (h : free x) : bind1 i d false ρ = some (ρ.set i (.sh d)) := by
  rw [at_bind1, e]
  cases x <;> first | rfl | exact h.elim
theorem turn_ok (x y z : Sl) (hx : free x) (hy : free y) (hz : free z) (q : D) (s : Dr) (hs : s.ok) (d : D) :
    ∃ (x' y' z' : Sl) (s' : Dr), s'.ok ∧ free x' ∧ free y' ∧ free z' ∧ (bind1 2 d false [.sh q, .ow s.d, x, y, z]).bind (l_law_0 (G 10)) = some (.nx, [.sh q, .ow s'.d, x', y', z']) := by
  obtain ⟨a, s1, o1, d1, e1⟩ := small_ok 10 3 s hs (by omega) (by omega)
  obtain ⟨b, s2, o2, d2, e2⟩ := near_ok 10 a s1 o1 (by omega)
  refine ⟨.sh d, .sh (enc a), .sh (enc b), s2, o2, trivial, trivial, trivial, ?_⟩
  have ea : dep a < 10 := by omega
  have eb : dep b < 10 := by omega
  have f1 := alike_wide_ok 10 a b ea eb (by omega)
  have f2 := alike_ok 10 a b ea eb (by omega)
  have f3 := finer_wide_ok 10 a b ea eb (by omega)
  have f4 := finer_ok 10 a b ea eb (by omega)
  have f5 := alike_under_ok 10 a b ea eb (by omega)
  have f6 := under_ok 10 a b ea eb (by omega)
  have f7 := two_ok 10 a b ea eb (by omega)
  have f8 := masked_ok 10 a b ea eb (by omega)
  have f9 := masked_ok 10 b a eb ea (by omega)
  have f10 := join_ok 10 a b ea eb (by omega)
  have f11 := finer_ok 10 a (msk a b) ea (by have := msk_dep a b; omega) (by omega)
  have f12 := is_wide_ok 10 a 8 (by omega) ea (by omega)
  have m1 := fin_msk a b
  have sb : ∀ u : Bool, G 10 .f__law_same [.bl u, .bl u] = some (.bl true, false, []) := fun u => same_r (n := 9) (by simp only [pln])
  have sn : G 10 .f__law_same [.non, .non] = some (.bl true, false, []) := same_r (n := 9) (by simp only [pln])
  have se : ∀ t, dep t < 9 → G 10 .f__law_same [enc t, enc t] = some (.bl true, false, []) := fun t h => same_r (n := 9) (pln_enc t 9 h)
  have se1 := se a (by omega)
  have se2 := se (msk a b) (by have := msk_dep a b; omega)
  have q1 := eq_enc (a := a) (b := b) (by omega) (by omega)
  have b1 : bind1 2 d false [.sh q, .ow s.d, x, y, z] = some [.sh q, .ow s.d, .sh d, y, z] := bind_free rfl hx
  have b2 : ∀ (σ : Dr) (u : D), kB 3 u false [.sh q, .ow σ.d, .sh d, y, z] (some y) = some [.sh q, .ow σ.d, .sh d, .sh u, z] := fun σ u => by
    have := bind_free (i := 3) (d := u) (ρ := [.sh q, .ow σ.d, .sh d, y, z]) rfl hy
    rw [at_bind1] at this; exact this
  have b3 : ∀ (σ : Dr) (u w : D), kB 4 u false [.sh q, .ow σ.d, .sh d, .sh w, z] (some z) = some [.sh q, .ow σ.d, .sh d, .sh w, .sh u] := fun σ u w => by
    have := bind_free (i := 4) (d := u) (ρ := [.sh q, .ow σ.d, .sh d, .sh w, z]) rfl hz
    rw [at_bind1] at this; exact this
  rw [b1]
  simp at e1 e2
  rw [m1] at f11
  unfold same2 at f6
  have f7a := f7.1
  have f7b := f7.2
  by_cases hab : a = b
  · subst hab
    simp only [opt_same] at f7a f7b
    cases hk : alk a a
    · rw [hk] at f1 f2 f5
      simp [l_law_0, e1, e2, b2, b3, dd_wide, f1, f2, f3, f4, f5, f6, f7a, f7b, f8, f9, f10, f11, f12, sb, se1, se2, q1]
    · rw [hk] at f1 f2 f5
      rw [msk_comm a a hk] at f9
      rw [← msk_jn a a hk] at f10
      simp [l_law_0, e1, e2, b2, b3, dd_wide, f1, f2, f3, f4, f5, f6, f7a, f7b, f8, f9, f10, f11, f12, sb, se1, se2, q1]
  · simp only [opt_ne hab] at f7a f7b
    simp only [hab, decide_false] at f6 q1
    cases hk : alk a b
    · rw [hk] at f1 f2 f5
      simp [l_law_0, e1, e2, b2, b3, dd_wide, f1, f2, f3, f4, f5, f6, f7a, f7b, f8, f9, f10, f11, f12, sb, sn, se2, q1]
    · rw [hk] at f1 f2 f5
      rw [← msk_comm a b hk] at f9
      rw [← msk_jn a b hk] at f10
      simp [l_law_0, e1, e2, b2, b3, dd_wide, f1, f2, f3, f4, f5, f6, f7a, f7b, f8, f9, f10, f11, f12, sb, sn, se2, q1]
theorem loop_ok (q : D) : ∀ (items : List D) (x y z : Sl) (s : Dr), free x → free y → free z → s.ok → ∃ (x' y' z' : Sl) (s' : Dr), forD (hNm 2) (l_law_0 (G 10)) items [.sh q, .ow s.d, x, y, z] = some (.nx, [.sh q, .ow s'.d, x', y', z'])
  | [], x, y, z, s, _, _, _, _ => ⟨x, y, z, s, rfl⟩
  | d :: ds, x, y, z, s, hx, hy, hz, hs => by
    obtain ⟨x', y', z', s', o, h1, h2, h3, e⟩ := turn_ok x y z hx hy hz q s hs d
    obtain ⟨x2, y2, z2, s2, e2⟩ := loop_ok q ds x' y' z' s' h1 h2 h3 o
    refine ⟨x2, y2, z2, s2, ?_⟩
    rw [← e2, forD_cons]
    show (bind1 2 d false _).bind (kFo1 _ _ ds) = _
    have k : ∀ o : Option DV.Env, o.bind (kFo1 (hNm 2) (l_law_0 (G 10)) ds) = (o.bind (l_law_0 (G 10))).bind (kFo2 (hNm 2) (l_law_0 (G 10)) ds) := fun o => by cases o <;> rfl
    rw [k, e]; rfl
theorem law_ok (ns : List Int) : ∃ ds', G 11 .f_law [.scr ns] = some (.bl true, false, ds') := by
  have e : G 10 .f__law_draws [.scr ns] = some ((Dr.mk ns 0 0 1).d, true, []) := draws_ok ns
  obtain ⟨x, y, z, s, e2⟩ := loop_ok (.scr ns) (rngD 0 12) .no .no .no ⟨ns, 0, 0, 1⟩ trivial trivial trivial (Int.le_refl 0)
  refine ⟨[], ?_⟩
  rw [G_succ]
  simp [bd, at_run, b_law, e, e2]
end K98

section
open PySem PySem.W PyProof.Rows
set_option maxHeartbeats 0 in
theorem PySem.Challenge.cw_blamekeep_k98_whole_wide_types_without_r_holds : PySem.Challenge.rw_blamekeep_k98_whole_wide_types_without_r.Holds := by
  w_on; o_law; k_head; (case hw => w_witness2)
  k_fill
  refine DV.law_end (l := PySem.Challenge.rw_blamekeep_k98_whole_wide_types_without_r) (n := 11) (G := K98.G 11 .f_law) rfl rfl ⟨rfl, by decide, by decide⟩ (fun w h Y => PySem.W.kIn_of Y) (fun ns _ _ => K98.law_ok ns) ?F
  case F =>
    intro w mg fa h KX GX hmg
    have Z : DV.Zs mg := by
      refine' ⟨PySem.W.mg_none_of KX GX ?z0, PySem.W.mg_none_of KX GX ?z1, PySem.W.mg_none_of KX GX ?z2, PySem.W.mg_none_of KX GX ?z3, PySem.W.mg_none_of KX GX ?z4, PySem.W.mg_none_of KX GX ?z5, PySem.W.mg_none_of KX GX ?z6, PySem.W.mg_none_of KX GX ?z7, PySem.W.mg_none_of KX GX ?z8, PySem.W.mg_none_of KX GX ?z9, PySem.W.mg_none_of KX GX ?z10, PySem.W.mg_none_of KX GX ?z11, PySem.W.mg_none_of KX GX ?z12, PySem.W.mg_none_of KX GX ?z13⟩
      (case z0 => k_is)
      (case z1 => k_is)
      (case z2 => k_is)
      (case z3 => k_is)
      (case z4 => k_is)
      (case z5 => k_is)
      (case z6 => k_is)
      (case z7 => k_is)
      (case z8 => k_is)
      (case z9 => k_is)
      (case z10 => k_is)
      (case z11 => k_is)
      (case z12 => k_is)
      (case z13 => k_is)
    have g_ANY : ∃ u v, mg "ANY" = some u ∧ L2.RelV v u ∧ ∀ F H, DV.Rep ⟨DV.KOf KX, mg⟩ F H K98.c_ANY v := by
      refine' DV.glob_tup (vs := [.str "any"]) KX GX ?gE ?gL ?gC ?gD ?gS ?gV (fun F H => (DV.RepL.cons DV.Rep.str' DV.RepL.nil))
      (case gE => dsimp only [DV.KOf]; k_is); (case gL => dsimp only [DV.KOf]; k_is); (case gC => rfl); (case gD => rfl); (case gS => decide); (case gV => exact (.cons ⟨_, rfl⟩ .nil))
    have g_PLAIN : ∃ u v, mg "PLAIN" = some u ∧ L2.RelV v u ∧ ∀ F H, DV.Rep ⟨DV.KOf KX, mg⟩ F H K98.c_PLAIN v := by
      refine' DV.glob_tup (vs := [.str "int", .str "bool", .str "any"]) KX GX ?gE ?gL ?gC ?gD ?gS ?gV (fun F H => (DV.RepL.cons DV.Rep.str' (DV.RepL.cons DV.Rep.str' (DV.RepL.cons DV.Rep.str' DV.RepL.nil))))
      (case gE => dsimp only [DV.KOf]; k_is); (case gL => dsimp only [DV.KOf]; k_is); (case gC => rfl); (case gD => rfl); (case gS => decide); (case gV => exact (.cons ⟨_, rfl⟩ (.cons ⟨_, rfl⟩ (.cons ⟨_, rfl⟩ .nil))))
    have Gs : K98.Gf (DV.KOf KX) mg := ⟨Z, g_ANY, g_PLAIN⟩
    have d_is_wide : DV.DefD (DV.KOf KX) mg "is_wide" K98.s_is_wide ["value", "left"] K98.dd_is_wide [.int 8] := by
      refine' DV.defD_mk KX GX (fun _ _ _ _ _ _ _ us its hl hi => match us, its, hl, hi with | [_, _], [_], _, _ => ⟨_, rfl, rfl⟩) (fun _ _ _ _ _ _ _ us its hl hi => match us, its, hl, hi with | [_], [_], _, _ => ⟨_, rfl, rfl⟩) (by decide) (by decide) (fun F H => (DV.RepL.cons DV.Rep.int' DV.RepL.nil)) ?dA ?dL ?dC ?dK ?dT ?dO ?dR
      (case dA => dsimp only [DV.KOf]; k_is); (case dL => dsimp only [DV.KOf]; k_is); (case dC => dsimp only [DV.KOf]; k_is); (case dK => dsimp only [DV.KOf]; k_is); (case dT => dsimp only [DV.KOf]; k_is); (case dO => rfl); (case dR => exact (.cons ⟨_, rfl⟩ .nil))
    have d_under : DV.DefF (DV.KOf KX) mg "under" K98.s_under ["one", "two"] := by
      refine' DV.defF_mk KX GX (fun _ _ _ _ _ _ us hl => match us, hl with | [_, _], _ => rfl) ?dA ?dL ?dC ?dK
      (case dA => dsimp only [DV.KOf]; k_is); (case dL => dsimp only [DV.KOf]; k_is); (case dC => dsimp only [DV.KOf]; k_is); (case dK => dsimp only [DV.KOf]; k_is)
    have d_alike_wide : DV.DefF (DV.KOf KX) mg "alike_wide" K98.s_alike_wide ["one", "two"] := by
      refine' DV.defF_mk KX GX (fun _ _ _ _ _ _ us hl => match us, hl with | [_, _], _ => rfl) ?dA ?dL ?dC ?dK
      (case dA => dsimp only [DV.KOf]; k_is); (case dL => dsimp only [DV.KOf]; k_is); (case dC => dsimp only [DV.KOf]; k_is); (case dK => dsimp only [DV.KOf]; k_is)
    have d_finer_wide : DV.DefF (DV.KOf KX) mg "finer_wide" K98.s_finer_wide ["one", "two"] := by
      refine' DV.defF_mk KX GX (fun _ _ _ _ _ _ us hl => match us, hl with | [_, _], _ => rfl) ?dA ?dL ?dC ?dK
      (case dA => dsimp only [DV.KOf]; k_is); (case dL => dsimp only [DV.KOf]; k_is); (case dC => dsimp only [DV.KOf]; k_is); (case dK => dsimp only [DV.KOf]; k_is)
    have d_alike_under : DV.DefF (DV.KOf KX) mg "alike_under" K98.s_alike_under ["one", "two"] := by
      refine' DV.defF_mk KX GX (fun _ _ _ _ _ _ us hl => match us, hl with | [_, _], _ => rfl) ?dA ?dL ?dC ?dK
      (case dA => dsimp only [DV.KOf]; k_is); (case dL => dsimp only [DV.KOf]; k_is); (case dC => dsimp only [DV.KOf]; k_is); (case dK => dsimp only [DV.KOf]; k_is)
    have d_masked : DV.DefF (DV.KOf KX) mg "masked" K98.s_masked ["one", "two"] := by
      refine' DV.defF_mk KX GX (fun _ _ _ _ _ _ us hl => match us, hl with | [_, _], _ => rfl) ?dA ?dL ?dC ?dK
      (case dA => dsimp only [DV.KOf]; k_is); (case dL => dsimp only [DV.KOf]; k_is); (case dC => dsimp only [DV.KOf]; k_is); (case dK => dsimp only [DV.KOf]; k_is)
    have d_upper : DV.DefF (DV.KOf KX) mg "upper" K98.s_upper ["one", "two"] := by
      refine' DV.defF_mk KX GX (fun _ _ _ _ _ _ us hl => match us, hl with | [_, _], _ => rfl) ?dA ?dL ?dC ?dK
      (case dA => dsimp only [DV.KOf]; k_is); (case dL => dsimp only [DV.KOf]; k_is); (case dC => dsimp only [DV.KOf]; k_is); (case dK => dsimp only [DV.KOf]; k_is)
    have d_lower : DV.DefF (DV.KOf KX) mg "lower" K98.s_lower ["one", "two"] := by
      refine' DV.defF_mk KX GX (fun _ _ _ _ _ _ us hl => match us, hl with | [_, _], _ => rfl) ?dA ?dL ?dC ?dK
      (case dA => dsimp only [DV.KOf]; k_is); (case dL => dsimp only [DV.KOf]; k_is); (case dC => dsimp only [DV.KOf]; k_is); (case dK => dsimp only [DV.KOf]; k_is)
    have d_alike : DV.DefF (DV.KOf KX) mg "alike" K98.s_alike ["one", "two"] := by
      refine' DV.defF_mk KX GX (fun _ _ _ _ _ _ us hl => match us, hl with | [_, _], _ => rfl) ?dA ?dL ?dC ?dK
      (case dA => dsimp only [DV.KOf]; k_is); (case dL => dsimp only [DV.KOf]; k_is); (case dC => dsimp only [DV.KOf]; k_is); (case dK => dsimp only [DV.KOf]; k_is)
    have d_finer : DV.DefF (DV.KOf KX) mg "finer" K98.s_finer ["one", "two"] := by
      refine' DV.defF_mk KX GX (fun _ _ _ _ _ _ us hl => match us, hl with | [_, _], _ => rfl) ?dA ?dL ?dC ?dK
      (case dA => dsimp only [DV.KOf]; k_is); (case dL => dsimp only [DV.KOf]; k_is); (case dC => dsimp only [DV.KOf]; k_is); (case dK => dsimp only [DV.KOf]; k_is)
    have d_join : DV.DefF (DV.KOf KX) mg "join" K98.s_join ["one", "two"] := by
      refine' DV.defF_mk KX GX (fun _ _ _ _ _ _ us hl => match us, hl with | [_, _], _ => rfl) ?dA ?dL ?dC ?dK
      (case dA => dsimp only [DV.KOf]; k_is); (case dL => dsimp only [DV.KOf]; k_is); (case dC => dsimp only [DV.KOf]; k_is); (case dK => dsimp only [DV.KOf]; k_is)
    have d__law_draws : DV.DefF (DV.KOf KX) mg "_law_draws" K98.s__law_draws ["script"] := by
      refine' DV.defF_mk KX GX (fun _ _ _ _ _ _ us hl => match us, hl with | [_], _ => rfl) ?dA ?dL ?dC ?dK
      (case dA => dsimp only [DV.KOf]; k_is); (case dL => dsimp only [DV.KOf]; k_is); (case dC => dsimp only [DV.KOf]; k_is); (case dK => dsimp only [DV.KOf]; k_is)
    have d__law_draw : DV.DefF (DV.KOf KX) mg "_law_draw" K98.s__law_draw ["draws", "limit"] := by
      refine' DV.defF_mk KX GX (fun _ _ _ _ _ _ us hl => match us, hl with | [_, _], _ => rfl) ?dA ?dL ?dC ?dK
      (case dA => dsimp only [DV.KOf]; k_is); (case dL => dsimp only [DV.KOf]; k_is); (case dC => dsimp only [DV.KOf]; k_is); (case dK => dsimp only [DV.KOf]; k_is)
    have d__law_same : DV.DefF (DV.KOf KX) mg "_law_same" K98.s__law_same ["actual", "expected"] := by
      refine' DV.defF_mk KX GX (fun _ _ _ _ _ _ us hl => match us, hl with | [_, _], _ => rfl) ?dA ?dL ?dC ?dK
      (case dA => dsimp only [DV.KOf]; k_is); (case dL => dsimp only [DV.KOf]; k_is); (case dC => dsimp only [DV.KOf]; k_is); (case dK => dsimp only [DV.KOf]; k_is)
    have d__law_small : DV.DefF (DV.KOf KX) mg "_law_small" K98.s__law_small ["draws", "deep"] := by
      refine' DV.defF_mk KX GX (fun _ _ _ _ _ _ us hl => match us, hl with | [_, _], _ => rfl) ?dA ?dL ?dC ?dK
      (case dA => dsimp only [DV.KOf]; k_is); (case dL => dsimp only [DV.KOf]; k_is); (case dC => dsimp only [DV.KOf]; k_is); (case dK => dsimp only [DV.KOf]; k_is)
    have d__law_near : DV.DefF (DV.KOf KX) mg "_law_near" K98.s__law_near ["draws", "kind"] := by
      refine' DV.defF_mk KX GX (fun _ _ _ _ _ _ us hl => match us, hl with | [_, _], _ => rfl) ?dA ?dL ?dC ?dK
      (case dA => dsimp only [DV.KOf]; k_is); (case dL => dsimp only [DV.KOf]; k_is); (case dC => dsimp only [DV.KOf]; k_is); (case dK => dsimp only [DV.KOf]; k_is)
    have d_law : DV.DefF (DV.KOf KX) mg "law" K98.s_law ["script"] := by
      refine' DV.defF_mk KX GX (fun _ _ _ _ _ _ us hl => match us, hl with | [_], _ => rfl) ?dA ?dL ?dC ?dK
      (case dA => dsimp only [DV.KOf]; k_is); (case dL => dsimp only [DV.KOf]; k_is); (case dC => dsimp only [DV.KOf]; k_is); (case dK => dsimp only [DV.KOf]; k_is)
    have Df : K98.Ds (DV.KOf KX) mg := ⟨d_is_wide, d_under, d_alike_wide, d_finer_wide, d_alike_under, d_masked, d_upper, d_lower, d_alike, d_finer, d_join, d__law_draws, d__law_draw, d__law_same, d__law_small, d__law_near, d_law⟩
    refine' DV.law_mk (n := 10) KX GX hmg K98.sc_law (fun _ _ _ _ _ _ _ _ => .of_eq rfl) (fun base => K98.ok_law Gs (K98.all_ok Gs Df 10)) ?dA ?dL ?dC ?dK
    (case dA => k_is); (case dL => k_is); (case dC => k_is); (case dK => k_is)
end
