import PyProof.Rows.All
import Wide.All
import OpenK.AllK
import Wide.FinOn
import HandS.ForMost
import HandS.Gcd
import HandS.Walk
import HandS.EndBits
import HandS.Wide
import HandS.IsInst
import HandS.TupAny
import HandS.SortInts
import HandS.Zip
import HandS.More
import HandS.Text
import HandS.WordsExc
import HandS.ExcCtx
import HandS.HotCalls
import HandS.ExcIs
import HandS.Defaults
import HandS.MakeKwOnly
import HandS.DictComp
import HandS.Iter
import KE.GoesMore
import KE.GoesEnum
import KE.KDictPairs
import HandS.Style
import HandS.Star
import HandS.Property
import PySem.Challenge.RW_anycompany_k39_meets_of_curves
set_option Elab.async false
set_option linter.all false
set_option maxRecDepth 100000
set_option maxHeartbeats 1000000
namespace Q
open PySem L2

/-! ### pure data -/
inductive D where
  | non
  | bl (b : Bool)
  | int (i : Int)
  | str (s : Str)
  | tup (xs : List D)
  | lst (xs : List D)
  | dk (ks : List Key) (vs : List D)
  | dt (ks : List (List Key)) (vs : List D)
  | xt (xs : List D)
  | kt (ks : List Key)
  | ins (x : Str) (ns : List Str) (xs : List D)
/-- a datum, or a list (a dict) that the frame alone owns -/
inductive O where
  | fz (d : D)
  | ls (os : List O)
  | ok (ks : List Key) (ds : List D)
  | ot (ks : List (List Key)) (ds : List D)
inductive Sl where
  | un
  | has (o : O)
  | lent
  | adr (a : Addr)
abbrev En := List Sl

mutual
def O.frz : O → D
  | .fz d => d
  | .ls os => .lst (O.frzs os)
  | .ok ks ds => .dk ks ds
  | .ot ks ds => .dt ks ds
def O.frzs : List O → List D
  | [] => []
  | o :: os => o.frz :: O.frzs os
end
theorem frzs_map : ∀ os : List O, O.frzs os = os.map O.frz
  | [] => rfl
  | o :: os => by rw [O.frzs, frzs_map os]; rfl

def Ex (H H' : Hp) : Prop := ∀ a o, H a = some o → H' a = some o
theorem Ex.refl (H : Hp) : Ex H H := fun _ _ h => h
theorem Ex.trans {H H1 H2 : Hp} (a : Ex H H1) (b : Ex H1 H2) : Ex H H2 := fun x o h => b x o (a x o h)
theorem Ex.new {H : Hp} {p : Addr} {o : HO} (h : H p = none) : Ex H (upd H p o) := fun a u e => by
  rw [upd_ne (ne_of_none e h)]; exact e
theorem Ex.rd {H H' : Hp} {a : Addr} {u : HO} (e : Ex H H') (h : Rd H a u) : Rd H' a u := by
  rcases h with h | ⟨o, h⟩
  · exact .inl (e a _ h)
  · exact .inr ⟨o, e a _ h⟩
theorem Ex.l {K : PySem.W.Frag} {H H' : Hp} {a : Addr} {xs : List V} (e : Ex H H') (h : SqL K H a xs) : SqL K H' a xs := by
  rcases h with h | h
  · exact .inl (e.rd h)
  · exact .inr h
theorem Ex.t {K : PySem.W.Frag} {H H' : Hp} {a : Addr} {xs : List V} (e : Ex H H') (h : SqT K H a xs) : SqT K H' a xs := by
  rcases h with h | h
  · exact .inl (e.rd h)
  · exact .inr h
theorem Ex.none {H H' : Hp} {a : Addr} (e : Ex H H') (h : H' a = none) : H a = none := by
  cases q : H a with
  | none => rfl
  | some o => rw [e a o q] at h; cases h

/-! ### what bears what -/
/-- x names an own class of the module, C -/
structure InsC (K : PySem.W.Frag) (x : Str) (C : Addr) : Prop where
  ns : PySem.W.nsIn K mainGlobals x = some (some (.ref C))
  cl : Cls K C
  ha : PySem.W.findIn K (.ref C) "__class__" = some (some (.builtin "object.__class__"))
  hn : PySem.W.specialIn K (.builtin "object.__class__") "__get__" = some (some (.builtin "getset_descriptor.__get__"))
  htk : PySem.W.takesIn K (.builtin "object.__class__") = some true
  hm : PySem.W.mroIn K C (.type "object") = some true
  kt : ∀ t ∈ ["int", "bool", "str", "tuple", "list", "dict"], PySem.W.kitOne K (.ref C) (.type t) = some false
mutual
def Rp (K : PySem.W.Frag) (H : Hp) : D → V → Prop
  | .non, v => v = .non
  | .bl b, v => v = .bl b
  | .int i, v => v = .int i
  | .str s, v => v = .str s
  | .tup ds, v => ∃ a vs, v = .ref a ∧ SqT K H a vs ∧ Rps K H ds vs
  | .lst ds, v => ∃ a vs, v = .ref a ∧ SqL K H a vs ∧ Rps K H ds vs
  | .dk ks ds, v => ∃ a kvs, v = .ref a ∧ H a = some (.dK kvs) ∧ kvs.map Prod.fst = ks ∧ Rps K H ds (kvs.map Prod.snd)
  | .dt ks ds, v => ∃ a kvs, v = .ref a ∧ H a = some (.dT kvs) ∧ kvs.map Prod.fst = ks ∧ Rps K H ds (kvs.map Prod.snd)
  | .xt ds, v => ∃ a vs o, v = .ref a ∧ H a = some (.frz o (.tup vs)) ∧ o.cls = .type "tuple" ∧ o.dict = none ∧ (∃ its n, o.data = .seq its n) ∧ Rps K H ds vs
  | .kt ks, v => ∃ a, v = .ref a ∧ H a = some (.tup (ks.map kV))
  | .ins x ns ds, v => ∃ a C dx vs, v = .ref a ∧ H a = some (.ins C dx (ns.zip vs)) ∧ H dx = some (.own a) ∧ InsC K x C ∧ ns.length = ds.length ∧ Rps K H ds vs
def Rps (K : PySem.W.Frag) (H : Hp) : List D → List V → Prop
  | [], vs => vs = []
  | d :: ds, vs => ∃ v r, vs = v :: r ∧ Rp K H d v ∧ Rps K H ds r
end
mutual
theorem Rp.mono {K : PySem.W.Frag} {H H' : Hp} (e : Ex H H') : ∀ (d : D) (v : V), Rp K H d v → Rp K H' d v
  | .non, _, h => by rw [Rp] at h ⊢; exact h
  | .bl b, _, h => by rw [Rp] at h ⊢; exact h
  | .int i, _, h => by rw [Rp] at h ⊢; exact h
  | .str s, _, h => by rw [Rp] at h ⊢; exact h
  | .tup ds, _, h => by
    rw [Rp] at h ⊢
    obtain ⟨a, vs, h1, h2, h3⟩ := h
    exact ⟨a, vs, h1, e.t h2, Rps.mono e ds vs h3⟩
  | .lst ds, _, h => by
    rw [Rp] at h ⊢
    obtain ⟨a, vs, h1, h2, h3⟩ := h
    exact ⟨a, vs, h1, e.l h2, Rps.mono e ds vs h3⟩
  | .dk ks ds, _, h => by
    rw [Rp] at h ⊢
    obtain ⟨a, vs, h1, h2, h3, h4⟩ := h
    exact ⟨a, vs, h1, e _ _ h2, h3, Rps.mono e ds _ h4⟩
  | .dt ks ds, _, h => by
    rw [Rp] at h ⊢
    obtain ⟨a, vs, h1, h2, h3, h4⟩ := h
    exact ⟨a, vs, h1, e _ _ h2, h3, Rps.mono e ds _ h4⟩
  | .xt ds, _, h => by
    rw [Rp] at h ⊢
    obtain ⟨a, vs, o, h1, h2, h3, h4, h5, h6⟩ := h
    exact ⟨a, vs, o, h1, e _ _ h2, h3, h4, h5, Rps.mono e ds _ h6⟩
  | .kt ks, _, h => by
    rw [Rp] at h ⊢
    obtain ⟨a, h1, h2⟩ := h
    exact ⟨a, h1, e _ _ h2⟩
  | .ins x ns ds, _, h => by
    rw [Rp] at h ⊢
    obtain ⟨a, C, dx, vs, h1, h2, h3, h4, h5, h6⟩ := h
    exact ⟨a, C, dx, vs, h1, e _ _ h2, e _ _ h3, h4, h5, Rps.mono e ds _ h6⟩
theorem Rps.mono {K : PySem.W.Frag} {H H' : Hp} (e : Ex H H') : ∀ (ds : List D) (vs : List V), Rps K H ds vs → Rps K H' ds vs
  | [], _, h => by rw [Rps] at h ⊢; exact h
  | d :: ds, _, h => by
    rw [Rps] at h ⊢
    obtain ⟨v, r, h1, h2, h3⟩ := h
    exact ⟨v, r, h1, Rp.mono e d v h2, Rps.mono e ds r h3⟩
end
theorem Rps.len {K : PySem.W.Frag} {H : Hp} : ∀ {ds : List D} {vs : List V}, Rps K H ds vs → ds.length = vs.length
  | [], _, h => by rw [Rps] at h; subst h; rfl
  | d :: ds, _, h => by
    rw [Rps] at h
    obtain ⟨v, r, rfl, _, h3⟩ := h
    simp [Rps.len h3]
theorem Rps.get {K : PySem.W.Frag} {H : Hp} : ∀ {ds : List D} {vs : List V} {i : Nat} {d : D}, Rps K H ds vs → ds[i]? = some d → ∃ v, vs[i]? = some v ∧ Rp K H d v
  | [], _, _, _, _, e => by simp at e
  | d :: ds, _, 0, _, h, e => by
    rw [Rps] at h
    obtain ⟨v, r, rfl, h2, h3⟩ := h
    simp at e; subst e
    exact ⟨v, rfl, h2⟩
  | d :: ds, _, i + 1, d', h, e => by
    rw [Rps] at h
    obtain ⟨v, r, rfl, h2, h3⟩ := h
    have e' : ds[i]? = some d' := by simpa using e
    obtain ⟨v', h1, h2⟩ := Rps.get h3 e'
    exact ⟨v', by simpa using h1, h2⟩
theorem Rps.back {K : PySem.W.Frag} {H : Hp} {ds : List D} {vs : List V} {i : Nat} {v : V} (h : Rps K H ds vs) (e : vs[i]? = some v) : ∃ d, ds[i]? = some d ∧ Rp K H d v := by
  have hl := h.len
  have hi : i < ds.length := by rw [hl]; exact (List.getElem?_eq_some_iff.mp e).1
  obtain ⟨v', h1, h2⟩ := h.get (List.getElem?_eq_getElem hi)
  rw [e] at h1; cases h1
  exact ⟨_, List.getElem?_eq_getElem hi, h2⟩
theorem Rps.append {K : PySem.W.Frag} {H : Hp} : ∀ {ds es : List D} {vs us : List V}, Rps K H ds vs → Rps K H es us → Rps K H (ds ++ es) (vs ++ us)
  | [], _, _, _, h, k => by rw [Rps] at h; subst h; exact k
  | d :: ds, es, _, us, h, k => by
    rw [Rps] at h
    obtain ⟨v, r, rfl, h2, h3⟩ := h
    show Rps K H (d :: (ds ++ es)) (v :: (r ++ us))
    rw [Rps]
    exact ⟨v, _, rfl, h2, Rps.append h3 k⟩
theorem Rps.one {K : PySem.W.Frag} {H : Hp} {d : D} {v : V} (h : Rp K H d v) : Rps K H [d] [v] := by
  rw [Rps]; exact ⟨v, [], rfl, h, by rw [Rps]⟩
theorem Rps.cons {K : PySem.W.Frag} {H : Hp} {d : D} {v : V} {ds : List D} {vs : List V} (h : Rp K H d v) (k : Rps K H ds vs) : Rps K H (d :: ds) (v :: vs) := by
  rw [Rps]; exact ⟨v, vs, rfl, h, k⟩
theorem Rps.nil {K : PySem.W.Frag} {H : Hp} : Rps K H [] [] := by rw [Rps]
theorem Rps.take {K : PySem.W.Frag} {H : Hp} : ∀ {ds : List D} {vs : List V} (n : Nat), Rps K H ds vs → Rps K H (ds.take n) (vs.take n)
  | [], _, _, h => by rw [Rps] at h; subst h; simp; exact Rps.nil
  | d :: ds, _, 0, h => by simp; exact Rps.nil
  | d :: ds, _, n + 1, h => by
    rw [Rps] at h
    obtain ⟨v, r, rfl, h2, h3⟩ := h
    exact Rps.cons h2 (Rps.take n h3)
theorem Rps.drop {K : PySem.W.Frag} {H : Hp} : ∀ {ds : List D} {vs : List V} (n : Nat), Rps K H ds vs → Rps K H (ds.drop n) (vs.drop n)
  | [], _, _, h => by rw [Rps] at h; subst h; simp; exact Rps.nil
  | d :: ds, _, 0, h => by simpa using h
  | d :: ds, _, n + 1, h => by
    rw [Rps] at h
    obtain ⟨v, r, rfl, h2, h3⟩ := h
    exact Rps.drop n h3
theorem Rps.rev {K : PySem.W.Frag} {H : Hp} : ∀ {ds : List D} {vs : List V}, Rps K H ds vs → Rps K H ds.reverse vs.reverse
  | [], _, h => by rw [Rps] at h; subst h; exact Rps.nil
  | d :: ds, _, h => by
    rw [Rps] at h
    obtain ⟨v, r, rfl, h2, h3⟩ := h
    rw [List.reverse_cons, List.reverse_cons]
    exact (Rps.rev h3).append (Rps.one h2)

-- an owned thing: fp, the addresses that it owns
mutual
def Ro (K : PySem.W.Frag) (B H : Hp) : O → V → List Addr → Prop
  | .fz d, v, fp => fp = [] ∧ Rp K B d v
  | .ls os, v, fp => ∃ a vs fr, v = .ref a ∧ fp = a :: fr ∧ H a = some (.lst vs) ∧ Ros K B H os vs fr
  | .ok ks ds, v, fp => ∃ a kvs, v = .ref a ∧ fp = [a] ∧ H a = some (.dK kvs) ∧ kvs.map Prod.fst = ks ∧ Rps K B ds (kvs.map Prod.snd)
  | .ot ks ds, v, fp => ∃ a kvs, v = .ref a ∧ fp = [a] ∧ H a = some (.dT kvs) ∧ kvs.map Prod.fst = ks ∧ Rps K B ds (kvs.map Prod.snd)
def Ros (K : PySem.W.Frag) (B H : Hp) : List O → List V → List Addr → Prop
  | [], vs, fp => vs = [] ∧ fp = []
  | o :: os, vs, fp => ∃ v r f1 f2, vs = v :: r ∧ fp = f1 ++ f2 ∧ Ro K B H o v f1 ∧ Ros K B H os r f2
end
mutual
theorem Ro.mono {K : PySem.W.Frag} {B B' H H' : Hp} (e : Ex B B') : ∀ (o : O) (v : V) (fp : List Addr), (∀ a ∈ fp, H' a = H a) → Ro K B H o v fp → Ro K B' H' o v fp
  | .fz d, _, _, _, h => by
    rw [Ro] at h ⊢
    exact ⟨h.1, Rp.mono e d _ h.2⟩
  | .ls os, _, _, g, h => by
    rw [Ro] at h ⊢
    obtain ⟨a, vs, fr, h1, rfl, h3, h4⟩ := h
    exact ⟨a, vs, fr, h1, rfl, (g a (by simp)).trans h3, Ros.mono e os vs fr (fun b hb => g b (by simp [hb])) h4⟩
  | .ok ks ds, _, _, g, h => by
    rw [Ro] at h ⊢
    obtain ⟨a, kvs, h1, rfl, h3, h4, h5⟩ := h
    exact ⟨a, kvs, h1, rfl, (g a (by simp)).trans h3, h4, Rps.mono e ds _ h5⟩
  | .ot ks ds, _, _, g, h => by
    rw [Ro] at h ⊢
    obtain ⟨a, kvs, h1, rfl, h3, h4, h5⟩ := h
    exact ⟨a, kvs, h1, rfl, (g a (by simp)).trans h3, h4, Rps.mono e ds _ h5⟩
theorem Ros.mono {K : PySem.W.Frag} {B B' H H' : Hp} (e : Ex B B') : ∀ (os : List O) (vs : List V) (fp : List Addr), (∀ a ∈ fp, H' a = H a) → Ros K B H os vs fp → Ros K B' H' os vs fp
  | [], _, _, _, h => by rw [Ros] at h ⊢; exact h
  | o :: os, _, _, g, h => by
    rw [Ros] at h ⊢
    obtain ⟨v, r, f1, f2, h1, rfl, h3, h4⟩ := h
    exact ⟨v, r, f1, f2, h1, rfl, Ro.mono e o v f1 (fun b hb => g b (by simp [hb])) h3, Ros.mono e os r f2 (fun b hb => g b (by simp [hb])) h4⟩
end
mutual
/-- what is owned stands in the heap -/
theorem Ro.there {K : PySem.W.Frag} {B H : Hp} : ∀ (o : O) (v : V) (fp : List Addr), Ro K B H o v fp → ∀ a ∈ fp, H a ≠ none
  | .fz d, _, _, h => by
    rw [Ro] at h
    obtain ⟨rfl, _⟩ := h
    intro a ha; simp at ha
  | .ls os, _, _, h => by
    rw [Ro] at h
    obtain ⟨a, vs, fr, h1, rfl, h3, h4⟩ := h
    intro b hb
    rcases List.mem_cons.mp hb with rfl | hb
    · rw [h3]; simp
    · exact Ros.there os vs fr h4 b hb
  | .ok ks ds, _, _, h => by
    rw [Ro] at h
    obtain ⟨a, kvs, h1, rfl, h3, h4, h5⟩ := h
    intro b hb
    rw [List.mem_singleton.mp hb, h3]; simp
  | .ot ks ds, _, _, h => by
    rw [Ro] at h
    obtain ⟨a, kvs, h1, rfl, h3, h4, h5⟩ := h
    intro b hb
    rw [List.mem_singleton.mp hb, h3]; simp
theorem Ros.there {K : PySem.W.Frag} {B H : Hp} : ∀ (os : List O) (vs : List V) (fp : List Addr), Ros K B H os vs fp → ∀ a ∈ fp, H a ≠ none
  | [], _, _, h => by
    rw [Ros] at h
    obtain ⟨_, rfl⟩ := h
    intro a ha; simp at ha
  | o :: os, _, _, h => by
    rw [Ros] at h
    obtain ⟨v, r, f1, f2, h1, rfl, h3, h4⟩ := h
    intro b hb
    rcases List.mem_append.mp hb with hb | hb
    · exact Ro.there o v f1 h3 b hb
    · exact Ros.there os r f2 h4 b hb
end
mutual
/-- what is owned may be read as frozen, over any heap that holds the base and the owned addresses -/
theorem Ro.frz {K : PySem.W.Frag} {B H B' : Hp} (e : Ex B B') : ∀ (o : O) (v : V) (fp : List Addr), (∀ a ∈ fp, B' a = H a) → Ro K B H o v fp → Rp K B' o.frz v
  | .fz d, _, _, _, h => by
    rw [Ro] at h
    rw [O.frz]
    exact Rp.mono e d _ h.2
  | .ls os, _, _, g, h => by
    rw [Ro] at h
    obtain ⟨a, vs, fr, h1, rfl, h3, h4⟩ := h
    rw [O.frz, Rp]
    exact ⟨a, vs, h1, SqL.of ((g a (by simp)).trans h3), Ros.frz e os vs fr (fun b hb => g b (by simp [hb])) h4⟩
  | .ok ks ds, _, _, g, h => by
    rw [Ro] at h
    obtain ⟨a, kvs, h1, rfl, h3, h4, h5⟩ := h
    rw [O.frz, Rp]
    exact ⟨a, kvs, h1, (g a (by simp)).trans h3, h4, Rps.mono e ds _ h5⟩
  | .ot ks ds, _, _, g, h => by
    rw [Ro] at h
    obtain ⟨a, kvs, h1, rfl, h3, h4, h5⟩ := h
    rw [O.frz, Rp]
    exact ⟨a, kvs, h1, (g a (by simp)).trans h3, h4, Rps.mono e ds _ h5⟩
theorem Ros.frz {K : PySem.W.Frag} {B H B' : Hp} (e : Ex B B') : ∀ (os : List O) (vs : List V) (fp : List Addr), (∀ a ∈ fp, B' a = H a) → Ros K B H os vs fp → Rps K B' (O.frzs os) vs
  | [], _, _, _, h => by
    rw [Ros] at h
    rw [O.frzs, Rps]
    exact h.1
  | o :: os, _, _, g, h => by
    rw [Ros] at h
    obtain ⟨v, r, f1, f2, h1, rfl, h3, h4⟩ := h
    rw [O.frzs, Rps]
    exact ⟨v, r, h1, Ro.frz e o v f1 (fun b hb => g b (by simp [hb])) h3, Ros.frz e os r f2 (fun b hb => g b (by simp [hb])) h4⟩
end
-- a view: what is read, owned or not
mutual
def Vw (K : PySem.W.Frag) (B H : Hp) : O → V → Prop
  | .fz d, v => Rp K B d v
  | .ls os, v => ∃ a vs, v = .ref a ∧ H a = some (.lst vs) ∧ Vws K B H os vs
  | .ok ks ds, v => ∃ a kvs, v = .ref a ∧ H a = some (.dK kvs) ∧ kvs.map Prod.fst = ks ∧ Rps K B ds (kvs.map Prod.snd)
  | .ot ks ds, v => ∃ a kvs, v = .ref a ∧ H a = some (.dT kvs) ∧ kvs.map Prod.fst = ks ∧ Rps K B ds (kvs.map Prod.snd)
def Vws (K : PySem.W.Frag) (B H : Hp) : List O → List V → Prop
  | [], vs => vs = []
  | o :: os, vs => ∃ v r, vs = v :: r ∧ Vw K B H o v ∧ Vws K B H os r
end
mutual
theorem Vw.mono {K : PySem.W.Frag} {B B' H H' : Hp} (e : Ex B B') (e' : Ex H H') : ∀ (o : O) (v : V), Vw K B H o v → Vw K B' H' o v
  | .fz d, _, h => by rw [Vw] at h ⊢; exact Rp.mono e d _ h
  | .ls os, _, h => by
    rw [Vw] at h ⊢
    obtain ⟨a, vs, h1, h3, h4⟩ := h
    exact ⟨a, vs, h1, e' _ _ h3, Vws.mono e e' os vs h4⟩
  | .ok ks ds, _, h => by
    rw [Vw] at h ⊢
    obtain ⟨a, kvs, h1, h3, h4, h5⟩ := h
    exact ⟨a, kvs, h1, e' _ _ h3, h4, Rps.mono e ds _ h5⟩
  | .ot ks ds, _, h => by
    rw [Vw] at h ⊢
    obtain ⟨a, kvs, h1, h3, h4, h5⟩ := h
    exact ⟨a, kvs, h1, e' _ _ h3, h4, Rps.mono e ds _ h5⟩
theorem Vws.mono {K : PySem.W.Frag} {B B' H H' : Hp} (e : Ex B B') (e' : Ex H H') : ∀ (os : List O) (vs : List V), Vws K B H os vs → Vws K B' H' os vs
  | [], _, h => by rw [Vws] at h ⊢; exact h
  | o :: os, _, h => by
    rw [Vws] at h ⊢
    obtain ⟨v, r, h1, h3, h4⟩ := h
    exact ⟨v, r, h1, Vw.mono e e' o v h3, Vws.mono e e' os r h4⟩
end
mutual
theorem Ro.vw {K : PySem.W.Frag} {B H : Hp} : ∀ (o : O) (v : V) (fp : List Addr), Ro K B H o v fp → Vw K B H o v
  | .fz d, _, _, h => by rw [Ro] at h; rw [Vw]; exact h.2
  | .ls os, _, _, h => by
    rw [Ro] at h
    obtain ⟨a, vs, fr, h1, rfl, h3, h4⟩ := h
    rw [Vw]
    exact ⟨a, vs, h1, h3, Ros.vws os vs fr h4⟩
  | .ok ks ds, _, _, h => by
    rw [Ro] at h
    obtain ⟨a, kvs, h1, rfl, h3, h4, h5⟩ := h
    rw [Vw]
    exact ⟨a, kvs, h1, h3, h4, h5⟩
  | .ot ks ds, _, _, h => by
    rw [Ro] at h
    obtain ⟨a, kvs, h1, rfl, h3, h4, h5⟩ := h
    rw [Vw]
    exact ⟨a, kvs, h1, h3, h4, h5⟩
theorem Ros.vws {K : PySem.W.Frag} {B H : Hp} : ∀ (os : List O) (vs : List V) (fp : List Addr), Ros K B H os vs fp → Vws K B H os vs
  | [], _, _, h => by rw [Ros] at h; rw [Vws]; exact h.1
  | o :: os, _, _, h => by
    rw [Ros] at h
    obtain ⟨v, r, f1, f2, h1, rfl, h3, h4⟩ := h
    rw [Vws]
    exact ⟨v, r, h1, Ro.vw o v f1 h3, Ros.vws os r f2 h4⟩
end
theorem Vws.len {K : PySem.W.Frag} {B H : Hp} : ∀ {ds : List O} {vs : List V}, Vws K B H ds vs → ds.length = vs.length
  | [], _, h => by rw [Vws] at h; subst h; rfl
  | d :: ds, _, h => by
    rw [Vws] at h
    obtain ⟨v, r, rfl, _, h3⟩ := h
    simp [Vws.len h3]
theorem Vws.get {K : PySem.W.Frag} {B H : Hp} : ∀ {ds : List O} {vs : List V} {i : Nat} {d : O}, Vws K B H ds vs → ds[i]? = some d → ∃ v, vs[i]? = some v ∧ Vw K B H d v
  | [], _, _, _, _, e => by simp at e
  | d :: ds, _, 0, _, h, e => by
    rw [Vws] at h
    obtain ⟨v, r, rfl, h2, h3⟩ := h
    simp at e; subst e
    exact ⟨v, rfl, h2⟩
  | d :: ds, _, i + 1, d', h, e => by
    rw [Vws] at h
    obtain ⟨v, r, rfl, h2, h3⟩ := h
    have e' : ds[i]? = some d' := by simpa using e
    obtain ⟨v', h1, h2⟩ := Vws.get h3 e'
    exact ⟨v', by simpa using h1, h2⟩
theorem Vws.nil {K : PySem.W.Frag} {B H : Hp} : Vws K B H [] [] := by rw [Vws]
theorem Vws.cons {K : PySem.W.Frag} {B H : Hp} {d : O} {v : V} {ds : List O} {vs : List V} (h : Vw K B H d v) (k : Vws K B H ds vs) : Vws K B H (d :: ds) (v :: vs) := by
  rw [Vws]; exact ⟨v, vs, rfl, h, k⟩
theorem Vws.fz {K : PySem.W.Frag} {B H : Hp} : ∀ {ds : List D} {vs : List V}, Rps K B ds vs → Vws K B H (ds.map O.fz) vs
  | [], _, h => by rw [Rps] at h; subst h; exact Vws.nil
  | d :: ds, _, h => by
    rw [Rps] at h
    obtain ⟨v, r, rfl, h2, h3⟩ := h
    exact Vws.cons (by rw [Vw]; exact h2) (Vws.fz h3)
/-- all are data -/
def O.d? : O → Option D
  | .fz d => some d
  | _ => none
theorem Vws.dat {K : PySem.W.Frag} {B H : Hp} : ∀ {os : List O} {vs : List V} {ds : List D}, Vws K B H os vs → os.mapM O.d? = some ds → Rps K B ds vs
  | [], _, ds, h, e => by
    rw [Vws] at h; subst h
    simp at e; subst e; exact Rps.nil
  | o :: os, _, ds, h, e => by
    rw [Vws] at h
    obtain ⟨v, r, rfl, h2, h3⟩ := h
    rw [List.mapM_cons] at e
    cases o with
    | fz d =>
      cases q : os.mapM O.d? with
      | none => rw [q] at e; simp [O.d?] at e
      | some es =>
        rw [q] at e; simp [O.d?] at e; subst e
        rw [Vw] at h2
        exact Rps.cons h2 (Vws.dat h3 q)
    | ls _ => simp [O.d?] at e
    | ok _ _ => simp [O.d?] at e
    | ot _ _ => simp [O.d?] at e
end Q

set_option Elab.async false
set_option linter.all false
set_option maxRecDepth 100000
set_option maxHeartbeats 1000000
namespace Q
open PySem L2

/-! ### roots that are owned, apart from one another -/
def Own (K : PySem.W.Frag) (H0 B H : Hp) (A : List Addr) (R : List (O × V)) : Prop :=
  ∃ fp, Ros K B H (R.map Prod.fst) (R.map Prod.snd) fp ∧ fp.Nodup ∧ ∀ a ∈ fp, B a = none ∧ H0 a = none ∧ a ∉ A
section
variable {K : PySem.W.Frag} {H0 B B' H H' : Hp} {A : List Addr} {R R' : List (O × V)} {o : O} {v : V}
theorem ros_perm (p : R.Perm R') : ∀ fp, Ros K B H (R.map Prod.fst) (R.map Prod.snd) fp → ∃ fp', fp.Perm fp' ∧ Ros K B H (R'.map Prod.fst) (R'.map Prod.snd) fp' := by
  induction p with
  | nil => exact fun fp h => ⟨fp, .refl _, h⟩
  | cons x p ih =>
    intro fp h
    rw [List.map_cons, List.map_cons, Ros] at h
    obtain ⟨v, r, f1, f2, h1, rfl, h3, h4⟩ := h
    cases h1
    obtain ⟨f2', p2, h5⟩ := ih f2 h4
    refine ⟨f1 ++ f2', p2.append_left f1, ?_⟩
    rw [List.map_cons, List.map_cons, Ros]
    exact ⟨_, _, f1, f2', rfl, rfl, h3, h5⟩
  | swap x y l =>
    intro fp h
    rw [List.map_cons, List.map_cons, List.map_cons, List.map_cons, Ros] at h
    obtain ⟨v, r, f1, f2, h1, rfl, h3, h4⟩ := h
    cases h1
    rw [Ros] at h4
    obtain ⟨v', r', g1, g2, h5, rfl, h6, h7⟩ := h4
    cases h5
    refine ⟨g1 ++ (f1 ++ g2), ?_, ?_⟩
    · rw [← List.append_assoc, ← List.append_assoc]
      exact List.perm_append_comm.append_right _
    · rw [List.map_cons, List.map_cons, List.map_cons, List.map_cons, Ros]
      refine ⟨_, _, g1, _, rfl, rfl, h6, ?_⟩
      rw [Ros]
      exact ⟨_, _, f1, g2, rfl, rfl, h3, h7⟩
  | trans p q ih1 ih2 =>
    intro fp h
    obtain ⟨f1, p1, h1⟩ := ih1 fp h
    obtain ⟨f2, p2, h2⟩ := ih2 f1 h1
    exact ⟨f2, p1.trans p2, h2⟩
theorem Own.perm (h : Own K H0 B H A R) (p : R.Perm R') : Own K H0 B H A R' := by
  obtain ⟨fp, h1, h2, h3⟩ := h
  obtain ⟨fp', p', h4⟩ := ros_perm p fp h1
  exact ⟨fp', h4, p'.nodup_iff.mp h2, fun a ha => h3 a (p'.mem_iff.mpr ha)⟩
theorem Own.cons_iff {fp : List Addr} : Ros K B H (((o, v) :: R).map Prod.fst) (((o, v) :: R).map Prod.snd) fp ↔ ∃ f1 f2, fp = f1 ++ f2 ∧ Ro K B H o v f1 ∧ Ros K B H (R.map Prod.fst) (R.map Prod.snd) f2 := by
  rw [List.map_cons, List.map_cons, Ros]
  constructor
  · rintro ⟨v', r, f1, f2, h1, h2, h3, h4⟩
    cases h1
    exact ⟨f1, f2, h2, h3, h4⟩
  · rintro ⟨f1, f2, h2, h3, h4⟩
    exact ⟨_, _, f1, f2, rfl, h2, h3, h4⟩
theorem Own.tail (h : Own K H0 B H A ((o, v) :: R)) : Own K H0 B H A R := by
  obtain ⟨fp, h1, h2, h3⟩ := h
  obtain ⟨f1, f2, rfl, _, h4⟩ := Own.cons_iff.mp h1
  exact ⟨f2, h4, (List.nodup_append.mp h2).2.1, fun a ha => h3 a (List.mem_append_right _ ha)⟩
theorem Own.drop {R1 R2 : List (O × V)} (h : Own K H0 B H A (R1 ++ R2)) : Own K H0 B H A R2 := by
  induction R1 with
  | nil => exact h
  | cons x r ih => exact ih (Own.tail (o := x.1) (v := x.2) h)
theorem Own.dropR {R1 R2 : List (O × V)} (h : Own K H0 B H A (R1 ++ R2)) : Own K H0 B H A R1 :=
  (h.perm List.perm_append_comm).drop
theorem Own.vw (h : Own K H0 B H A ((o, v) :: R)) : Vw K B H o v := by
  obtain ⟨fp, h1, h2, h3⟩ := h
  obtain ⟨f1, f2, rfl, h4, _⟩ := Own.cons_iff.mp h1
  exact Ro.vw o v f1 h4
theorem Own.nil : Own K H0 B H A [] := ⟨[], by rw [List.map_nil, List.map_nil, Ros]; exact ⟨rfl, rfl⟩, List.nodup_nil, fun a h => by simp at h⟩
theorem Own.fz {d : D} (h : Own K H0 B H A R) (r : Rp K B d v) : Own K H0 B H A ((.fz d, v) :: R) := by
  obtain ⟨fp, h1, h2, h3⟩ := h
  exact ⟨fp, Own.cons_iff.mpr ⟨[], fp, rfl, by rw [Ro]; exact ⟨rfl, r⟩, h1⟩, h2, h3⟩
theorem Own.fzs {ds : List D} : ∀ {vs : List V}, Rps K B ds vs → Own K H0 B H A R → Own K H0 B H A ((ds.map O.fz).zip vs ++ R) := by
  induction ds with
  | nil => intro vs h k; simpa using k
  | cons d ds ih =>
    intro vs h k
    rw [Rps] at h
    obtain ⟨v, r, rfl, h2, h3⟩ := h
    exact (ih h3 k).fz h2
/-- the heap grows, and the base by what is new -/
theorem Own.grow (h : Own K H0 B H A R) (e : Ex B B') (e' : Ex H H') (n : ∀ a, B a = none → H a ≠ none → B' a = none) : Own K H0 B' H' A R := by
  obtain ⟨fp, h1, h2, h3⟩ := h
  have th := Ros.there _ _ _ h1
  refine ⟨fp, Ros.mono e _ _ fp (fun a ha => ?_) h1, h2, fun a ha => ⟨n a (h3 a ha).1 (th a ha), (h3 a ha).2⟩⟩
  cases q : H a with
  | none => exact absurd q (th a ha)
  | some o => exact e' a o q
/-- an address that is not owned may change -/
theorem Own.upd {a : Addr} {x : HO} (h : Own K H0 B H (a :: A) R) : Own K H0 B (upd H a x) (a :: A) R := by
  obtain ⟨fp, h1, h2, h3⟩ := h
  refine ⟨fp, Ros.mono (Ex.refl _) _ _ fp (fun b hb => ?_) h1, h2, h3⟩
  exact upd_ne fun e => (h3 b hb).2.2 (by rw [e]; exact List.mem_cons_self)
theorem Own.less {a : Addr} (h : Own K H0 B H (a :: A) R) : Own K H0 B H A R := by
  obtain ⟨fp, h1, h2, h3⟩ := h
  exact ⟨fp, h1, h2, fun b hb => ⟨(h3 b hb).1, (h3 b hb).2.1, fun z => (h3 b hb).2.2 (List.mem_cons_of_mem _ z)⟩⟩
theorem Own.more {a : Addr} (h : Own K H0 B H A R) (e : H a = none) : Own K H0 B H (a :: A) R := by
  obtain ⟨fp, h1, h2, h3⟩ := h
  have th := Ros.there _ _ _ h1
  refine ⟨fp, h1, h2, fun b hb => ⟨(h3 b hb).1, (h3 b hb).2.1, fun z => ?_⟩⟩
  rcases List.mem_cons.mp z with rfl | z
  · exact th b hb e
  · exact (h3 b hb).2.2 z
theorem zip_fst {α β : Type} : ∀ {xs : List α} {ys : List β}, xs.length = ys.length → (xs.zip ys).map Prod.fst = xs
  | [], [], _ => rfl
  | x :: xs, y :: ys, h => by simp [zip_fst (xs := xs) (ys := ys) (by simpa using h)]
theorem zip_snd {α β : Type} : ∀ {xs : List α} {ys : List β}, xs.length = ys.length → (xs.zip ys).map Prod.snd = ys
  | [], [], _ => rfl
  | x :: xs, y :: ys, h => by simp [zip_snd (xs := xs) (ys := ys) (by simpa using h)]
theorem Ros.len : ∀ {os : List O} {vs : List V} {fp : List Addr}, Ros K B H os vs fp → os.length = vs.length
  | [], _, _, h => by rw [Ros] at h; rw [h.1]; rfl
  | o :: os, _, _, h => by
    rw [Ros] at h
    obtain ⟨v, r, f1, f2, rfl, rfl, h3, h4⟩ := h
    simp [Ros.len h4]
theorem Ros.append : ∀ {os ps : List O} {vs us : List V} {f g : List Addr}, Ros K B H os vs f → Ros K B H ps us g → Ros K B H (os ++ ps) (vs ++ us) (f ++ g)
  | [], _, _, _, _, _, h, k => by rw [Ros] at h; rw [h.1, h.2]; exact k
  | o :: os, ps, _, us, _, g, h, k => by
    rw [Ros] at h
    obtain ⟨v, r, f1, f2, rfl, rfl, h3, h4⟩ := h
    show Ros K B H (o :: (os ++ ps)) (v :: (r ++ us)) (f1 ++ f2 ++ g)
    rw [Ros]
    exact ⟨v, _, f1, f2 ++ g, rfl, by rw [List.append_assoc], h3, Ros.append h4 k⟩
theorem Ros.split : ∀ {os ps : List O} {vs us : List V} {f : List Addr}, os.length = vs.length → Ros K B H (os ++ ps) (vs ++ us) f → ∃ f1 f2, f = f1 ++ f2 ∧ Ros K B H os vs f1 ∧ Ros K B H ps us f2
  | [], _, [], _, f, _, h => ⟨[], f, rfl, by rw [Ros]; exact ⟨rfl, rfl⟩, h⟩
  | o :: os, ps, v :: vs, us, f, hl, h => by
    have h' : Ros K B H (o :: (os ++ ps)) (v :: (vs ++ us)) f := h
    rw [Ros] at h'
    obtain ⟨v', r, f1, f2, h1, rfl, h3, h4⟩ := h'
    cases h1
    obtain ⟨g1, g2, rfl, h5, h6⟩ := Ros.split (by simpa using hl) h4
    refine ⟨f1 ++ g1, g2, by rw [List.append_assoc], ?_, h6⟩
    rw [Ros]
    exact ⟨_, _, f1, g1, rfl, rfl, h3, h5⟩
/-- a list opened: its items are roots -/
theorem Own.open {os : List O} {a : Addr} (h : Own K H0 B H A ((.ls os, .ref a) :: R)) :
    ∃ vs, H a = some (.lst vs) ∧ os.length = vs.length ∧ B a = none ∧ H0 a = none ∧ a ∉ A ∧ Own K H0 B H (a :: A) (os.zip vs ++ R) := by
  obtain ⟨fp, h1, h2, h3⟩ := h
  obtain ⟨f1, f2, rfl, h4, h5⟩ := Own.cons_iff.mp h1
  rw [Ro] at h4
  obtain ⟨b, vs, fr, e, rfl, h6, h7⟩ := h4
  cases e
  have ha := h3 a (by simp)
  have hl := h7.len
  refine ⟨vs, h6, hl, ha.1, ha.2.1, ha.2.2, fr ++ f2, ?_, ?_, fun b hb => ⟨(h3 b ?_).1, (h3 b ?_).2.1, fun z => ?_⟩⟩
  · rw [List.map_append, List.map_append, zip_fst hl, zip_snd hl]
    exact h7.append h5
  · rw [List.cons_append] at h2
    exact (List.nodup_cons.mp h2).2
  · exact List.mem_cons_of_mem _ hb
  · exact List.mem_cons_of_mem _ hb
  · rcases List.mem_cons.mp z with rfl | z
    · rw [List.cons_append] at h2
      exact (List.nodup_cons.mp h2).1 hb
    · exact (h3 b (List.mem_cons_of_mem _ hb)).2.2 z
/-- .. and shut -/
theorem Own.shut {os : List O} {vs : List V} {a : Addr} (h : Own K H0 B H (a :: A) (os.zip vs ++ R)) (hl : os.length = vs.length) (ha : H a = some (.lst vs)) (hb : B a = none) (h0 : H0 a = none) (hA : a ∉ A) :
    Own K H0 B H A ((.ls os, .ref a) :: R) := by
  obtain ⟨fp, h1, h2, h3⟩ := h
  rw [List.map_append, List.map_append, zip_fst hl, zip_snd hl] at h1
  obtain ⟨f1, f2, rfl, h4, h5⟩ := Ros.split hl h1
  refine ⟨a :: f1 ++ f2, Own.cons_iff.mpr ⟨a :: f1, f2, rfl, ?_, h5⟩, ?_, fun b hb' => ?_⟩
  · rw [Ro]
    exact ⟨a, vs, f1, rfl, rfl, ha, h4⟩
  · rw [List.cons_append]
    exact List.nodup_cons.mpr ⟨fun z => (h3 a z).2.2 List.mem_cons_self, h2⟩
  · rcases List.mem_cons.mp hb' with rfl | z
    · exact ⟨hb, h0, hA⟩
    · exact ⟨(h3 b z).1, (h3 b z).2.1, fun y => (h3 b z).2.2 (List.mem_cons_of_mem _ y)⟩
/-- a dict opened and shut -/
theorem Own.openK {ks : List Key} {ds : List D} {a : Addr} (h : Own K H0 B H A ((.ok ks ds, .ref a) :: R)) :
    ∃ kvs, H a = some (.dK kvs) ∧ kvs.map Prod.fst = ks ∧ Rps K B ds (kvs.map Prod.snd) ∧ B a = none ∧ H0 a = none ∧ a ∉ A ∧ Own K H0 B H (a :: A) R := by
  obtain ⟨fp, h1, h2, h3⟩ := h
  obtain ⟨f1, f2, rfl, h4, h5⟩ := Own.cons_iff.mp h1
  rw [Ro] at h4
  obtain ⟨b, kvs, e, rfl, h6, h7, h8⟩ := h4
  cases e
  have ha := h3 a (by simp)
  rw [List.cons_append] at h2
  refine ⟨kvs, h6, h7, h8, ha.1, ha.2.1, ha.2.2, f2, h5, (List.nodup_cons.mp h2).2, fun b hb => ⟨(h3 b (by simp [hb])).1, (h3 b (by simp [hb])).2.1, fun z => ?_⟩⟩
  rcases List.mem_cons.mp z with rfl | z
  · exact (List.nodup_cons.mp h2).1 hb
  · exact (h3 b (by simp [hb])).2.2 z
theorem Own.shutK {ks : List Key} {ds : List D} {kvs : List (Key × V)} {a : Addr} (h : Own K H0 B H (a :: A) R) (ha : H a = some (.dK kvs)) (hk : kvs.map Prod.fst = ks) (hd : Rps K B ds (kvs.map Prod.snd)) (hb : B a = none) (h0 : H0 a = none) (hA : a ∉ A) :
    Own K H0 B H A ((.ok ks ds, .ref a) :: R) := by
  obtain ⟨fp, h1, h2, h3⟩ := h
  refine ⟨a :: fp, Own.cons_iff.mpr ⟨[a], fp, rfl, ?_, h1⟩, List.nodup_cons.mpr ⟨fun z => (h3 a z).2.2 List.mem_cons_self, h2⟩, fun b hb' => ?_⟩
  · rw [Ro]
    exact ⟨a, kvs, rfl, rfl, ha, hk, hd⟩
  · rcases List.mem_cons.mp hb' with rfl | z
    · exact ⟨hb, h0, hA⟩
    · exact ⟨(h3 b z).1, (h3 b z).2.1, fun y => (h3 b z).2.2 (List.mem_cons_of_mem _ y)⟩
theorem Own.openT {ks : List (List Key)} {ds : List D} {a : Addr} (h : Own K H0 B H A ((.ot ks ds, .ref a) :: R)) :
    ∃ kvs, H a = some (.dT kvs) ∧ kvs.map Prod.fst = ks ∧ Rps K B ds (kvs.map Prod.snd) ∧ B a = none ∧ H0 a = none ∧ a ∉ A ∧ Own K H0 B H (a :: A) R := by
  obtain ⟨fp, h1, h2, h3⟩ := h
  obtain ⟨f1, f2, rfl, h4, h5⟩ := Own.cons_iff.mp h1
  rw [Ro] at h4
  obtain ⟨b, kvs, e, rfl, h6, h7, h8⟩ := h4
  cases e
  have ha := h3 a (by simp)
  rw [List.cons_append] at h2
  refine ⟨kvs, h6, h7, h8, ha.1, ha.2.1, ha.2.2, f2, h5, (List.nodup_cons.mp h2).2, fun b hb => ⟨(h3 b (by simp [hb])).1, (h3 b (by simp [hb])).2.1, fun z => ?_⟩⟩
  rcases List.mem_cons.mp z with rfl | z
  · exact (List.nodup_cons.mp h2).1 hb
  · exact (h3 b (by simp [hb])).2.2 z
theorem Own.shutT {ks : List (List Key)} {ds : List D} {kvs : List (List Key × V)} {a : Addr} (h : Own K H0 B H (a :: A) R) (ha : H a = some (.dT kvs)) (hk : kvs.map Prod.fst = ks) (hd : Rps K B ds (kvs.map Prod.snd)) (hb : B a = none) (h0 : H0 a = none) (hA : a ∉ A) :
    Own K H0 B H A ((.ot ks ds, .ref a) :: R) := by
  obtain ⟨fp, h1, h2, h3⟩ := h
  refine ⟨a :: fp, Own.cons_iff.mpr ⟨[a], fp, rfl, ?_, h1⟩, List.nodup_cons.mpr ⟨fun z => (h3 a z).2.2 List.mem_cons_self, h2⟩, fun b hb' => ?_⟩
  · rw [Ro]
    exact ⟨a, kvs, rfl, rfl, ha, hk, hd⟩
  · rcases List.mem_cons.mp hb' with rfl | z
    · exact ⟨hb, h0, hA⟩
    · exact ⟨(h3 b z).1, (h3 b z).2.1, fun y => (h3 b z).2.2 (List.mem_cons_of_mem _ y)⟩
open Classical in
/-- an owned thing is given to the base -/
theorem Own.freeze (h : Own K H0 B H A ((o, v) :: R)) (bh : Ex B H) : ∃ B', Ex B B' ∧ Ex B' H ∧ Rp K B' o.frz v ∧ Own K H0 B' H A R ∧ ∀ a, H0 a ≠ none → B' a = B a := by
  obtain ⟨fp, h1, h2, h3⟩ := h
  obtain ⟨f1, f2, rfl, h4, h5⟩ := Own.cons_iff.mp h1
  have nd := List.nodup_append.mp h2
  have e1 : Ex B (fun a => if a ∈ f1 then H a else B a) := fun a u q => by
    show (if a ∈ f1 then H a else B a) = some u
    by_cases hm : a ∈ f1
    · have := (h3 a (List.mem_append_left _ hm)).1
      rw [this] at q; cases q
    · rw [if_neg hm]; exact q
  refine ⟨fun a => if a ∈ f1 then H a else B a, e1, fun a u q => ?_, Ro.frz e1 o v f1 (fun a ha => if_pos ha) h4, ⟨f2, Ros.mono e1 _ _ f2 (fun _ _ => rfl) h5, nd.2.1, fun a ha => ⟨?_, (h3 a (List.mem_append_right _ ha)).2⟩⟩, fun a ha => ?_⟩
  · have q' : (if a ∈ f1 then H a else B a) = some u := q
    by_cases hm : a ∈ f1
    · rw [if_pos hm] at q'; exact q'
    · rw [if_neg hm] at q'; exact bh a u q'
  · show (if a ∈ f1 then H a else B a) = none
    rw [if_neg fun hm => nd.2.2 a hm a ha rfl]
    exact (h3 a (List.mem_append_right _ ha)).1
  · show (if a ∈ f1 then H a else B a) = B a
    exact if_neg fun hm => ha (h3 a (List.mem_append_left _ hm)).2.1
end

/-! ### the frame's slots -/
def rt : Sl → Option V → List (O × V)
  | .has o, some v => [(o, v)]
  | _, _ => []
def roots : En → L2.St → List (O × V)
  | e :: es, s :: ss => rt e s ++ roots es ss
  | _, _ => []
theorem roots_at : ∀ {env : En} {σ : L2.St} {i : Nat} {e : Sl} {s : Option V}, env[i]? = some e → σ[i]? = some s → ∃ R, (roots env σ).Perm (rt e s ++ R) ∧ ∀ e' s', (roots (env.set i e') (σ.set i s')).Perm (rt e' s' ++ R)
  | [], _, _, _, _, h, _ => by simp at h
  | _ :: _, [], _, _, _, _, h => by simp at h
  | x :: es, y :: ss, 0, e, s, h1, h2 => by
    simp at h1 h2
    subst h1 h2
    exact ⟨roots es ss, .refl _, fun e' s' => .refl _⟩
  | x :: es, y :: ss, i + 1, e, s, h1, h2 => by
    obtain ⟨R, p, q⟩ := roots_at (env := es) (σ := ss) (i := i) (e := e) (s := s) (by simpa using h1) (by simpa using h2)
    refine ⟨rt x y ++ R, ?_, fun e' s' => ?_⟩
    · show (rt x y ++ roots es ss).Perm _
      refine (p.append_left _).trans ?_
      rw [← List.append_assoc, ← List.append_assoc]
      exact List.perm_append_comm.append_right _
    · show (rt x y ++ roots (es.set i e') (ss.set i s')).Perm _
      refine ((q e' s').append_left _).trans ?_
      rw [← List.append_assoc, ← List.append_assoc]
      exact List.perm_append_comm.append_right _
structure Sg (ln : Nat → Option V) (env : En) (σ : L2.St) : Prop where
  len : env.length = σ.length
  has : ∀ (i : Nat) (o : O), env[i]? = some (Sl.has o) → ∃ v, σ[i]? = some (some v)
  lent : ∀ (i : Nat), env[i]? = some Sl.lent → ∃ v, ln i = some v ∧ σ[i]? = some (some v)
  adr : ∀ (i : Nat) (a : Addr), env[i]? = some (Sl.adr a) → σ[i]? = some (some (.ref a))
theorem Sg.set {ln : Nat → Option V} {env : En} {σ : L2.St} (g : Sg ln env σ) (i : Nat) (o : O) (v : V) : Sg ln (env.set i (.has o)) (σ.set i (some v)) where
  len := by rw [List.length_set, List.length_set]; exact g.len
  has := fun j o' e => by
    by_cases h : i = j
    · subst h
      have hi : i < env.length := by
        have := (List.getElem?_eq_some_iff.mp e).1
        simpa using this
      exact ⟨v, by rw [List.getElem?_set_self (by rw [← g.len]; exact hi)]⟩
    · rw [List.getElem?_set_ne h] at e
      obtain ⟨v', e'⟩ := g.has j o' e
      exact ⟨v', by rw [List.getElem?_set_ne h]; exact e'⟩
  lent := fun j e => by
    by_cases h : i = j
    · subst h
      have hi : i < env.length := by
        have := (List.getElem?_eq_some_iff.mp e).1
        simpa using this
      rw [List.getElem?_set_self hi] at e
      cases e
    · rw [List.getElem?_set_ne h] at e
      obtain ⟨v', e1, e2⟩ := g.lent j e
      exact ⟨v', e1, by rw [List.getElem?_set_ne h]; exact e2⟩
  adr := fun j a e => by
    by_cases h : i = j
    · subst h
      have hi : i < env.length := by
        have := (List.getElem?_eq_some_iff.mp e).1
        simpa using this
      rw [List.getElem?_set_self hi] at e
      cases e
    · rw [List.getElem?_set_ne h] at e
      rw [List.getElem?_set_ne h]
      exact g.adr j a e
/-- what is in a slot changes, the slot's value stays -/
theorem Sg.same {ln : Nat → Option V} {env : En} {σ : L2.St} (g : Sg ln env σ) {i : Nat} {o : O} (h : env[i]? = some (.has o)) (o' : O) : Sg ln (env.set i (.has o')) σ := by
  obtain ⟨v, hv⟩ := g.has i o h
  have q := g.set i o' v
  rwa [show σ.set i (some v) = σ from by
    obtain ⟨h1, h2⟩ := List.getElem?_eq_some_iff.mp hv
    rw [← h2]; simp] at q

/-! ### the world behind a def's entry -/
structure Wd (H0 B0 B H : Hp) : Prop where
  b0 : Ex B0 B
  bh : Ex B H
  h0 : Ex H0 H
  nw : ∀ a, B0 a = none → H0 a ≠ none → B a = none
theorem Wd.refl {B H : Hp} (e : Ex B H) : Wd H B B H := ⟨Ex.refl _, e, Ex.refl _, fun _ h _ => h⟩
theorem Wd.trans {H0 B0 B H B' H' : Hp} (a : Wd H0 B0 B H) (b : Wd H B B' H') : Wd H0 B0 B' H' :=
  ⟨a.b0.trans b.b0, b.bh, a.h0.trans b.h0, fun x h1 h2 => b.nw x (a.nw x h1 h2) fun e => h2 (a.h0.none e)⟩
theorem Wd.new {B H : Hp} (e : Ex B H) {p : Addr} {x : HO} (hp : H p = none) : Wd H B (upd B p x) (upd H p x) :=
  ⟨Ex.new (e.none hp), fun a u q => by
    by_cases h : a = p
    · subst h; rw [upd_same] at q ⊢; exact q
    · rw [upd_ne h] at q ⊢; exact e a u q, Ex.new hp, fun a h1 h2 => by rw [upd_ne fun z => h2 (by rw [z]; exact hp)]; exact h1⟩
theorem Wd.newH {B H : Hp} (e : Ex B H) {p : Addr} {x : HO} (hp : H p = none) : Wd H B B (upd H p x) :=
  ⟨Ex.refl _, e.trans (Ex.new hp), Ex.new hp, fun a h1 _ => h1⟩
structure Stt (K : PySem.W.Frag) (H0 B0 : Hp) (ln : Nat → Option V) (Γ : List (O × V)) (B H : Hp) (σ : L2.St) (env : En) : Prop where
  w : Wd H0 B0 B H
  sg : Sg ln env σ
  own : Own K H0 B H [] (roots env σ ++ Γ)
section
variable {K : PySem.W.Frag} {H0 B0 B B' H H' : Hp} {ln : Nat → Option V} {Γ Γ' : List (O × V)} {σ : L2.St} {env : En} {o : O} {v : V} {d : D}
theorem Stt.push (h : Stt K H0 B0 ln Γ B H σ env) (r : Rp K B d v) : Stt K H0 B0 ln ((.fz d, v) :: Γ) B H σ env :=
  ⟨h.w, h.sg, (h.own.fz r).perm List.perm_middle.symm⟩
theorem Stt.pop (h : Stt K H0 B0 ln ((o, v) :: Γ) B H σ env) : Stt K H0 B0 ln Γ B H σ env :=
  ⟨h.w, h.sg, (h.own.perm List.perm_middle).tail⟩
theorem Stt.popN {Γ1 : List (O × V)} (h : Stt K H0 B0 ln (Γ1 ++ Γ) B H σ env) : Stt K H0 B0 ln Γ B H σ env := by
  induction Γ1 with
  | nil => exact h
  | cons x r ih => exact ih (Stt.pop (o := x.1) (v := x.2) h)
theorem Stt.perm (h : Stt K H0 B0 ln Γ B H σ env) (p : Γ.Perm Γ') : Stt K H0 B0 ln Γ' B H σ env := ⟨h.w, h.sg, h.own.perm (p.append_left _)⟩
theorem Stt.vw (h : Stt K H0 B0 ln ((o, v) :: Γ) B H σ env) : Vw K B H o v := (h.own.perm List.perm_middle).vw
theorem Stt.rp (h : Stt K H0 B0 ln ((.fz d, v) :: Γ) B H σ env) : Rp K B d v := by
  have := h.vw; rw [Vw] at this; exact this
/-- a step of the world -/
theorem Stt.step (h : Stt K H0 B0 ln Γ B H σ env) (w : Wd H B B' H') : Stt K H0 B0 ln Γ B' H' σ env :=
  ⟨h.w.trans w, h.sg, h.own.grow w.b0 w.h0 w.nw⟩
/-- a temp is frozen -/
theorem Stt.frz (h : Stt K H0 B0 ln ((o, v) :: Γ) B H σ env) : ∃ B', Ex B B' ∧ Stt K H0 B0 ln ((.fz o.frz, v) :: Γ) B' H σ env := by
  obtain ⟨B', e1, e2, r, ow, n⟩ := (h.own.perm List.perm_middle).freeze h.w.bh
  have w' : Wd H0 B0 B' H := ⟨h.w.b0.trans e1, e2, h.w.h0, fun a h1 h2 => (n a h2).trans (h.w.nw a h1 h2)⟩
  exact ⟨B', e1, Stt.push ⟨w', h.sg, ow⟩ r⟩
/-- a slot's content -/
theorem Stt.slot (h : Stt K H0 B0 ln Γ B H σ env) {i : Nat} (e : env[i]? = some (.has o)) : ∃ v, σ[i]? = some (some v) ∧ Vw K B H o v := by
  obtain ⟨v, hv⟩ := h.sg.has i o e
  obtain ⟨R, p, _⟩ := roots_at e hv
  refine ⟨v, hv, ?_⟩
  have q : Own K H0 B H [] (((o, v) :: R) ++ Γ) := h.own.perm (p.append_right Γ)
  exact q.vw
theorem Stt.slotD (h : Stt K H0 B0 ln Γ B H σ env) {i : Nat} (e : env[i]? = some (.has (.fz d))) : ∃ v, σ[i]? = some (some v) ∧ Rp K B d v := by
  obtain ⟨v, hv, w⟩ := h.slot e
  rw [Vw] at w
  exact ⟨v, hv, w⟩
/-- a temp goes into a slot -/
theorem Stt.store (h : Stt K H0 B0 ln ((o, v) :: Γ) B H σ env) {i : Nat} (hi : i < env.length) : Stt K H0 B0 ln Γ B H (σ.set i (some v)) (env.set i (.has o)) := by
  have hs : i < σ.length := by rw [← h.sg.len]; exact hi
  obtain ⟨R, p, q⟩ := roots_at (List.getElem?_eq_getElem hi) (List.getElem?_eq_getElem hs)
  refine ⟨h.w, h.sg.set i o v, ?_⟩
  have ow : Own K H0 B H [] (rt env[i] σ[i] ++ (R ++ ((o, v) :: Γ))) := by
    rw [← List.append_assoc]
    exact h.own.perm (p.append_right _)
  have o2 := ow.drop
  exact o2.perm (List.perm_middle.trans ((((q (.has o) (some v)).append_right Γ).symm)))
/-- what stands in a slot is taken out and something else is put there, the value as it was -/
theorem Stt.slotOut (h : Stt K H0 B0 ln Γ B H σ env) {i : Nat} (e : env[i]? = some (.has o)) : ∃ v R, σ[i]? = some (some v) ∧ Own K H0 B H [] ((o, v) :: (R ++ Γ)) ∧ ∀ o' B' H', Own K H0 B' H' [] ((o', v) :: (R ++ Γ)) → Wd H0 B0 B' H' → Stt K H0 B0 ln Γ B' H' σ (env.set i (.has o')) := by
  obtain ⟨v, hv⟩ := h.sg.has i o e
  obtain ⟨R, p, q⟩ := roots_at e hv
  refine ⟨v, R, hv, h.own.perm (p.append_right Γ), fun o' B' H' ow w => ⟨w, h.sg.same e o', ?_⟩⟩
  have z : σ.set i (some v) = σ := by
    obtain ⟨h1, h2⟩ := List.getElem?_eq_some_iff.mp hv
    rw [← h2]; simp
  have q' := q (.has o') (some v)
  rw [z] at q'
  exact ow.perm (q'.append_right Γ).symm
theorem Stt.slotFrz (h : Stt K H0 B0 ln Γ B H σ env) {i : Nat} (e : env[i]? = some (.has o)) : ∃ v B', σ[i]? = some (some v) ∧ Ex B B' ∧ Rp K B' o.frz v ∧ Stt K H0 B0 ln Γ B' H σ (env.set i (.has (.fz o.frz))) := by
  obtain ⟨v, R, hv, ow, back⟩ := h.slotOut e
  obtain ⟨B', e1, e2, r, ow', n⟩ := ow.freeze h.w.bh
  exact ⟨v, B', hv, e1, r, back (.fz o.frz) B' H (ow'.fz r) ⟨h.w.b0.trans e1, e2, h.w.h0, fun a h1 h2 => (n a h2).trans (h.w.nw a h1 h2)⟩⟩
/-- a new tuple of data -/
theorem Stt.newTup {ds : List D} {vs : List V} (h : Stt K H0 B0 ln Γ B H σ env) (r : Rps K B ds vs) {p : Addr} (hp : H p = none) :
    Ex B (upd B p (.tup vs)) ∧ Ex H (upd H p (.tup vs)) ∧ Stt K H0 B0 ln ((.fz (.tup ds), .ref p) :: Γ) (upd B p (.tup vs)) (upd H p (.tup vs)) σ env := by
  have w := Wd.new (x := .tup vs) h.w.bh hp
  refine ⟨w.b0, w.h0, (h.step w).push ?_⟩
  rw [Rp]
  exact ⟨p, vs, rfl, SqT.of upd_same, Rps.mono w.b0 ds vs r⟩
/-- a new list of temps -/
theorem Stt.newLst {os : List O} {vs : List V} (h : Stt K H0 B0 ln (os.zip vs ++ Γ) B H σ env) (hl : os.length = vs.length) {p : Addr} (hp : H p = none) :
    Ex H (upd H p (.lst vs)) ∧ Stt K H0 B0 ln ((.ls os, .ref p) :: Γ) B (upd H p (.lst vs)) σ env := by
  have w := Wd.newH (x := .lst vs) h.w.bh hp
  refine ⟨w.h0, h.w.trans w, h.sg, ?_⟩
  have o1 : Own K H0 B H [] (os.zip vs ++ (roots env σ ++ Γ)) := by
    refine h.own.perm ?_
    rw [← List.append_assoc, ← List.append_assoc]
    exact List.perm_append_comm.append_right _
  have o2 := (o1.more hp).upd (x := .lst vs)
  exact (o2.shut hl upd_same (h.w.bh.none hp) (h.w.h0.none hp) (by simp)).perm List.perm_middle.symm
theorem Stt.newLstD {ds : List D} {vs : List V} (h : Stt K H0 B0 ln Γ B H σ env) (r : Rps K B ds vs) {p : Addr} (hp : H p = none) :
    Ex H (upd H p (.lst vs)) ∧ Stt K H0 B0 ln ((.ls (ds.map .fz), .ref p) :: Γ) B (upd H p (.lst vs)) σ env := by
  refine Stt.newLst ⟨h.w, h.sg, ?_⟩ (by rw [List.length_map]; exact r.len) hp
  refine (Own.fzs r h.own).perm ?_
  rw [← List.append_assoc, ← List.append_assoc]
  exact List.perm_append_comm.append_right _
end
end Q

set_option Elab.async false
set_option linter.all false
set_option maxRecDepth 100000
set_option maxHeartbeats 1000000
namespace Q
open PySem L2 PyProof.Rows

/-! ### what expressions mean -/
abbrev EM (α : Type) := En → Option (α × En)
def SE (K : PySem.W.Frag) (t : TE) (m : EM O) : Prop :=
  ∀ (H0 B0 : Hp) (ln : Nat → Option V) (Γ : List (O × V)) (B H : Hp) (σ : L2.St) (env : En), Stt K H0 B0 ln Γ B H σ env → ∀ o env', m env = some (o, env') → ∀ Q : VK,
    (∀ v B' H', Ex B B' → Ex H H' → Stt K H0 B0 ln ((o, v) :: Γ) B' H' σ env' → Q v H') → t σ H Q
def SV (K : PySem.W.Frag) (t : TE) (m : EM O) : Prop :=
  ∀ (H0 B0 : Hp) (ln : Nat → Option V) (Γ : List (O × V)) (B H : Hp) (σ : L2.St) (env : En), Stt K H0 B0 ln Γ B H σ env → ∀ o env', m env = some (o, env') → ∀ Q : VK,
    (∀ v B' H', Ex B B' → Ex H H' → Stt K H0 B0 ln Γ B' H' σ env' → Vw K B' H' o v → Q v H') → t σ H Q
def STst (K : PySem.W.Frag) (t : TT) (m : EM Bool) : Prop :=
  ∀ (H0 B0 : Hp) (ln : Nat → Option V) (Γ : List (O × V)) (B H : Hp) (σ : L2.St) (env : En), Stt K H0 B0 ln Γ B H σ env → ∀ b env', m env = some (b, env') → ∀ Q : Bool → Hp → Prop,
    (∀ B' H', Ex B B' → Ex H H' → Stt K H0 B0 ln Γ B' H' σ env' → Q b H') → t σ H Q
def SA (K : PySem.W.Frag) (t : TA) (m : EM (List O)) : Prop :=
  ∀ (H0 B0 : Hp) (ln : Nat → Option V) (Γ : List (O × V)) (B H : Hp) (σ : L2.St) (env : En), Stt K H0 B0 ln Γ B H σ env → ∀ os env', m env = some (os, env') → ∀ Q : List V → Hp → Prop,
    (∀ vs B' H', Ex B B' → Ex H H' → os.length = vs.length → Stt K H0 B0 ln (os.zip vs ++ Γ) B' H' σ env' → Q vs H') → t σ H Q
def SVA (K : PySem.W.Frag) (t : TA) (m : EM (List O)) : Prop :=
  ∀ (H0 B0 : Hp) (ln : Nat → Option V) (Γ : List (O × V)) (B H : Hp) (σ : L2.St) (env : En), Stt K H0 B0 ln Γ B H σ env → ∀ os env', m env = some (os, env') → ∀ Q : List V → Hp → Prop,
    (∀ vs B' H', Ex B B' → Ex H H' → Stt K H0 B0 ln Γ B' H' σ env' → Vws K B' H' os vs → Q vs H') → t σ H Q
def QE (X : Cx) (e : Expr) (m : EM O) : Prop := ∃ t, PE X e t ∧ SE X.K t m
def QV (X : Cx) (e : Expr) (m : EM O) : Prop := ∃ t, PE X e t ∧ SV X.K t m
def QT (X : Cx) (e : Expr) (m : EM Bool) : Prop := ∃ t, PT X e t ∧ STst X.K t m
def QW (X : Cx) (e : Expr) (m : EM Bool) : Prop := ∃ t, PW X e t ∧ STst X.K t m
def QA (X : Cx) (es : List Expr) (m : EM (List O)) : Prop := ∃ t, PA X es t ∧ SA X.K t m
def QVA (X : Cx) (es : List Expr) (m : EM (List O)) : Prop := ∃ t, PA X es t ∧ SVA X.K t m

/-! meanings -/
def mC (d : D) : EM O := fun env => some (.fz d, env)
def mView (i : Nat) : EM O := fun env => match env[i]? with
  | some (.has o) => some (o, env)
  | _ => none
def mName (i : Nat) : EM O := fun env => match env[i]? with
  | some (.has (.fz d)) => some (.fz d, env)
  | some (.has o) => some (.fz o.frz, env.set i (.has (.fz o.frz)))
  | _ => none
def mFz (m : EM O) : EM O := fun env => match m env with
  | some (.fz d, e) => some (.fz d, e)
  | _ => none
def mFrz (m : EM O) : EM O := fun env => match m env with
  | some (o, e) => some (.fz o.frz, e)
  | none => none
def m1 (g : O → Option O) (a : EM O) : EM O := fun env => (a env).bind fun p => (g p.1).bind fun z => some (z, p.2)
def m2 (g : O → O → Option O) (a b : EM O) : EM O := fun env => (a env).bind fun p => (b p.2).bind fun q => (g p.1 q.1).bind fun z => some (z, q.2)
def mNil : EM (List O) := fun env => some ([], env)
def mCons (a : EM O) (r : EM (List O)) : EM (List O) := fun env => (a env).bind fun p => (r p.2).bind fun q => some (p.1 :: q.1, q.2)
def mL (g : List O → Option O) (a : EM (List O)) : EM O := fun env => (a env).bind fun p => (g p.1).bind fun z => some (z, p.2)
def mTst (a : EM O) : EM Bool := fun env => (a env).bind fun p => match p.1 with
  | .fz (.bl b) => some (b, p.2)
  | _ => none
def mTru (g : O → Option Bool) (a : EM O) : EM Bool := fun env => (a env).bind fun p => (g p.1).bind fun z => some (z, p.2)
def mAnd (a b : EM Bool) : EM Bool := fun env => (a env).bind fun p => if p.1 = true then b p.2 else some (false, p.2)
def mOr (a b : EM Bool) : EM Bool := fun env => (a env).bind fun p => if p.1 = true then some (true, p.2) else b p.2
def mNot (a : EM Bool) : EM Bool := fun env => (a env).bind fun p => some (!p.1, p.2)
def mIf (c : EM Bool) (a b : EM O) : EM O := fun env => (c env).bind fun p => if p.1 = true then a p.2 else b p.2
/-- and, or, not as values of bools -/
def mAndV (a b : EM O) : EM O := fun env => (a env).bind fun p => match p.1 with
  | .fz (.bl c) => if c = true then b p.2 else some (.fz (.bl false), p.2)
  | _ => none
def mOrV (a b : EM O) : EM O := fun env => (a env).bind fun p => match p.1 with
  | .fz (.bl c) => if c = true then some (.fz (.bl true), p.2) else b p.2
  | _ => none
def mNotV (a : EM O) : EM O := fun env => (a env).bind fun p => match p.1 with
  | .fz (.bl c) => some (.fz (.bl (!c)), p.2)
  | _ => none
/-- a tuple of what is told -/
def mTup (a : EM (List O)) : EM O := fun env => (a env).bind fun p => if p.1.length ≤ sizeLine then some (.fz (.tup (O.frzs p.1)), p.2) else none
def mLst (a : EM (List O)) : EM O := fun env => (a env).bind fun p => if p.1.length ≤ sizeLine then some (.ls p.1, p.2) else none
/-- a call: the arguments are given away -/
def mCall (f : List D → Option D) (a : EM (List O)) : EM O := fun env => (a env).bind fun p => (f (O.frzs p.1)).bind fun d => some (.fz d, p.2)

theorem bind_some {α β : Type} {x : Option α} {f : α → Option β} {b : β} (h : x.bind f = some b) : ∃ a, x = some a ∧ f a = some b := by
  cases x with
  | none => cases h
  | some a => exact ⟨a, rfl, h⟩

section
variable {X : Cx} {e a b c : Expr} {es : List Expr} {m ma mb : EM O} {pos : Pos}

theorem qv_of_qe (h : QE X e m) : QV X e m := by
  obtain ⟨t, h1, h2⟩ := h
  exact ⟨t, h1, fun H0 B0 ln Γ B H σ env s o env' em Q q => h2 H0 B0 ln Γ B H σ env s o env' em Q fun v B' H' e1 e2 s' => q v B' H' e1 e2 s'.pop s'.vw⟩
theorem qe_fz (h : QV X e m) : QE X e (mFz m) := by
  obtain ⟨t, h1, h2⟩ := h
  refine ⟨t, h1, fun H0 B0 ln Γ B H σ env s o env' em Q q => ?_⟩
  unfold mFz at em
  split at em
  · rename_i d e2 hm
    cases em
    refine h2 H0 B0 ln Γ B H σ env s _ _ hm Q fun v B' H' e1 e2 s' w => q v B' H' e1 e2 (s'.push ?_)
    rw [Vw] at w; exact w
  · cases em
theorem qe_frz (h : QE X e m) : QE X e (mFrz m) := by
  obtain ⟨t, h1, h2⟩ := h
  refine ⟨t, h1, fun H0 B0 ln Γ B H σ env s o env' em Q q => ?_⟩
  unfold mFrz at em
  split at em
  · rename_i o' e2 hm
    cases em
    refine h2 H0 B0 ln Γ B H σ env s _ _ hm Q fun v B' H' e1 e2 s' => ?_
    obtain ⟨B2, e3, s2⟩ := s'.frz
    exact q v B2 H' (e1.trans e3) e2 s2
  · cases em

/-! names and constants -/
theorem qv_name (i : Nat) {x : Str} (hN : X.N[i]? = some x := by rfl) (hv : Vis X.env.scope x := by first | exact Or.inl rfl | exact Or.inr (Or.inl rfl) | exact Or.inr (Or.inr rfl)) (hd : (x == ("__debug__" : Str)) = false := by decide)
    (hcd : (x == ("__classdict__" : Str)) = false := by decide) : QV X (.Name x pos) (mView i) := by
  refine ⟨tVar i, pe_var hN hv hd hcd, fun H0 B0 ln Γ B H σ env s o env' em Q q => ?_⟩
  unfold mView at em
  split at em
  · rename_i o' hm
    cases em
    obtain ⟨v, hv, w⟩ := s.slot hm
    exact ⟨v, hv, q v B H (Ex.refl _) (Ex.refl _) s w⟩
  · cases em
theorem qe_name (i : Nat) {x : Str} (hN : X.N[i]? = some x := by rfl) (hv : Vis X.env.scope x := by first | exact Or.inl rfl | exact Or.inr (Or.inl rfl) | exact Or.inr (Or.inr rfl)) (hd : (x == ("__debug__" : Str)) = false := by decide)
    (hcd : (x == ("__classdict__" : Str)) = false := by decide) : QE X (.Name x pos) (mName i) := by
  refine ⟨tVar i, pe_var hN hv hd hcd, fun H0 B0 ln Γ B H σ env s o env' em Q q => ?_⟩
  unfold mName at em
  split at em
  · rename_i d hm
    cases em
    obtain ⟨v, hv, r⟩ := s.slotD hm
    exact ⟨v, hv, q v B H (Ex.refl _) (Ex.refl _) (s.push r)⟩
  · rename_i o' hm
    cases em
    obtain ⟨v, B', hv, e1, r, s'⟩ := s.slotFrz hm
    exact ⟨v, hv, q v B' H e1 (Ex.refl _) (s'.push r)⟩
  · cases em
theorem qe_c {t : TE} {d : D} {v : V} (h : PE X e t) (ht : t = tC v) (hd : ∀ K B, Rp K B d v) : QE X e (mC d) := by
  subst ht
  refine ⟨_, h, fun H0 B0 ln Γ B H σ env s o env' em Q q => ?_⟩
  cases em
  exact q v B H (Ex.refl _) (Ex.refl _) (s.push (hd _ _))
theorem qe_int {i j} : QE X (.Constant (.int i) j pos) (mC (.int i)) := qe_c pe_int rfl fun _ _ => by rw [Rp]
theorem qe_bl {b j} : QE X (.Constant (.bool b) j pos) (mC (.bl b)) := qe_c pe_bl rfl fun _ _ => by rw [Rp]
theorem qe_non {j} : QE X (.Constant .none j pos) (mC .non) := qe_c pe_non rfl fun _ _ => by rw [Rp]
theorem qe_str {x j} : QE X (.Constant (.str x) j pos) (mC (.str x)) := qe_c pe_str rfl fun _ _ => by rw [Rp]
/-- a constant of the module -/
theorem qe_glob {x : Str} {d : D} {v : V} {u : Value} (hg : Gl X x) (hm : X.mg x = some u) (hr : RelV v u) (hd : ∀ B, Rp X.K B d v) (hdb : (x == ("__debug__" : Str)) = false := by decide) : QE X (.Name x pos) (mC d) := by
  refine ⟨tC v, pe_glob hg hm hr hdb, fun H0 B0 ln Γ B H σ env s o env' em Q q => ?_⟩
  cases em
  exact q v B H (Ex.refl _) (Ex.refl _) (s.push (hd _))

/-! arguments -/
theorem qa_nil : QA X [] mNil := ⟨tNil, pa_nil, fun H0 B0 ln Γ B H σ env s o env' em Q q => by
  cases em
  exact q [] B H (Ex.refl _) (Ex.refl _) rfl s⟩
theorem qa_cons {mr : EM (List O)} (h : QE X e m) (hr : QA X es mr) (hs : starEach (e :: es) X.env = (false, eval e X.env) :: starEach es X.env := by rfl) : QA X (e :: es) (mCons m mr) := by
  obtain ⟨t, h1, h2⟩ := h
  obtain ⟨u, h3, h4⟩ := hr
  refine ⟨tCons t u, pa_cons h1 h3 hs, fun H0 B0 ln Γ B H σ env s os env' em Q q => ?_⟩
  obtain ⟨p, em1, em⟩ := bind_some em
  obtain ⟨r, em2, em⟩ := bind_some em
  cases em
  refine h2 H0 B0 ln Γ B H σ env s _ _ em1 _ fun v B1 H1 e1 e2 s1 => ?_
  refine h4 H0 B0 ln _ B1 H1 σ _ s1 _ _ em2 _ fun vs B2 H2 e3 e4 hl s2 => ?_
  exact q (v :: vs) B2 H2 (e1.trans e3) (e2.trans e4) (by simp [hl]) (s2.perm List.perm_middle)
theorem qva_nil : QVA X [] mNil := ⟨tNil, pa_nil, fun H0 B0 ln Γ B H σ env s o env' em Q q => by
  cases em
  exact q [] B H (Ex.refl _) (Ex.refl _) s Vws.nil⟩
theorem qva_cons {mr : EM (List O)} (h : QV X e m) (hr : QVA X es mr) (hs : starEach (e :: es) X.env = (false, eval e X.env) :: starEach es X.env := by rfl) : QVA X (e :: es) (mCons m mr) := by
  obtain ⟨t, h1, h2⟩ := h
  obtain ⟨u, h3, h4⟩ := hr
  refine ⟨tCons t u, pa_cons h1 h3 hs, fun H0 B0 ln Γ B H σ env s os env' em Q q => ?_⟩
  obtain ⟨p, em1, em⟩ := bind_some em
  obtain ⟨r, em2, em⟩ := bind_some em
  cases em
  refine h2 H0 B0 ln Γ B H σ env s _ _ em1 _ fun v B1 H1 e1 e2 s1 w => ?_
  refine h4 H0 B0 ln _ B1 H1 σ _ s1 _ _ em2 _ fun vs B2 H2 e3 e4 s2 ws => ?_
  exact q (v :: vs) B2 H2 (e1.trans e3) (e2.trans e4) s2 (Vws.cons (Vw.mono e3 e4 _ _ w) ws)
/-- temps frozen, one after the other -/
theorem Stt.frzs {K : PySem.W.Frag} {H0 B0 : Hp} {ln : Nat → Option V} {σ : L2.St} {env : En} {H : Hp} : ∀ {os : List O} {vs : List V} {Γ : List (O × V)} {B : Hp}, os.length = vs.length → Stt K H0 B0 ln (os.zip vs ++ Γ) B H σ env →
    ∃ B', Ex B B' ∧ Rps K B' (O.frzs os) vs ∧ Stt K H0 B0 ln Γ B' H σ env
  | [], [], Γ, B, _, s => ⟨B, Ex.refl _, by rw [O.frzs, Rps], s⟩
  | o :: os, v :: vs, Γ, B, hl, s => by
    have s1 : Stt K H0 B0 ln ((o, v) :: (os.zip vs ++ Γ)) B H σ env := s
    obtain ⟨B1, e1, s2⟩ := s1.frz
    have r := s2.rp
    obtain ⟨B2, e2, r2, s3⟩ := Stt.frzs (by simpa using hl) s2.pop
    refine ⟨B2, e1.trans e2, ?_, s3⟩
    rw [O.frzs]
    exact Rps.cons (Rp.mono e2 _ _ r) r2
theorem frzs_len (os : List O) : (O.frzs os).length = os.length := by rw [frzs_map, List.length_map]
theorem qe_tup {x1} {ma : EM (List O)} (h : QA X es ma) : QE X (.Tuple es x1 pos) (mTup ma) := by
  obtain ⟨t, h1, h2⟩ := h
  refine ⟨tTup t, pe_tup h1, fun H0 B0 ln Γ B H σ env s o env' em Q q => ?_⟩
  obtain ⟨p, em1, em⟩ := bind_some em
  by_cases hz : p.1.length ≤ sizeLine
  · rw [if_pos hz] at em
    cases em
    refine h2 H0 B0 ln Γ B H σ env s _ _ em1 _ fun vs B1 H1 e1 e2 hl s1 => ⟨hl ▸ hz, fun a ha => ?_⟩
    obtain ⟨B2, e3, r, s2⟩ := Stt.frzs hl s1
    obtain ⟨e4, e5, s3⟩ := s2.newTup r ha
    exact q _ _ _ ((e1.trans e3).trans e4) (e2.trans e5) s3
  · rw [if_neg hz] at em; cases em
theorem qe_lst {ma : EM (List O)} (h : QA X es ma) : QE X (.List es pos) (mLst ma) := by
  obtain ⟨t, h1, h2⟩ := h
  refine ⟨tLst t, pe_lst h1, fun H0 B0 ln Γ B H σ env s o env' em Q q => ?_⟩
  obtain ⟨p, em1, em⟩ := bind_some em
  by_cases hz : p.1.length ≤ sizeLine
  · rw [if_pos hz] at em
    cases em
    refine h2 H0 B0 ln Γ B H σ env s _ _ em1 _ fun vs B1 H1 e1 e2 hl s1 => ⟨hl ▸ hz, fun a ha => ?_⟩
    obtain ⟨e3, s2⟩ := s1.newLst hl ha
    exact q _ _ _ e1 (e2.trans e3) s2
  · rw [if_neg hz] at em; cases em

/-! operators -/
def RS (K : PySem.W.Frag) (r : R2) (g : O → O → Option O) : Prop :=
  ∀ (H0 B0 : Hp) (ln : Nat → Option V) (Γ : List (O × V)) (B H : Hp) (σ : L2.St) (env : En), Stt K H0 B0 ln Γ B H σ env → ∀ o1 o2 o x y, Vw K B H o1 x → Vw K B H o2 y → g o1 o2 = some o → ∀ Q : VK,
    (∀ v B' H', Ex B B' → Ex H H' → Stt K H0 B0 ln ((o, v) :: Γ) B' H' σ env → Q v H') → r x y H Q
def QOp (X : Cx) (f : Value → Value → Sem Value) (g : O → O → Option O) : Prop := ∃ r, OpR X f r ∧ RS X.K r g
theorem RS.bin {t u : TE} {r : R2} {g : O → O → Option O} (hr : RS X.K r g) (h2 : SV X.K t ma) (h4 : SV X.K u mb) : SE X.K (tOp r t u) (m2 g ma mb) := by
  intro H0 B0 ln Γ B H σ env s o env' em Q q
  obtain ⟨p, em1, em⟩ := bind_some em
  obtain ⟨p2, em2, em⟩ := bind_some em
  obtain ⟨z, em3, em⟩ := bind_some em
  cases em
  refine h2 H0 B0 ln Γ B H σ env s _ _ em1 _ fun v B1 H1 e1 e2 s1 w1 => ?_
  refine h4 H0 B0 ln Γ B1 H1 σ _ s1 _ _ em2 _ fun u B2 H2 e3 e4 s2 w2 => ?_
  refine hr H0 B0 ln Γ B2 H2 σ _ s2 _ _ _ v u (Vw.mono e3 e4 _ _ w1) w2 em3 Q fun z B3 H3 e5 e6 s3 => ?_
  exact q z B3 H3 ((e1.trans e3).trans e5) ((e2.trans e4).trans e6) s3
theorem qe_bin {op : Operator} {g : O → O → Option O} (ho : QOp X (binaryOp op) g) (ha : QV X a ma) (hb : QV X b mb) : QE X (.BinOp a op b pos) (m2 g ma mb) := by
  obtain ⟨t, h1, h2⟩ := ha
  obtain ⟨u, h3, h4⟩ := hb
  obtain ⟨r, hr, hs⟩ := ho
  exact ⟨_, pe_op hr h1 h3, RS.bin hs h2 h4⟩
theorem qe_cmp {op : CmpOp} {g : O → O → Option O} (ho : QOp X (compareOp op) g) (ha : QV X a ma) (hb : QV X b mb) (hm : behindInMarks op b = false) : QE X (.Compare a [op] [b] pos) (m2 g ma mb) := by
  obtain ⟨t, h1, h2⟩ := ha
  obtain ⟨u, h3, h4⟩ := hb
  obtain ⟨r, hr, hs⟩ := ho
  exact ⟨_, pe_cmpR hr h1 h3 hm, RS.bin hs h2 h4⟩
theorem st_of_se {t : TE} (h : SE X.K t ma) : STst X.K (tTest t) (mTst ma) := by
  intro H0 B0 ln Γ B H σ env s o env' em Q q
  obtain ⟨p, em1, em⟩ := bind_some em
  obtain ⟨o1, e1⟩ := p
  refine h H0 B0 ln Γ B H σ env s _ _ em1 _ fun v B1 H1 e1 e2 s1 => ?_
  cases o1 with
  | fz d =>
    cases d with
    | bl b' =>
      cases em
      have r := s1.rp
      rw [Rp] at r
      exact ⟨_, r, q B1 H1 e1 e2 s1.pop⟩
    | _ => cases em
  | _ => cases em
theorem qt_cmp {op : CmpOp} {g : O → O → Option O} (ho : QOp X (compareOp op) g) (ha : QV X a ma) (hb : QV X b mb) (hm : behindInMarks op b = false) : QT X (.Compare a [op] [b] pos) (mTst (m2 g ma mb)) := by
  obtain ⟨t, h1, h2⟩ := ha
  obtain ⟨u, h3, h4⟩ := hb
  obtain ⟨r, hr, hs⟩ := ho
  exact ⟨_, pt_cmpR hr h1 h3 hm, st_of_se (RS.bin hs h2 h4)⟩
def oIg (g : Int → Int → Option O) : O → O → Option O
  | .fz (.int i), .fz (.int j) => g i j
  | _, _ => none
theorem vw_int {K : PySem.W.Frag} {B H : Hp} {i : Int} {v : V} (h : Vw K B H (.fz (.int i)) v) : v = .int i := by rw [Vw, Rp] at h; exact h
theorem vw_str {K : PySem.W.Frag} {B H : Hp} {i : Str} {v : V} (h : Vw K B H (.fz (.str i)) v) : v = .str i := by rw [Vw, Rp] at h; exact h
theorem vw_bl {K : PySem.W.Frag} {B H : Hp} {i : Bool} {v : V} (h : Vw K B H (.fz (.bl i)) v) : v = .bl i := by rw [Vw, Rp] at h; exact h
/-- ints in, a flat datum out -/
theorem rs_I {K : PySem.W.Frag} {C : Int → Int → Prop} {f : Int → Int → V} {g : Int → Int → Option O} (h : ∀ i j o, g i j = some o → C i j ∧ ∃ d, o = .fz d ∧ ∀ B, Rp K B d (f i j)) : RS K (rI C f) (oIg g) := by
  intro H0 B0 ln Γ B H σ env s o1 o2 o x y w1 w2 hg Q q
  unfold oIg at hg
  split at hg
  · rename_i i j
    obtain ⟨hc, d, rfl, hr⟩ := h i j o hg
    exact ⟨i, j, vw_int w1, vw_int w2, hc, q _ B H (Ex.refl _) (Ex.refl _) (s.push (hr B))⟩
  · cases hg
theorem rs_I0 {K : PySem.W.Frag} {f : Int → Int → V} {g : Int → Int → Option O} (h : ∀ i j o, g i j = some o → ∃ d, o = .fz d ∧ ∀ B, Rp K B d (f i j)) : RS K (rI0 f) (oIg g) := by
  intro H0 B0 ln Γ B H σ env s o1 o2 o x y w1 w2 hg Q q
  unfold oIg at hg
  split at hg
  · rename_i i j
    obtain ⟨d, rfl, hr⟩ := h i j o hg
    exact ⟨i, j, vw_int w1, vw_int w2, q _ B H (Ex.refl _) (Ex.refl _) (s.push (hr B))⟩
  · cases hg
theorem RS.or {K : PySem.W.Frag} {r r' : R2} {g g' : O → O → Option O} (h : RS K r g) (h' : RS K r' g') : RS K (fun x y H Q => r x y H Q ∨ r' x y H Q) (fun a b => (g a b).or (g' a b)) := by
  intro H0 B0 ln Γ B H σ env s o1 o2 o x y w1 w2 hg Q q
  cases e : g o1 o2 with
  | some z =>
    have hg' : (g o1 o2).or (g' o1 o2) = some o := hg
    rw [e] at hg'
    cases hg'
    exact .inl (h H0 B0 ln Γ B H σ env s o1 o2 _ x y w1 w2 e Q q)
  | none =>
    have hg' : (g o1 o2).or (g' o1 o2) = some o := hg
    rw [e] at hg'
    exact .inr (h' H0 B0 ln Γ B H σ env s o1 o2 _ x y w1 w2 hg' Q q)
theorem RS.congr {K : PySem.W.Frag} {r : R2} {g g' : O → O → Option O} (h : RS K r g) (e : ∀ a b o, g' a b = some o → g a b = some o) : RS K r g' := fun H0 B0 ln Γ B H σ env s o1 o2 o x y w1 w2 hg Q q => h H0 B0 ln Γ B H σ env s o1 o2 o x y w1 w2 (e _ _ _ hg) Q q
def mulOk (i j : Int) : Bool := decide (Builtin.Int.intBits i ≤ 64) || decide (Builtin.Int.intBits j ≤ 64) || decide (Builtin.Int.intBits i + Builtin.Int.intBits j ≤ 134217728)
theorem mulOk_ok {i j : Int} (h : mulOk i j = true) : IntMulOk i j := by
  unfold mulOk at h
  simp only [Bool.or_eq_true, decide_eq_true_eq] at h
  rcases h with (h | h) | h
  · exact .of_left h
  · exact .of_right h
  · unfold IntMulOk
    intro z
    rw [Bool.and_eq_true] at z
    have z2 := z.2
    unfold Builtin.Int.intTooBig at z2
    have z3 := of_decide_eq_true z2
    rw [bitsLine_eq] at z3
    omega
theorem op_mulK : OpR X (binaryOp .Mult) (rI IntMulOk fun i j => .int (i * j)) := opI fun _ _ _ _ _ _ _ hc q => mul_int q hc
/-- what the frames are: a division by _pylong asks it -/
structure Grd (base : Heap) (P : Program) : Prop where
  seer : base.NoSeer
  tree : P.given.tree = none
structure Sr (base : Heap) (P : Program) (A : Around) (stack : List Env) : Prop where
  grd : Grd base P
  dp : A.depth + 107 < recursionLimit
  top : ∃ (env : Env) (l : List Env), stack = env :: l ∧ env.scope.isGenerator = false ∧ env.scope.isCoroutine = false ∧ env.builtins = builtinsNs ∧ env.globals = mainGlobals
theorem Sr.room {pins : List (Addr × Obj)} {σ : L2.St} {H : Hp} {s : Shared} (hs : Sr X.base X.prog X.A X.stack) (I : Inv X pins σ H s) : PySem.PylongRoom (model X.prog X.w) X.A s := by
  obtain ⟨env, l, e1, e2, e3, e4, e5⟩ := hs.top
  refine PySem.PylongRoom.of I.nolimit ?_ ?_
  · have h1 := hs.dp
    have h2 : Builtin.pylongFrames = 100 := rfl
    omega
  · exact PySem.SeerAt.of (env := env) (l := l) (hs.grd.seer.keeps I.bk) hs.grd.tree (by rw [I.ok.frames, e1]) e2 e3 e4 e5
theorem op_fdivK (hs : Sr X.base X.prog X.A X.stack) : OpR X (binaryOp .FloorDiv) (rI (fun _ j => j ≠ 0) fun i j => .int (i.fdiv j)) := by
  intro pins s σ H x y v u Q I rx ry h
  obtain ⟨i, j, rfl, rfl, hc, q⟩ := h
  obtain ⟨t, rfl⟩ := rx
  obtain ⟨t', rfl⟩ := ry
  exact floordiv_int hc ⟨.int (i.fdiv j), H, I.tok _, ⟨_, rfl⟩, q⟩ (.inr (hs.room I))

def iRes (f : Int → Int → Int) (i j : Int) : Option O := some (.fz (.int (f i j)))
def bRes (f : Int → Int → Bool) (i j : Int) : Option O := some (.fz (.bl (f i j)))
def oSub : O → O → Option O := oIg (iRes fun i j => i - j)
def oFdiv : O → O → Option O := oIg fun i j => if j ≠ 0 then some (.fz (.int (i.fdiv j))) else none
def oMod : O → O → Option O := oIg fun i j => if j ≠ 0 then some (.fz (.int (i.fmod j))) else none
def oPow : O → O → Option O := oIg fun i j => if 0 ≤ j ∧ j ≤ 1000000 ∧ i.natAbs < 2 ^ 64 then some (.fz (.int (i ^ j.toNat))) else none
def oLt : O → O → Option O := oIg (bRes fun i j => decide (i < j))
def oLe : O → O → Option O := oIg (bRes fun i j => decide (i ≤ j))
def oGt : O → O → Option O := oIg (bRes fun i j => decide (j < i))
def oGe : O → O → Option O := oIg (bRes fun i j => decide (j ≤ i))
theorem q_sub : QOp X (binaryOp .Sub) oSub := ⟨_, op_sub, rs_I0 fun i j o h => by cases h; exact ⟨_, rfl, fun B => by rw [Rp]⟩⟩
theorem q_fdiv (hs : Sr X.base X.prog X.A X.stack) : QOp X (binaryOp .FloorDiv) oFdiv := ⟨_, op_fdivK hs, rs_I fun i j o h => by
  split at h
  · rename_i hc; cases h; exact ⟨hc, _, rfl, fun B => by rw [Rp]⟩
  · cases h⟩
theorem q_mod : QOp X (binaryOp .Mod) oMod := ⟨_, op_modN, rs_I fun i j o h => by
  split at h
  · rename_i hc; cases h; exact ⟨hc, _, rfl, fun B => by rw [Rp]⟩
  · cases h⟩
theorem q_pow : QOp X (binaryOp .Pow) oPow := ⟨_, op_pow, rs_I fun i j o h => by
  split at h
  · rename_i hc; cases h; exact ⟨hc, _, rfl, fun B => by rw [Rp]⟩
  · cases h⟩
theorem q_lt : QOp X (compareOp .Lt) oLt := ⟨_, op_lt, rs_I0 fun i j o h => by cases h; exact ⟨_, rfl, fun B => by rw [Rp]⟩⟩
theorem q_le : QOp X (compareOp .LtE) oLe := ⟨_, op_le, rs_I0 fun i j o h => by cases h; exact ⟨_, rfl, fun B => by rw [Rp]⟩⟩
theorem q_gt : QOp X (compareOp .Gt) oGt := ⟨_, op_gt, rs_I0 fun i j o h => by cases h; exact ⟨_, rfl, fun B => by rw [Rp]⟩⟩
theorem q_ge : QOp X (compareOp .GtE) oGe := ⟨_, op_ge, rs_I0 fun i j o h => by cases h; exact ⟨_, rfl, fun B => by rw [Rp]⟩⟩

/-! truth -/
theorem qt_tru {g : O → Option Bool} (ha : QV X a ma) (hg : ∀ B H o v k, Ex B H → Vw X.K B H o v → g o = some k → TruV X.K v H k) (he : ∀ whole, isTrue a X.env whole = (do let v ← whole; standAt a.pos; holding [v] (truthy v)) := by intro _; rfl) : QT X a (mTru g ma) := by
  obtain ⟨t, h1, h2⟩ := ha
  refine ⟨_, pt_truth h1 he, fun H0 B0 ln Γ B H σ env s o env' em Q q => ?_⟩
  obtain ⟨p, em1, em⟩ := bind_some em
  obtain ⟨z, em2, em⟩ := bind_some em
  cases em
  exact h2 H0 B0 ln Γ B H σ env s _ _ em1 _ fun v B1 H1 e1 e2 s1 w => ⟨_, hg B1 H1 _ v _ s1.w.bh w em2, q B1 H1 e1 e2 s1⟩
def oTru : O → Option Bool
  | .fz .non => some false
  | .fz (.bl b) => some b
  | .fz (.int i) => some (i != 0)
  | .fz (.str y) => if y.length ≤ sizeLine then some ((y.length : Int) != 0) else none
  | .fz (.tup ds) => some (!ds.isEmpty)
  | .fz (.lst ds) => some (!ds.isEmpty)
  | .ls os => some (!os.isEmpty)
  | _ => none
theorem isEmpty_len {α β : Type} : ∀ {xs : List α} {ys : List β}, xs.length = ys.length → xs.isEmpty = ys.isEmpty
  | [], [], _ => rfl
  | _ :: _, _ :: _, _ => rfl
theorem oTru_ok {K : PySem.W.Frag} {B H : Hp} {o : O} {v : V} {k : Bool} (e : Ex B H) (w : Vw K B H o v) (h : oTru o = some k) : TruV K v H k := by
  unfold oTru at h
  split at h
  · cases h; rw [Vw, Rp] at w; subst w; rfl
  · cases h; rw [Vw, Rp] at w; subst w; rfl
  · cases h; rw [Vw, Rp] at w; subst w; rfl
  · rw [Vw, Rp] at w; subst w
    split at h
    · cases h; exact ⟨by assumption, rfl⟩
    · cases h
  · cases h; rw [Vw, Rp] at w
    obtain ⟨a, vs, rfl, h1, h2⟩ := w
    exact .inr (.inl ⟨vs, e.t h1, by rw [isEmpty_len h2.len]⟩)
  · cases h; rw [Vw, Rp] at w
    obtain ⟨a, vs, rfl, h1, h2⟩ := w
    exact .inl ⟨vs, e.l h1, by rw [isEmpty_len h2.len]⟩
  · cases h; rw [Vw] at w
    obtain ⟨a, vs, rfl, h1, h2⟩ := w
    exact .inl ⟨vs, SqL.of h1, by rw [isEmpty_len h2.len]⟩
  · cases h
theorem qt_val (ha : QV X a ma) (he : ∀ whole, isTrue a X.env whole = (do let v ← whole; standAt a.pos; holding [v] (truthy v)) := by intro _; rfl) : QT X a (mTru oTru ma) :=
  qt_tru ha (fun B H o v k e w h => oTru_ok e w h) he
/-! and, or, not, if -/
variable {rest : List Expr} {na nb : EM Bool}
theorem qt_w (h : QW X e na) : QT X e na := by
  obtain ⟨t, h1, h2⟩ := h
  exact ⟨t, h1.pt, h2⟩
theorem qw_and1 (ha : QT X a na) : QW X (.BoolOp .And [a] pos) na := by
  obtain ⟨t, h1, h2⟩ := ha
  exact ⟨t, pw_and1 h1, h2⟩
theorem qw_or1 (ha : QT X a na) : QW X (.BoolOp .Or [a] pos) na := by
  obtain ⟨t, h1, h2⟩ := ha
  exact ⟨t, pw_or1 h1, h2⟩
theorem st_and {t u : TT} (h2 : STst X.K t na) (h4 : STst X.K u nb) : STst X.K (tAnd t u) (mAnd na nb) := by
  intro H0 B0 ln Γ B H σ env s o env' em Q q
  obtain ⟨p, em1, em⟩ := bind_some em
  obtain ⟨c, env1⟩ := p
  refine h2 H0 B0 ln Γ B H σ env s _ _ em1 _ fun B1 H1 e1 e2 s1 => ?_
  cases c with
  | true => exact h4 H0 B0 ln Γ B1 H1 σ _ s1 _ _ em Q fun B2 H2 e3 e4 s2 => q B2 H2 (e1.trans e3) (e2.trans e4) s2
  | false => cases em; exact q B1 H1 e1 e2 s1
theorem st_or {t u : TT} (h2 : STst X.K t na) (h4 : STst X.K u nb) : STst X.K (tOr t u) (mOr na nb) := by
  intro H0 B0 ln Γ B H σ env s o env' em Q q
  obtain ⟨p, em1, em⟩ := bind_some em
  obtain ⟨c, env1⟩ := p
  refine h2 H0 B0 ln Γ B H σ env s _ _ em1 _ fun B1 H1 e1 e2 s1 => ?_
  cases c with
  | false => exact h4 H0 B0 ln Γ B1 H1 σ _ s1 _ _ em Q fun B2 H2 e3 e4 s2 => q B2 H2 (e1.trans e3) (e2.trans e4) s2
  | true => cases em; exact q B1 H1 e1 e2 s1
theorem qw_and (ha : QT X a na) (hb : QW X (.BoolOp .And (b :: rest) pos) nb) : QW X (.BoolOp .And (a :: b :: rest) pos) (mAnd na nb) := by
  obtain ⟨t, h1, h2⟩ := ha
  obtain ⟨u, h3, h4⟩ := hb
  exact ⟨_, pw_and h1 h3, st_and h2 h4⟩
theorem qw_or (ha : QT X a na) (hb : QW X (.BoolOp .Or (b :: rest) pos) nb) : QW X (.BoolOp .Or (a :: b :: rest) pos) (mOr na nb) := by
  obtain ⟨t, h1, h2⟩ := ha
  obtain ⟨u, h3, h4⟩ := hb
  exact ⟨_, pw_or h1 h3, st_or h2 h4⟩
theorem qt_not (ha : QT X a na) : QT X (.UnaryOp .Not a pos) (mNot na) := by
  obtain ⟨t, h1, h2⟩ := ha
  refine ⟨_, pt_not h1, fun H0 B0 ln Γ B H σ env s o env' em Q q => ?_⟩
  obtain ⟨p, em1, em⟩ := bind_some em
  cases em
  exact h2 H0 B0 ln Γ B H σ env s _ _ em1 _ fun B1 H1 e1 e2 s1 => q B1 H1 e1 e2 s1
theorem qe_ifExp (hc : QT X c na) (ha : QE X a ma) (hb : QE X b mb) : QE X (.IfExp c a b pos) (mIf na ma mb) := by
  obtain ⟨t, h1, h2⟩ := hc
  obtain ⟨u, h3, h4⟩ := ha
  obtain ⟨w, h5, h6⟩ := hb
  refine ⟨_, pe_ifExp h1 h3 h5, fun H0 B0 ln Γ B H σ env s o env' em Q q => ?_⟩
  obtain ⟨p, em1, em⟩ := bind_some em
  obtain ⟨c, env1⟩ := p
  refine h2 H0 B0 ln Γ B H σ env s _ _ em1 _ fun B1 H1 e1 e2 s1 => ?_
  cases c with
  | true => exact h4 H0 B0 ln Γ B1 H1 σ _ s1 _ _ em Q fun v B2 H2 e3 e4 s2 => q v B2 H2 (e1.trans e3) (e2.trans e4) s2
  | false => exact h6 H0 B0 ln Γ B1 H1 σ _ s1 _ _ em Q fun v B2 H2 e3 e4 s2 => q v B2 H2 (e1.trans e3) (e2.trans e4) s2
theorem qe_one {op} (h : QE X a ma) : QE X (.BoolOp op [a] pos) ma := by
  obtain ⟨t, h1, h2⟩ := h
  exact ⟨t, pe_one h1, h2⟩
theorem qe_and (ha : QE X a ma) (hb : QE X (.BoolOp .And (b :: rest) pos) mb) : QE X (.BoolOp .And (a :: b :: rest) pos) (mAndV ma mb) := by
  obtain ⟨t, h1, h2⟩ := ha
  obtain ⟨u, h3, h4⟩ := hb
  refine ⟨_, pe_and h1 h3, fun H0 B0 ln Γ B H σ env s o env' em Q q => ?_⟩
  obtain ⟨p, em1, em⟩ := bind_some em
  obtain ⟨o1, env1⟩ := p
  refine h2 H0 B0 ln Γ B H σ env s _ _ em1 _ fun v B1 H1 e1 e2 s1 => ?_
  split at em
  · rename_i c hc
    have hc' : o1 = .fz (.bl c) := hc
    subst hc'
    have r := s1.rp
    rw [Rp] at r
    refine ⟨c, r, ?_⟩
    cases c with
    | true => exact h4 H0 B0 ln Γ B1 H1 σ _ s1.pop _ _ em Q fun v B2 H2 e3 e4 s2 => q v B2 H2 (e1.trans e3) (e2.trans e4) s2
    | false => cases em; subst r; exact q _ B1 H1 e1 e2 s1
  · cases em
theorem qe_or (ha : QE X a ma) (hb : QE X (.BoolOp .Or (b :: rest) pos) mb) : QE X (.BoolOp .Or (a :: b :: rest) pos) (mOrV ma mb) := by
  obtain ⟨t, h1, h2⟩ := ha
  obtain ⟨u, h3, h4⟩ := hb
  refine ⟨_, pe_or h1 h3, fun H0 B0 ln Γ B H σ env s o env' em Q q => ?_⟩
  obtain ⟨p, em1, em⟩ := bind_some em
  obtain ⟨o1, env1⟩ := p
  refine h2 H0 B0 ln Γ B H σ env s _ _ em1 _ fun v B1 H1 e1 e2 s1 => ?_
  split at em
  · rename_i c hc
    have hc' : o1 = .fz (.bl c) := hc
    subst hc'
    have r := s1.rp
    rw [Rp] at r
    refine ⟨c, r, ?_⟩
    cases c with
    | false => exact h4 H0 B0 ln Γ B1 H1 σ _ s1.pop _ _ em Q fun v B2 H2 e3 e4 s2 => q v B2 H2 (e1.trans e3) (e2.trans e4) s2
    | true => cases em; subst r; exact q _ B1 H1 e1 e2 s1
  · cases em
theorem qe_not (ha : QE X a ma) : QE X (.UnaryOp .Not a pos) (mNotV ma) := by
  obtain ⟨t, h1, h2⟩ := ha
  refine ⟨_, pe_not h1, fun H0 B0 ln Γ B H σ env s o env' em Q q => ?_⟩
  obtain ⟨p, em1, em⟩ := bind_some em
  obtain ⟨o1, env1⟩ := p
  refine h2 H0 B0 ln Γ B H σ env s _ _ em1 _ fun v B1 H1 e1 e2 s1 => ?_
  split at em
  · rename_i c hc
    have hc' : o1 = .fz (.bl c) := hc
    subst hc'
    have r := s1.rp
    rw [Rp] at r
    cases em
    exact ⟨c, r, q _ B1 H1 e1 e2 (s1.pop.push (by rw [Rp]))⟩
  · cases em
end
end Q

set_option Elab.async false
set_option linter.all false
set_option maxRecDepth 100000
set_option maxHeartbeats 1000000
namespace Q
open PySem L2 PyProof.Rows

/-! ### sequences seen -/
def O.asL : O → Option (List O)
  | .fz (.lst ds) => some (ds.map .fz)
  | .ls os => some os
  | _ => none
def O.asT : O → Option (List D)
  | .fz (.tup ds) => some ds
  | _ => none
def O.asS : O → Option (List O)
  | .fz (.lst ds) => some (ds.map .fz)
  | .ls os => some os
  | .fz (.tup ds) => some (ds.map .fz)
  | _ => none
section
variable {K : PySem.W.Frag} {B H : Hp} {o : O} {v : V}
theorem asL_ok {os : List O} (e : Ex B H) (w : Vw K B H o v) (h : o.asL = some os) : ∃ a vs, v = .ref a ∧ SqL K H a vs ∧ Vws K B H os vs := by
  unfold O.asL at h
  split at h
  · cases h; rw [Vw, Rp] at w
    obtain ⟨a, vs, rfl, h1, h2⟩ := w
    exact ⟨a, vs, rfl, e.l h1, Vws.fz h2⟩
  · cases h; rw [Vw] at w
    obtain ⟨a, vs, rfl, h1, h2⟩ := w
    exact ⟨a, vs, rfl, SqL.of h1, h2⟩
  · cases h
theorem asT_ok {ds : List D} (e : Ex B H) (w : Vw K B H o v) (h : o.asT = some ds) : ∃ a vs, v = .ref a ∧ SqT K H a vs ∧ SqT K B a vs ∧ Rps K B ds vs := by
  unfold O.asT at h
  split at h
  · cases h; rw [Vw, Rp] at w
    obtain ⟨a, vs, rfl, h1, h2⟩ := w
    exact ⟨a, vs, rfl, e.t h1, h1, h2⟩
  · cases h
theorem asS_ok {os : List O} (e : Ex B H) (w : Vw K B H o v) (h : o.asS = some os) : ∃ a vs, v = .ref a ∧ (SqL K H a vs ∨ SqT K H a vs) ∧ Vws K B H os vs := by
  unfold O.asS at h
  split at h
  · cases h; rw [Vw, Rp] at w
    obtain ⟨a, vs, rfl, h1, h2⟩ := w
    exact ⟨a, vs, rfl, .inl (e.l h1), Vws.fz h2⟩
  · cases h; rw [Vw] at w
    obtain ⟨a, vs, rfl, h1, h2⟩ := w
    exact ⟨a, vs, rfl, .inl (SqL.of h1), h2⟩
  · cases h; rw [Vw, Rp] at w
    obtain ⟨a, vs, rfl, h1, h2⟩ := w
    exact ⟨a, vs, rfl, .inr (e.t h1), Vws.fz h2⟩
  · cases h
/-- an owned list that may be read as a tracked one -/
theorem asO_ok {os : List O} (w : Vw K B H (.ls os) v) : ∃ a vs, v = .ref a ∧ H a = some (.lst vs) ∧ Vws K B H os vs := by
  rw [Vw] at w; exact w
theorem dats_ok {os : List O} {vs : List V} {ds : List D} (w : Vws K B H os vs) (h : os.mapM O.d? = some ds) : Rps K B ds vs := w.dat h
theorem mapM_fz : ∀ ds : List D, (ds.map O.fz).mapM O.d? = some ds
  | [] => by simp
  | d :: ds => by
    rw [List.map_cons, List.mapM_cons, mapM_fz ds]
    rfl
end

/-! ### +, * -/
section
variable {X : Cx} {K : PySem.W.Frag}
def oAddS : O → O → Option O
  | .fz (.str x), .fz (.str y) => if x.length + y.length ≤ sizeLine then some (.fz (.str (x ++ y))) else none
  | _, _ => none
def oAddT : O → O → Option O
  | .fz (.tup xs), .fz (.tup ys) => if xs.length + ys.length ≤ sizeLine then some (.fz (.tup (xs ++ ys))) else none
  | _, _ => none
def oAddL (a b : O) : Option O := (a.asL).bind fun xs => (b.asL).bind fun ys => if xs.length + ys.length ≤ sizeLine then (xs.mapM O.d?).bind fun ds => (ys.mapM O.d?).bind fun es => some (.ls ((ds ++ es).map .fz)) else none
def rCatS (K : PySem.W.Frag) : R2 := fun x y H Q => ∃ l b xs zs, x = .ref l ∧ y = .ref b ∧ SqL K H l xs ∧ SqL K H b zs ∧ xs.length + zs.length ≤ sizeLine ∧ ∀ p, H p = none → Q (.ref p) (upd H p (.lst (xs ++ zs)))
theorem op_catS : OpR X (binaryOp .Add) (rCatS X.K) := by
  intro pins s σ H x y v u Q I rx ry h
  obtain ⟨l, b, xs, zs, rfl, rfl, hH, hB, hz, q⟩ := h
  cases rx
  cases ry
  obtain ⟨i1, v1, ⟨⟨k1, d1, t1, s1⟩, n1, g1, c1, f1, w1⟩, _⟩ := I.list hH
  obtain ⟨i2, v2, ⟨⟨k2, d2, t2, s2⟩, n2, g2, c2, f2, w2⟩, _⟩ := I.list hB
  have l1 := v1.length
  have l2 := v2.length
  dsimp only at c1 f1 w1 c2 f2 w2
  subst c1 w1 c2 w2
  refine concat_meets ⟨_, g1, rfl⟩ ⟨_, g2, rfl⟩ PySem.noFill_list_add PySem.seq_list_add PySem.F.slot_list_add PySem.F.entry_list_add (PySem.F.args_list_add_2 _ _)
    (list_addW l b i1.toArray i2.toArray n1 n2 d1 d2 s1 s2 (by rw [List.size_toArray, List.size_toArray]; omega)) ⟨g1, g2, ?_⟩
  · rw [show i1.toArray ++ i2.toArray = (i1 ++ i2).toArray by simp]
    exact ⟨.ref _, _, I.lnew (t' := s.toks) (v1.append v2) (by rw [List.length_append]; exact hz), rfl, q _ I.fresh⟩
def oAddI : O → O → Option O := oIg (iRes fun i j => i + j)
theorem rs_addS : RS K (fun x y H Q => ∃ i j, x = .str i ∧ y = .str j ∧ i.length + j.length ≤ sizeLine ∧ Q (.str (i ++ j)) H) oAddS := by
  intro H0 B0 ln Γ B H σ env s o1 o2 o x y w1 w2 hg Q q
  unfold oAddS at hg
  split at hg
  · split at hg
    · cases hg
      exact ⟨_, _, vw_str w1, vw_str w2, by assumption, q _ B H (Ex.refl _) (Ex.refl _) (s.push (by rw [Rp]))⟩
    · cases hg
  · cases hg
theorem rs_addT : RS K (rCatA K) oAddT := by
  intro H0 B0 ln Γ B H σ env s o1 o2 o x y w1 w2 hg Q q
  unfold oAddT at hg
  split at hg
  · rename_i xs ys
    split at hg
    · rename_i hz
      cases hg
      obtain ⟨a, vs, rfl, h1, h1', h2⟩ := asT_ok s.w.bh w1 rfl
      obtain ⟨b, us, rfl, h3, h3', h4⟩ := asT_ok s.w.bh w2 rfl
      refine ⟨a, b, vs, us, rfl, rfl, h1, h3, by rw [← h2.len, ← h4.len]; exact hz, fun e => ?_, fun _ e => ?_, fun _ _ p hp => ?_⟩
      · subst e
        have : xs = [] := List.length_eq_zero_iff.mp (by rw [h2.len]; rfl)
        subst this
        exact q _ B H (Ex.refl _) (Ex.refl _) (s.push (by rw [Rp]; exact ⟨b, us, rfl, h3', h4⟩))
      · subst e
        have : ys = [] := List.length_eq_zero_iff.mp (by rw [h4.len]; rfl)
        subst this
        rw [List.append_nil] at q
        exact q _ B H (Ex.refl _) (Ex.refl _) (s.push (by rw [Rp]; exact ⟨a, vs, rfl, h1', h2⟩))
      · obtain ⟨e1, e2, s'⟩ := s.newTup (h2.append h4) hp
        exact q _ _ _ e1 e2 s'
    · cases hg
  · cases hg
theorem rs_addL : RS K (rCatS K) oAddL := by
  intro H0 B0 ln Γ B H σ env s o1 o2 o x y w1 w2 hg Q q
  unfold oAddL at hg
  obtain ⟨xs, g1, hg⟩ := bind_some hg
  obtain ⟨ys, g2, hg⟩ := bind_some hg
  split at hg
  · rename_i hz
    obtain ⟨ds, e1, hg⟩ := bind_some hg
    obtain ⟨es, e2, hg⟩ := bind_some hg
    cases hg
    obtain ⟨a, vs, rfl, h1, h2⟩ := asL_ok s.w.bh w1 g1
    obtain ⟨b, us, rfl, h3, h4⟩ := asL_ok s.w.bh w2 g2
    refine ⟨a, b, vs, us, rfl, rfl, h1, h3, by rw [← h2.len, ← h4.len]; exact hz, fun p hp => ?_⟩
    obtain ⟨e3, s'⟩ := s.newLstD ((h2.dat e1).append (h4.dat e2)) hp
    exact q _ _ _ (Ex.refl _) e3 s'
  · cases hg
def oAdd (a b : O) : Option O := ((oAddI a b).or (oAddT a b)).or ((oAddS a b).or (oAddL a b))
theorem q_add : QOp X (binaryOp .Add) oAdd :=
  ⟨_, (op_add.or op_catA).or (op_add_str.or op_catS), ((rs_I0 fun i j o h => by cases h; exact ⟨_, rfl, fun B => by rw [Rp]⟩).or rs_addT).or (rs_addS.or rs_addL)⟩
def oMulI : O → O → Option O := oIg fun i j => if mulOk i j = true then some (.fz (.int (i * j))) else none
theorem p63 : (9223372036854775808 : Int) = 2 ^ 63 := by decide +kernel
def oMulL : O → O → Option O
  | .ls xs, .fz (.int k) => if -9223372036854775808 ≤ k ∧ k < 9223372036854775808 ∧ xs.length * k.toNat ≤ sizeLine then (xs.mapM O.d?).bind fun ds => some (.ls ((List.replicate k.toNat ds).flatten.map .fz)) else none
  | _, _ => none
theorem rps_rep {B : Hp} {ds : List D} {vs : List V} (h : Rps K B ds vs) : ∀ n : Nat, Rps K B (List.replicate n ds).flatten (List.replicate n vs).flatten
  | 0 => by simp; exact Rps.nil
  | n + 1 => by
    rw [List.replicate_succ, List.replicate_succ, List.flatten_cons, List.flatten_cons]
    exact h.append (rps_rep h n)
theorem rs_mulL : RS K rRep oMulL := by
  intro H0 B0 ln Γ B H σ env s o1 o2 o x y w1 w2 hg Q q
  unfold oMulL at hg
  split at hg
  · rename_i xs k
    split at hg
    · rename_i hz
      obtain ⟨ds, e1, hg⟩ := bind_some hg
      cases hg
      obtain ⟨a, vs, rfl, h1, h2⟩ := asO_ok w1
      refine ⟨a, k, vs, rfl, vw_int w2, h1, p63 ▸ hz.1, p63 ▸ hz.2.1, by rw [← h2.len]; exact hz.2.2, fun p hp => ?_⟩
      obtain ⟨e3, s'⟩ := s.newLstD (rps_rep (h2.dat e1) k.toNat) hp
      exact q _ _ _ (Ex.refl _) e3 s'
    · cases hg
  · cases hg
def oMul (a b : O) : Option O := (oMulI a b).or (oMulL a b)
theorem q_mul : QOp X (binaryOp .Mult) oMul :=
  ⟨_, op_mulK.or op_rep, (rs_I fun i j o h => by
    split at h
    · rename_i hc; cases h; exact ⟨mulOk_ok hc, _, rfl, fun B => by rw [Rp]⟩
    · cases h).or rs_mulL⟩
/-! ### is None -/
def isN : O → Bool
  | .fz .non => true
  | _ => false
theorem isN_ok {B H : Hp} {o : O} {v : V} (w : Vw K B H o v) : decide (v = .non) = isN o := by
  cases o with
  | fz d =>
    rw [Vw] at w
    cases d with
    | non => rw [Rp] at w; subst w; rfl
    | bl b => rw [Rp] at w; subst w; rfl
    | int b => rw [Rp] at w; subst w; rfl
    | str b => rw [Rp] at w; subst w; rfl
    | tup b => rw [Rp] at w; obtain ⟨a, _, rfl, _⟩ := w; rfl
    | lst b => rw [Rp] at w; obtain ⟨a, _, rfl, _⟩ := w; rfl
    | dk b c => rw [Rp] at w; obtain ⟨a, _, rfl, _⟩ := w; rfl
    | dt b c => rw [Rp] at w; obtain ⟨a, _, rfl, _⟩ := w; rfl
    | xt b => rw [Rp] at w; obtain ⟨a, _, _, rfl, _⟩ := w; rfl
    | kt b => rw [Rp] at w; obtain ⟨a, rfl, _⟩ := w; rfl
    | ins b c d => rw [Rp] at w; obtain ⟨a, _, _, _, rfl, _⟩ := w; rfl
  | ls os => rw [Vw] at w; obtain ⟨a, _, rfl, _⟩ := w; rfl
  | ok b c => rw [Vw] at w; obtain ⟨a, _, rfl, _⟩ := w; rfl
  | ot b c => rw [Vw] at w; obtain ⟨a, _, rfl, _⟩ := w; rfl
def oIs : O → O → Option O
  | a, .fz .non => some (.fz (.bl (isN a)))
  | _, _ => none
def oIsNot : O → O → Option O
  | a, .fz .non => some (.fz (.bl (!isN a)))
  | _, _ => none
theorem q_is : QOp X (compareOp .Is) oIs := ⟨_, op_isN, by
  intro H0 B0 ln Γ B H σ env s o1 o2 o x y w1 w2 hg Q q
  unfold oIs at hg
  split at hg
  · cases hg
    rw [Vw, Rp] at w2
    refine ⟨w2, q _ B H (Ex.refl _) (Ex.refl _) (s.push (by rw [Rp, isN_ok w1]))⟩
  · cases hg⟩
theorem q_isnot : QOp X (compareOp .IsNot) oIsNot := ⟨_, op_notN, by
  intro H0 B0 ln Γ B H σ env s o1 o2 o x y w1 w2 hg Q q
  unfold oIsNot at hg
  split at hg
  · cases hg
    rw [Vw, Rp] at w2
    refine ⟨w2, q _ B H (Ex.refl _) (Ex.refl _) (s.push (by rw [Rp, isN_ok w1]))⟩
  · cases hg⟩
/-! ### == -/
mutual
def D.py : D → Option PyData
  | .non => some .none
  | .bl b => some (.bool b)
  | .int i => some (.int i)
  | .str s => some (.str s)
  | .tup ds => (D.pys ds).map .tuple
  | .lst ds => (D.pys ds).map .list
  | .dk _ _ => none
  | .dt _ _ => none
  | .xt _ => none
  | .kt _ => none
  | .ins _ _ _ => none
def D.pys : List D → Option (List PyData)
  | [] => some []
  | d :: ds => (d.py).bind fun p => (D.pys ds).bind fun q => some (p :: q)
end
mutual
theorem py_ok {H : Hp} : ∀ (d : D) (v : V) (p : PyData), Rp K H d v → d.py = some p → Dp K H v p
  | .non, v, p, h, e => by rw [Rp] at h; rw [D.py] at e; cases e; subst h; exact .non
  | .bl b, v, p, h, e => by rw [Rp] at h; rw [D.py] at e; cases e; subst h; exact .bl b
  | .int i, v, p, h, e => by rw [Rp] at h; rw [D.py] at e; cases e; subst h; exact .int i
  | .str i, v, p, h, e => by rw [Rp] at h; rw [D.py] at e; cases e; subst h; exact .str i
  | .tup ds, v, p, h, e => by
    rw [Rp] at h; rw [D.py] at e
    obtain ⟨a, vs, rfl, h1, h2⟩ := h
    obtain ⟨ps, e1, rfl⟩ := Option.map_eq_some_iff.mp e
    exact .tup h1 (pys_ok ds vs ps h2 e1)
  | .lst ds, v, p, h, e => by
    rw [Rp] at h; rw [D.py] at e
    obtain ⟨a, vs, rfl, h1, h2⟩ := h
    obtain ⟨ps, e1, rfl⟩ := Option.map_eq_some_iff.mp e
    exact .lst h1 (pys_ok ds vs ps h2 e1)
  | .dk _ _, v, p, h, e => by rw [D.py] at e; cases e
  | .dt _ _, v, p, h, e => by rw [D.py] at e; cases e
  | .xt _, v, p, h, e => by rw [D.py] at e; cases e
  | .kt _, v, p, h, e => by rw [D.py] at e; cases e
  | .ins _ _ _, v, p, h, e => by rw [D.py] at e; cases e
theorem pys_ok {H : Hp} : ∀ (ds : List D) (vs : List V) (ps : List PyData), Rps K H ds vs → D.pys ds = some ps → DpAll K H vs ps
  | [], vs, ps, h, e => by rw [Rps] at h; rw [D.pys] at e; cases e; subst h; exact .nil
  | d :: ds, vs, ps, h, e => by
    rw [Rps] at h; rw [D.pys] at e
    obtain ⟨v, r, rfl, h1, h2⟩ := h
    obtain ⟨p, e1, e⟩ := bind_some e
    obtain ⟨q, e2, e⟩ := bind_some e
    cases e
    exact .cons (py_ok d v p h1 e1) (pys_ok ds r q h2 e2)
end
mutual
theorem Vw.frz {B H : Hp} (e : Ex B H) : ∀ (o : O) (v : V), Vw K B H o v → Rp K H o.frz v
  | .fz d, v, h => by rw [Vw] at h; rw [O.frz]; exact Rp.mono e d v h
  | .ls os, v, h => by
    rw [Vw] at h
    obtain ⟨a, vs, rfl, h1, h2⟩ := h
    rw [O.frz, Rp]
    exact ⟨a, vs, rfl, SqL.of h1, Vws.frz e os vs h2⟩
  | .ok ks ds, v, h => by
    rw [Vw] at h
    obtain ⟨a, kvs, rfl, h1, h2, h3⟩ := h
    rw [O.frz, Rp]
    exact ⟨a, kvs, rfl, h1, h2, Rps.mono e _ _ h3⟩
  | .ot ks ds, v, h => by
    rw [Vw] at h
    obtain ⟨a, kvs, rfl, h1, h2, h3⟩ := h
    rw [O.frz, Rp]
    exact ⟨a, kvs, rfl, h1, h2, Rps.mono e _ _ h3⟩
theorem Vws.frz {B H : Hp} (e : Ex B H) : ∀ (os : List O) (vs : List V), Vws K B H os vs → Rps K H (O.frzs os) vs
  | [], vs, h => by rw [Vws] at h; rw [O.frzs, Rps]; exact h
  | o :: os, vs, h => by
    rw [Vws] at h
    obtain ⟨v, r, rfl, h1, h2⟩ := h
    rw [O.frzs]
    exact Rps.cons (Vw.frz e o v h1) (Vws.frz e os r h2)
end
def oEqB (a b : O) : Option Bool := (a.frz.py).bind fun p => (b.frz.py).bind fun q => if SeqAt.shaped p = true ∧ SeqAt.shaped q = true then some (PyData.eqv p q) else none
def oEq (a b : O) : Option O := (oEqB a b).bind fun z => some (.fz (.bl z))
def oNe (a b : O) : Option O := (oEqB a b).bind fun z => some (.fz (.bl (!z)))
theorem q_eq (hu : X.A.units + 64 < cLine) : QOp X (compareOp .Eq) oEq := ⟨_, op_eqD hu, by
  intro H0 B0 ln Γ B H σ env s o1 o2 o x y w1 w2 hg Q q
  obtain ⟨z, e, hg⟩ := bind_some hg
  cases hg
  obtain ⟨p, e1, e⟩ := bind_some e
  obtain ⟨p2, e2, e⟩ := bind_some e
  split at e
  · rename_i hs
    cases e
    exact ⟨p, p2, py_ok _ _ _ (Vw.frz s.w.bh _ _ w1) e1, py_ok _ _ _ (Vw.frz s.w.bh _ _ w2) e2, hs.1, hs.2, q _ B H (Ex.refl _) (Ex.refl _) (s.push (by rw [Rp]))⟩
  · cases e⟩
theorem q_ne (hu : X.A.units + 64 < cLine) : QOp X (compareOp .NotEq) oNe := ⟨_, op_neD hu, by
  intro H0 B0 ln Γ B H σ env s o1 o2 o x y w1 w2 hg Q q
  obtain ⟨z, e, hg⟩ := bind_some hg
  cases hg
  obtain ⟨p, e1, e⟩ := bind_some e
  obtain ⟨p2, e2, e⟩ := bind_some e
  split at e
  · rename_i hs
    cases e
    exact ⟨p, p2, py_ok _ _ _ (Vw.frz s.w.bh _ _ w1) e1, py_ok _ _ _ (Vw.frz s.w.bh _ _ w2) e2, hs.1, hs.2, q _ B H (Ex.refl _) (Ex.refl _) (s.push (by rw [Rp]))⟩
  · cases e⟩
/-! ### in: flat items -/
def D.flat : D → Option V
  | .non => some .non
  | .bl b => some (.bl b)
  | .int i => some (.int i)
  | .str s => some (.str s)
  | _ => none
theorem flat_ok {B : Hp} {d : D} {v u : V} (r : Rp K B d v) (h : d.flat = some u) : v = u ∧ flatV v = true := by
  cases d <;> simp [D.flat] at h <;> (rw [Rp] at r; subst r h; exact ⟨rfl, rfl⟩)
theorem flats_ok {B : Hp} : ∀ {ds : List D} {vs us : List V}, Rps K B ds vs → ds.mapM D.flat = some us → vs = us ∧ vs.all flatV = true
  | [], vs, us, r, h => by
    rw [Rps] at r; subst r
    simp at h; subst h; exact ⟨rfl, rfl⟩
  | d :: ds, vs, us, r, h => by
    rw [Rps] at r
    obtain ⟨v, rr, rfl, r1, r2⟩ := r
    rw [List.mapM_cons] at h
    cases e1 : d.flat with
    | none => rw [e1] at h; simp at h
    | some u =>
      cases e2 : ds.mapM D.flat with
      | none => rw [e1, e2] at h; simp at h
      | some us' =>
        rw [e1, e2] at h; simp at h; subst h
        obtain ⟨a1, a2⟩ := flat_ok r1 e1
        obtain ⟨b1, b2⟩ := flats_ok r2 e2
        subst a1 b1
        exact ⟨rfl, by simp [a2, b2]⟩
def oInB (a b : O) : Option Bool := (O.d? a).bind fun d => (d.flat).bind fun x => (b.asS).bind fun os => (os.mapM O.d?).bind fun ds => (ds.mapM D.flat).bind fun ys => some (inV x ys)
theorem oInB_ok {B H : Hp} {a b : O} {x y : V} {z : Bool} (e : Ex B H) (w1 : Vw K B H a x) (w2 : Vw K B H b y) (h : oInB a b = some z) : ∃ p xs, y = .ref p ∧ (SqL K H p xs ∨ SqT K H p xs) ∧ flatV x = true ∧ xs.all flatV = true ∧ inV x xs = z := by
  obtain ⟨d, e1, h⟩ := bind_some h
  obtain ⟨x', e2, h⟩ := bind_some h
  obtain ⟨os, e3, h⟩ := bind_some h
  obtain ⟨ds, e4, h⟩ := bind_some h
  obtain ⟨ys, e5, h⟩ := bind_some h
  cases h
  cases a with
  | fz d' =>
    cases e1
    rw [Vw] at w1
    obtain ⟨rfl, f1⟩ := flat_ok w1 e2
    obtain ⟨p, vs, rfl, h1, h2⟩ := asS_ok e w2 e3
    obtain ⟨rfl, f2⟩ := flats_ok (h2.dat e4) e5
    exact ⟨p, vs, rfl, h1, f1, f2, rfl⟩
  | _ => cases e1
def oIn (a b : O) : Option O := (oInB a b).bind fun z => some (.fz (.bl z))
def oNotIn (a b : O) : Option O := (oInB a b).bind fun z => some (.fz (.bl (!z)))
theorem q_in : QOp X (compareOp .In) oIn := ⟨_, op_in_seq, by
  intro H0 B0 ln Γ B H σ env s o1 o2 o x y w1 w2 hg Q q
  obtain ⟨z, e, hg⟩ := bind_some hg
  cases hg
  obtain ⟨p, xs, rfl, h1, h2, h3, h4⟩ := oInB_ok s.w.bh w1 w2 e
  refine ⟨p, xs, rfl, h1, h2, h3, ?_⟩
  exact q _ B H (Ex.refl _) (Ex.refl _) (s.push (by rw [Rp, ← h4]; rfl))⟩
theorem q_notin : QOp X (compareOp .NotIn) oNotIn := ⟨_, op_notIn_seq, by
  intro H0 B0 ln Γ B H σ env s o1 o2 o x y w1 w2 hg Q q
  obtain ⟨z, e, hg⟩ := bind_some hg
  cases hg
  obtain ⟨p, xs, rfl, h1, h2, h3, h4⟩ := oInB_ok s.w.bh w1 w2 e
  refine ⟨p, xs, rfl, h1, h2, h3, ?_⟩
  exact q _ B H (Ex.refl _) (Ex.refl _) (s.push (by rw [Rp, ← h4]; rfl))⟩
/-! ### subscripts -/
variable {a b e : Expr} {ma mb : EM O} {pos : Pos}
def oIx : O → O → Option O
  | a, .fz (.int i) => match a with
    | .fz (.tup ds) => (atI ds i).map .fz
    | .fz (.lst ds) => (atI ds i).map .fz
    | .ls os => atI os i
    | .fz (.str z) => if z.length ≤ sizeLine then (atI z.cps.toList i).map fun c => .fz (.str ⟨#[c]⟩) else none
    | _ => none
  | _, _ => none
theorem atI_some {α : Type} {xs : List α} {i : Int} {x : α} (h : atI xs i = some x) : ∃ j, ixN xs.length i = some j ∧ xs[j]? = some x := by
  unfold atI at h
  exact bind_some h
theorem atI_len {α : Type} {xs : List α} {n : Nat} {i : Int} {j : Nat} {x : α} (hn : xs.length = n) (h : ixN n i = some j) (e : xs[j]? = some x) : atI xs i = some x := by
  unfold atI
  rw [hn, h]
  exact e
theorem qv_ix (ha : QV X a ma) (hb : QV X b mb) (hs : PlainIx b := by exact fun _ _ => rfl) : QV X (.Subscript a b pos) (m2 oIx ma mb) := by
  obtain ⟨t, h1, h2⟩ := ha
  obtain ⟨u, h3, h4⟩ := hb
  refine ⟨_, pe_ix (ix_list.or (ix_tup.or ix_str)) h1 h3 hs, fun H0 B0 ln Γ B H σ env s o env' em Q q => ?_⟩
  obtain ⟨p, em1, em⟩ := bind_some em
  obtain ⟨p2, em2, em⟩ := bind_some em
  obtain ⟨z, em3, em⟩ := bind_some em
  cases em
  refine h2 H0 B0 ln Γ B H σ env s _ _ em1 _ fun v B1 H1 e1 e2 s1 w1 => ?_
  refine h4 H0 B0 ln Γ B1 H1 σ _ s1 _ _ em2 _ fun u B2 H2 e3 e4 s2 w2 => ?_
  have w1 := Vw.mono e3 e4 _ _ w1
  have fin := fun z' w => q z' B2 H2 (e1.trans e3) (e2.trans e4) s2 w
  obtain ⟨oa, env1⟩ := p
  obtain ⟨ob, env2⟩ := p2
  cases ob with
  | fz d =>
    cases d with
    | int i =>
      have hu := vw_int w2
      subst hu
      cases oa with
      | fz da =>
        cases da with
        | tup ds =>
          obtain ⟨d, hd, rfl⟩ := Option.map_eq_some_iff.mp (show (atI ds i).map O.fz = some _ from em3)
          obtain ⟨p, vs, rfl, q1, q2, q3⟩ := asT_ok s2.w.bh w1 rfl
          obtain ⟨j, j1, j2⟩ := atI_some hd
          obtain ⟨x, x1, x2⟩ := q3.get j2
          exact .inr (.inl ⟨p, vs, i, x, rfl, rfl, q1, atI_len q3.len.symm j1 x1, fin x (by rw [Vw]; exact x2)⟩)
        | lst ds =>
          obtain ⟨d, hd, rfl⟩ := Option.map_eq_some_iff.mp (show (atI ds i).map O.fz = some _ from em3)
          obtain ⟨p, vs, rfl, q1, q3⟩ := asL_ok s2.w.bh w1 rfl
          obtain ⟨j, j1, j2⟩ := atI_some hd
          obtain ⟨x, x1, x2⟩ := q3.get (i := j) (d := .fz d) (by rw [List.getElem?_map, j2]; rfl)
          exact .inl ⟨p, vs, i, x, rfl, rfl, q1, atI_len (by rw [← q3.len, List.length_map]) j1 x1, fin x x2⟩
        | str z' =>
          have em4 : (if z'.length ≤ sizeLine then (atI z'.cps.toList i).map fun c => O.fz (.str ⟨#[c]⟩) else none) = some _ := em3
          split at em4
          · rename_i hz
            obtain ⟨c, hc, rfl⟩ := Option.map_eq_some_iff.mp em4
            have := vw_str w1
            subst this
            exact .inr (.inr ⟨z', i, c, rfl, rfl, hz, hc, fin _ (by rw [Vw, Rp])⟩)
          · cases em4
        | _ => cases em3
      | ls os =>
        obtain ⟨p, vs, rfl, q1, q3⟩ := asL_ok s2.w.bh w1 rfl
        obtain ⟨j, j1, j2⟩ := atI_some (show atI os i = some _ from em3)
        obtain ⟨x, x1, x2⟩ := q3.get j2
        exact .inl ⟨p, vs, i, x, rfl, rfl, q1, atI_len q3.len.symm j1 x1, fin x x2⟩
      | _ => cases em3
    | _ => cases em3
  | _ => cases em3
/-! ### calls of what is built in -/
def RC (K : PySem.W.Frag) (r : List V → Hp → VK → Prop) (g : List O → Option O) : Prop :=
  ∀ (H0 B0 : Hp) (ln : Nat → Option V) (Γ : List (O × V)) (B H : Hp) (σ : L2.St) (env : En), Stt K H0 B0 ln Γ B H σ env → ∀ os o vs, Vws K B H os vs → g os = some o → ∀ Q : VK,
    (∀ v B' H', Ex B B' → Ex H H' → Stt K H0 B0 ln ((o, v) :: Γ) B' H' σ env → Q v H') → r vs H Q
def QC (X : Cx) (f : Value) (g : List O → Option O) : Prop := ∃ r, CallR X f r ∧ RC X.K r g
variable {es : List Expr} {x : Str} {p : Pos} {bid T : String} {g : List O → Option O} {mA : EM (List O)}
theorem RC.app {t : TA} {r : List V → Hp → VK → Prop} (hr : RC X.K r g) (h2 : SVA X.K t mA) : SE X.K (tCB r t) (mL g mA) := by
  intro H0 B0 ln Γ B H σ env s o env' em Q q
  obtain ⟨p, em1, em⟩ := bind_some em
  obtain ⟨z, em2, em⟩ := bind_some em
  cases em
  refine h2 H0 B0 ln Γ B H σ env s _ _ em1 _ fun vs B1 H1 e1 e2 s1 w1 => ?_
  exact hr H0 B0 ln Γ B1 H1 σ _ s1 _ _ vs w1 em2 Q fun v B2 H2 e3 e4 s2 => q v B2 H2 (e1.trans e3) (e2.trans e4) s2
theorem qe_callB (hc : QC X (.builtin bid) g) (hg : Gl X x) (hm : X.mg x = none) (hv : bootBuiltins x = some (.builtin bid)) (ha : QVA X (e :: es) mA) (hn : x ≠ "__name__" := by decide) (hdb : (x == ("__debug__" : Str)) = false := by decide)
    (he : starEach (e :: es) X.env = (false, eval e X.env) :: starEach es X.env := by rfl) (hpl : (backTo pos (starEach es X.env)).any (·.1) = false := by rfl) : QE X (.Call (.Name x p) (e :: es) [] pos) (mL g mA) := by
  obtain ⟨r, h1, h2⟩ := hc
  obtain ⟨t, h3, h4⟩ := ha
  exact ⟨_, pe_callB h1 hg hm hv h3 hn hdb he hpl, h2.app h4⟩
theorem qe_callTy (hc : QC X (.type T) g) (hg : Gl X x) (hm : X.mg x = none) (hv : bootBuiltins x = some (.type T)) (ha : QVA X (e :: es) mA) (hn : x ≠ "__name__" := by decide) (hdb : (x == ("__debug__" : Str)) = false := by decide)
    (he : starEach (e :: es) X.env = (false, eval e X.env) :: starEach es X.env := by rfl) (hpl : (backTo pos (starEach es X.env)).any (·.1) = false := by rfl) : QE X (.Call (.Name x p) (e :: es) [] pos) (mL g mA) := by
  obtain ⟨r, h1, h2⟩ := hc
  obtain ⟨t, h3, h4⟩ := ha
  exact ⟨_, pe_callTy h1 hg hm hv h3 hn hdb he hpl, h2.app h4⟩
theorem qe_callBfun (hc : QC X (.builtin bid) g) (hg : Gl X x) (hm : X.mg x = some (.builtin bid)) (ha : QVA X (e :: es) mA) (hdb : (x == ("__debug__" : Str)) = false := by decide)
    (he : starEach (e :: es) X.env = (false, eval e X.env) :: starEach es X.env := by rfl) (hpl : (backTo pos (starEach es X.env)).any (·.1) = false := by rfl) : QE X (.Call (.Name x p) (e :: es) [] pos) (mL g mA) := by
  obtain ⟨r, h1, h2⟩ := hc
  obtain ⟨t, h3, h4⟩ := ha
  exact ⟨_, pe_callBfun h1 hg hm h3 hdb he hpl, h2.app h4⟩
theorem vws1 {B H : Hp} {o : O} {vs : List V} (w : Vws K B H [o] vs) : ∃ v, vs = [v] ∧ Vw K B H o v := by
  rw [Vws] at w
  obtain ⟨v, r, rfl, w1, w2⟩ := w
  rw [Vws] at w2; subst w2
  exact ⟨v, rfl, w1⟩
theorem vws2 {B H : Hp} {o o' : O} {vs : List V} (w : Vws K B H [o, o'] vs) : ∃ v u, vs = [v, u] ∧ Vw K B H o v ∧ Vw K B H o' u := by
  rw [Vws] at w
  obtain ⟨v, r, rfl, w1, w2⟩ := w
  obtain ⟨u, rfl, w3⟩ := vws1 w2
  exact ⟨v, u, rfl, w1, w3⟩
def g1I (f : Int → Int) : List O → Option O
  | [.fz (.int i)] => some (.fz (.int (f i)))
  | _ => none
def gAbs : List O → Option O := g1I fun i => if i < 0 then -i else i
theorem c_abs : QC X (.builtin "abs") gAbs := ⟨_, call_abs, by
  intro H0 B0 ln Γ B H σ env s os o vs w hg Q q
  unfold gAbs g1I at hg
  split at hg
  · cases hg
    obtain ⟨v, rfl, w1⟩ := vws1 w
    have := vw_int w1
    subst this
    exact ⟨_, rfl, q _ B H (Ex.refl _) (Ex.refl _) (s.push (by rw [Rp]))⟩
  · cases hg⟩
def gInt : List O → Option O
  | [.fz (.int i)] => some (.fz (.int i))
  | [.fz (.bl b)] => some (.fz (.int (if b then 1 else 0)))
  | _ => none
theorem c_int : QC X (.type "int") gInt := ⟨_, call_int1, by
  intro H0 B0 ln Γ B H σ env s os o vs w hg Q q
  unfold gInt at hg
  split at hg
  · cases hg
    obtain ⟨v, rfl, w1⟩ := vws1 w
    have := vw_int w1
    subst this
    exact .inl ⟨_, rfl, q _ B H (Ex.refl _) (Ex.refl _) (s.push (by rw [Rp]))⟩
  · cases hg
    obtain ⟨v, rfl, w1⟩ := vws1 w
    have := vw_bl w1
    subst this
    exact .inr ⟨_, rfl, q _ B H (Ex.refl _) (Ex.refl _) (s.push (by rw [Rp]))⟩
  · cases hg⟩
def gMax2 : List O → Option O
  | [.fz (.int i), .fz (.int j)] => some (.fz (.int (if j > i then j else i)))
  | _ => none
def gMin2 : List O → Option O
  | [.fz (.int i), .fz (.int j)] => some (.fz (.int (if j < i then j else i)))
  | _ => none
theorem c_max2 (hc : X.calm = true) : QC X (.builtin "max") gMax2 := ⟨_, call_max2 hc, by
  intro H0 B0 ln Γ B H σ env s os o vs w hg Q q
  unfold gMax2 at hg
  split at hg
  · cases hg
    obtain ⟨v, u, rfl, w1, w2⟩ := vws2 w
    have e1 := vw_int w1
    have e2 := vw_int w2
    subst e1 e2
    exact ⟨_, _, rfl, q _ B H (Ex.refl _) (Ex.refl _) (s.push (by rw [Rp]))⟩
  · cases hg⟩
theorem c_min2 (hc : X.calm = true) : QC X (.builtin "min") gMin2 := ⟨_, call_min2 hc, by
  intro H0 B0 ln Γ B H σ env s os o vs w hg Q q
  unfold gMin2 at hg
  split at hg
  · cases hg
    obtain ⟨v, u, rfl, w1, w2⟩ := vws2 w
    have e1 := vw_int w1
    have e2 := vw_int w2
    subst e1 e2
    exact ⟨_, _, rfl, q _ B H (Ex.refl _) (Ex.refl _) (s.push (by rw [Rp]))⟩
  · cases hg⟩
def gGcd : List O → Option O
  | [.fz (.int i), .fz (.int j)] => some (.fz (.int ((Nat.gcd i.natAbs j.natAbs : Nat) : Int)))
  | _ => none
theorem c_gcd : QC X (.builtin "math.gcd") gGcd := ⟨_, cr_gcd, by
  intro H0 B0 ln Γ B H σ env s os o vs w hg Q q
  unfold gGcd at hg
  split at hg
  · cases hg
    obtain ⟨v, u, rfl, w1, w2⟩ := vws2 w
    have e1 := vw_int w1
    have e2 := vw_int w2
    subst e1 e2
    exact ⟨_, _, rfl, q _ B H (Ex.refl _) (Ex.refl _) (s.push (by rw [Rp]))⟩
  · cases hg⟩
def gLen : List O → Option O
  | [.fz (.tup ds)] => some (.fz (.int ds.length))
  | [.fz (.lst ds)] => some (.fz (.int ds.length))
  | [.ls os] => some (.fz (.int os.length))
  | [.fz (.str y)] => if y.length ≤ sizeLine then some (.fz (.int y.length)) else none
  | _ => none
theorem c_len : QC X (.builtin "len") gLen := ⟨_, call_len, by
  intro H0 B0 ln Γ B H σ env s os o vs w hg Q q
  unfold gLen at hg
  split at hg
  · rename_i ds
    cases hg
    obtain ⟨v, rfl, w1⟩ := vws1 w
    obtain ⟨a, vs, rfl, h1, _, h2⟩ := asT_ok s.w.bh w1 rfl
    exact ⟨_, _, rfl, .inr ⟨vs, h1, rfl⟩, q _ B H (Ex.refl _) (Ex.refl _) (s.push (by rw [Rp, h2.len]))⟩
  · rename_i ds
    cases hg
    obtain ⟨v, rfl, w1⟩ := vws1 w
    obtain ⟨a, vs, rfl, h1, h2⟩ := asL_ok s.w.bh w1 rfl
    exact ⟨_, _, rfl, .inl ⟨vs, h1, rfl⟩, q _ B H (Ex.refl _) (Ex.refl _) (s.push (by rw [Rp, ← h2.len, List.length_map]))⟩
  · rename_i ds
    cases hg
    obtain ⟨v, rfl, w1⟩ := vws1 w
    obtain ⟨a, vs, rfl, h1, h2⟩ := asL_ok s.w.bh w1 rfl
    exact ⟨_, _, rfl, .inl ⟨vs, h1, rfl⟩, q _ B H (Ex.refl _) (Ex.refl _) (s.push (by rw [Rp, h2.len]))⟩
  · split at hg
    · cases hg
      obtain ⟨v, rfl, w1⟩ := vws1 w
      have := vw_str w1
      subst this
      exact ⟨_, _, rfl, ⟨by assumption, rfl⟩, q _ B H (Ex.refl _) (Ex.refl _) (s.push (by rw [Rp]))⟩
    · cases hg
  · cases hg⟩
def gTuple : List O → Option O
  | [.fz (.tup ds)] => some (.fz (.tup ds))
  | [o] => (o.asL).bind fun os => (os.mapM O.d?).bind fun ds => some (.fz (.tup ds))
  | _ => none
theorem c_tuple : QC X (.type "tuple") gTuple := ⟨_, call_tuple_of, by
  intro H0 B0 ln Γ B H σ env s os o vs w hg Q q
  unfold gTuple at hg
  split at hg
  · rename_i ds
    cases hg
    obtain ⟨v, rfl, w1⟩ := vws1 w
    obtain ⟨a, vs, rfl, h1, h1', h2⟩ := asT_ok s.w.bh w1 rfl
    exact ⟨_, _, rfl, .inr ⟨h1, q _ B H (Ex.refl _) (Ex.refl _) (s.push (by rw [Rp]; exact ⟨a, vs, rfl, h1', h2⟩))⟩⟩
  · rename_i o1 _
    obtain ⟨os1, e1, hg⟩ := bind_some hg
    obtain ⟨ds, e2, hg⟩ := bind_some hg
    cases hg
    obtain ⟨v, rfl, w1⟩ := vws1 w
    obtain ⟨a, vs, rfl, h1, h2⟩ := asL_ok s.w.bh w1 e1
    refine ⟨_, _, rfl, .inl ⟨h1, fun p hp => ?_⟩⟩
    obtain ⟨e1, e2, s'⟩ := s.newTup (h2.dat e2) hp
    exact q _ _ _ e1 e2 s'
  · cases hg⟩
def gList : List O → Option O
  | [o] => (o.asS).bind fun os => (os.mapM O.d?).bind fun ds => some (.ls (ds.map .fz))
  | _ => none
theorem c_list : QC X (.type "list") gList := ⟨_, call_list_of, by
  intro H0 B0 ln Γ B H σ env s os o vs w hg Q q
  unfold gList at hg
  split at hg
  · rename_i o1
    obtain ⟨os1, e1, hg⟩ := bind_some hg
    obtain ⟨ds, e2, hg⟩ := bind_some hg
    cases hg
    obtain ⟨v, rfl, w1⟩ := vws1 w
    obtain ⟨a, vs, rfl, h1, h2⟩ := asS_ok s.w.bh w1 e1
    refine ⟨_, _, rfl, h1, fun p hp => ?_⟩
    obtain ⟨e2, s'⟩ := s.newLstD (h2.dat e2) hp
    exact q _ _ _ (Ex.refl _) e2 s'
  · cases hg⟩
def D.i? : D → Option Int
  | .int i => some i
  | _ => none
def D.b? : D → Option Bool
  | .bl i => some i
  | _ => none
theorem ints_ok {B : Hp} : ∀ {ds : List D} {vs : List V} {ns : List Int}, Rps K B ds vs → ds.mapM D.i? = some ns → vs = ns.map V.int
  | [], vs, ns, r, h => by
    rw [Rps] at r; subst r
    simp at h; subst h; rfl
  | d :: ds, vs, ns, r, h => by
    rw [Rps] at r
    obtain ⟨v, rr, rfl, r1, r2⟩ := r
    rw [List.mapM_cons] at h
    cases d with
    | int i =>
      cases e2 : ds.mapM D.i? with
      | none => rw [e2] at h; simp [D.i?] at h
      | some us' =>
        rw [e2] at h; simp [D.i?] at h; subst h
        rw [Rp] at r1
        rw [ints_ok r2 e2, r1]; rfl
    | _ => simp [D.i?] at h
theorem bls_ok {B : Hp} : ∀ {ds : List D} {vs : List V} {ns : List Bool}, Rps K B ds vs → ds.mapM D.b? = some ns → vs = ns.map V.bl
  | [], vs, ns, r, h => by
    rw [Rps] at r; subst r
    simp at h; subst h; rfl
  | d :: ds, vs, ns, r, h => by
    rw [Rps] at r
    obtain ⟨v, rr, rfl, r1, r2⟩ := r
    rw [List.mapM_cons] at h
    cases d with
    | bl i =>
      cases e2 : ds.mapM D.b? with
      | none => rw [e2] at h; simp [D.b?] at h
      | some us' =>
        rw [e2] at h; simp [D.b?] at h; subst h
        rw [Rp] at r1
        rw [bls_ok r2 e2, r1]; rfl
    | _ => simp [D.b?] at h
theorem mapM_int : ∀ ns : List Int, (ns.map D.int).mapM D.i? = some ns
  | [] => by simp
  | n :: ns => by rw [List.map_cons, List.mapM_cons, mapM_int ns]; rfl
theorem mapM_bl : ∀ ns : List Bool, (ns.map D.bl).mapM D.b? = some ns
  | [] => by simp
  | n :: ns => by rw [List.map_cons, List.mapM_cons, mapM_bl ns]; rfl
def gLI (f : List Int → Option O) : List O → Option O
  | [o] => (o.asL).bind fun os => (os.mapM O.d?).bind fun ds => (ds.mapM D.i?).bind f
  | _ => none
def gLB (f : List Bool → Option O) : List O → Option O
  | [o] => (o.asL).bind fun os => (os.mapM O.d?).bind fun ds => (ds.mapM D.b?).bind f
  | _ => none
theorem gLI_ok {B H : Hp} {f : List Int → Option O} {os : List O} {o : O} {vs : List V} (e : Ex B H) (w : Vws K B H os vs) (h : gLI f os = some o) : ∃ a ns, vs = [.ref a] ∧ SqL K H a (ns.map V.int) ∧ f ns = some o := by
  unfold gLI at h
  split at h
  · obtain ⟨os1, e1, h⟩ := bind_some h
    obtain ⟨ds, e2, h⟩ := bind_some h
    obtain ⟨ns, e3, h⟩ := bind_some h
    obtain ⟨v, rfl, w1⟩ := vws1 w
    obtain ⟨a, vs, rfl, h1, h2⟩ := asL_ok e w1 e1
    have := ints_ok (h2.dat e2) e3
    subst this
    exact ⟨a, ns, rfl, h1, h⟩
  · cases h
theorem gLB_ok {B H : Hp} {f : List Bool → Option O} {os : List O} {o : O} {vs : List V} (e : Ex B H) (w : Vws K B H os vs) (h : gLB f os = some o) : ∃ a ns, vs = [.ref a] ∧ SqL K H a (ns.map V.bl) ∧ f ns = some o := by
  unfold gLB at h
  split at h
  · obtain ⟨os1, e1, h⟩ := bind_some h
    obtain ⟨ds, e2, h⟩ := bind_some h
    obtain ⟨ns, e3, h⟩ := bind_some h
    obtain ⟨v, rfl, w1⟩ := vws1 w
    obtain ⟨a, vs, rfl, h1, h2⟩ := asL_ok e w1 e1
    have := bls_ok (h2.dat e2) e3
    subst this
    exact ⟨a, ns, rfl, h1, h⟩
  · cases h
def gSum : List O → Option O := gLI fun ns => some (.fz (.int ns.sum))
theorem c_sum (hc : X.calm = true) : QC X (.builtin "sum") gSum := ⟨_, cr_sum hc, by
  intro H0 B0 ln Γ B H σ env s os o vs w hg Q q
  obtain ⟨a, ns, rfl, h1, h2⟩ := gLI_ok s.w.bh w hg
  cases h2
  exact ⟨a, ns, rfl, h1, q _ B H (Ex.refl _) (Ex.refl _) (s.push (by rw [Rp]))⟩⟩
def gAll : List O → Option O := gLB fun ns => some (.fz (.bl (ns.all id)))
def gAny : List O → Option O := gLB fun ns => some (.fz (.bl (ns.any id)))
theorem c_all (hc : X.calm = true) : QC X (.builtin "all") gAll := ⟨_, cr_all hc, by
  intro H0 B0 ln Γ B H σ env s os o vs w hg Q q
  obtain ⟨a, ns, rfl, h1, h2⟩ := gLB_ok s.w.bh w hg
  cases h2
  exact ⟨a, ns, rfl, h1, q _ B H (Ex.refl _) (Ex.refl _) (s.push (by rw [Rp]))⟩⟩
theorem c_any (hc : X.calm = true) : QC X (.builtin "any") gAny := ⟨_, cr_any hc, by
  intro H0 B0 ln Γ B H σ env s os o vs w hg Q q
  obtain ⟨a, ns, rfl, h1, h2⟩ := gLB_ok s.w.bh w hg
  cases h2
  exact ⟨a, ns, rfl, h1, q _ B H (Ex.refl _) (Ex.refl _) (s.push (by rw [Rp]))⟩⟩
def sortI (ns : List Int) : List Int := ns.mergeSort (fun a b => decide (a ≤ b))
theorem sortI_unique {ns ms : List Int} (p : ms.Perm ns) (h : ms.Pairwise (· ≤ ·)) : ms = sortI ns := by
  have p2 : (sortI ns).Perm ns := List.mergeSort_perm ns _
  have h2 : (sortI ns).Pairwise (· ≤ ·) := by
    have := List.pairwise_mergeSort (le := fun a b : Int => decide (a ≤ b)) (by intro a b c; simp; omega) (by intro a b; simp; omega) ns
    exact this.imp (by intro a b; simp)
  exact List.Perm.eq_of_pairwise (le := (· ≤ ·)) (by intro a b _ _ h1 h2; omega) h h2 (p.trans p2.symm)
def gSorted : List O → Option O := gLI fun ns => some (.ls ((sortI ns).map fun i => .fz (.int i)))
theorem rps_ints {B : Hp} : ∀ ns : List Int, Rps K B (ns.map D.int) (ns.map V.int)
  | [] => Rps.nil
  | n :: ns => Rps.cons (by rw [Rp]) (rps_ints ns)
theorem c_sorted : QC X (.builtin "sorted") gSorted := ⟨_, cr_sortedI, by
  intro H0 B0 ln Γ B H σ env s os o vs w hg Q q
  obtain ⟨a, ns, rfl, h1, h2⟩ := gLI_ok s.w.bh w hg
  cases h2
  refine ⟨a, ns, rfl, h1, fun ns' p hp hw hn => ?_⟩
  have := sortI_unique hp hw
  subst this
  obtain ⟨e2, s'⟩ := s.newLstD (rps_ints (sortI ns)) hn
  rw [List.map_map] at s'
  exact q _ _ _ (Ex.refl _) e2 s'⟩
/-! ### isinstance, of what is built in -/
inductive Ty where
  | int | bool | str | tup | lst | dct
def Ty.name : Ty → String
  | .int => "int" | .bool => "bool" | .str => "str" | .tup => "tuple" | .lst => "list" | .dct => "dict"
def isiO (t : Ty) : O → Bool
  | .fz .non => false
  | .fz (.bl _) => match t with | .bool => true | .int => true | _ => false
  | .fz (.int _) => match t with | .int => true | _ => false
  | .fz (.str _) => match t with | .str => true | _ => false
  | .fz (.tup _) => match t with | .tup => true | _ => false
  | .fz (.lst _) => match t with | .lst => true | _ => false
  | .ls _ => match t with | .lst => true | _ => false
  | .fz (.dk _ _) => match t with | .dct => true | _ => false
  | .fz (.dt _ _) => match t with | .dct => true | _ => false
  | .ok _ _ => match t with | .dct => true | _ => false
  | .ot _ _ => match t with | .dct => true | _ => false
  | .fz (.xt _) => match t with | .tup => true | _ => false
  | .fz (.kt _) => match t with | .tup => true | _ => false
  | .fz (.ins _ _ _) => false
def gIsi (t : Ty) : List O → Option O
  | [o] => some (.fz (.bl (isiO t o)))
  | _ => none
theorem tyL {H : Hp} {a : Addr} {xs : List V} (h : SqL K H a xs) : TyX K H (.ref a) (.type "list") := by
  rcases h with (h | ⟨o, h⟩) | ⟨o, its, n, h1, h2, _⟩
  · exact .base (.lst h)
  · exact .base (.frz h)
  · exact .kList h1 h2
theorem tyT {H : Hp} {a : Addr} {xs : List V} (h : SqT K H a xs) : TyX K H (.ref a) (.type "tuple") := by
  rcases h with (h | ⟨o, h⟩) | ⟨o, its, n, h1, h2, _⟩
  · exact .base (.tup h)
  · exact .fTuple h
  · exact .kTuple h1 h2
theorem kitN (t : Ty) : kitB "NoneType" t.name = some false := by cases t <;> decide +kernel
theorem kitBl (t : Ty) : kitB "bool" t.name = some (match t with | .bool => true | .int => true | _ => false) := by cases t <;> decide +kernel
theorem kitI (t : Ty) : kitB "int" t.name = some (match t with | .int => true | _ => false) := by cases t <;> decide +kernel
theorem kitS (t : Ty) : kitB "str" t.name = some (match t with | .str => true | _ => false) := by cases t <;> decide +kernel
theorem kitT (t : Ty) : kitB "tuple" t.name = some (match t with | .tup => true | _ => false) := by cases t <;> decide +kernel
theorem kitL (t : Ty) : kitB "list" t.name = some (match t with | .lst => true | _ => false) := by cases t <;> decide +kernel
theorem kitD (t : Ty) : kitB "dict" t.name = some (match t with | .dct => true | _ => false) := by cases t <;> decide +kernel
theorem isi_ok {B H : Hp} (e : Ex B H) (t : Ty) {o : O} {v : V} (w : Vw K B H o v) : ∃ u, TyX K H v u ∧ PySem.W.kitOne K u (.type t.name) = some (isiO t o) := by
  cases o with
  | fz d =>
    rw [Vw] at w
    cases d with
    | non => rw [Rp] at w; subst w; exact ⟨_, .base .non, kit_ty (kitN t)⟩
    | bl b => rw [Rp] at w; subst w; exact ⟨_, .base (.bl b), kit_ty (kitBl t)⟩
    | int b => rw [Rp] at w; subst w; exact ⟨_, .base (.int b), kit_ty (kitI t)⟩
    | str b => rw [Rp] at w; subst w; exact ⟨_, .base (.str b), kit_ty (kitS t)⟩
    | tup b => rw [Rp] at w; obtain ⟨a, vs, rfl, h1, h2⟩ := w; exact ⟨_, tyT (e.t h1), kit_ty (kitT t)⟩
    | lst b => rw [Rp] at w; obtain ⟨a, vs, rfl, h1, h2⟩ := w; exact ⟨_, tyL (e.l h1), kit_ty (kitL t)⟩
    | dk b c => rw [Rp] at w; obtain ⟨a, vs, rfl, h1, h2⟩ := w; exact ⟨_, .base (.dK (e _ _ h1)), kit_ty (kitD t)⟩
    | dt b c => rw [Rp] at w; obtain ⟨a, vs, rfl, h1, h2⟩ := w; exact ⟨_, .base (.dT (e _ _ h1)), kit_ty (kitD t)⟩
    | xt b => rw [Rp] at w; obtain ⟨a, vs, o, rfl, h1, h2⟩ := w; exact ⟨_, .fTuple (e _ _ h1), kit_ty (kitT t)⟩
    | kt b => rw [Rp] at w; obtain ⟨a, rfl, h1⟩ := w; exact ⟨_, .base (.tup (e _ _ h1)), kit_ty (kitT t)⟩
    | ins x ns ds =>
      rw [Rp] at w
      obtain ⟨a, C, dx, vs, rfl, h1, h2, ic, h3, h4⟩ := w
      exact ⟨_, .base (.ins (e _ _ h1) ic.cl ic.ha ic.hn ic.htk ic.hm), by cases t <;> exact ic.kt _ (by decide)⟩
  | ls os => rw [Vw] at w; obtain ⟨a, vs, rfl, h1, h2⟩ := w; exact ⟨_, .base (.lst h1), kit_ty (kitL t)⟩
  | ok b c => rw [Vw] at w; obtain ⟨a, vs, rfl, h1, h2⟩ := w; exact ⟨_, .base (.dK h1), kit_ty (kitD t)⟩
  | ot b c => rw [Vw] at w; obtain ⟨a, vs, rfl, h1, h2⟩ := w; exact ⟨_, .base (.dT h1), kit_ty (kitD t)⟩
/-- isinstance(e, T) -/
theorem qe_isi (t : Ty) {y : Str} {py : Pos} (hg : Gl X "isinstance") (hm : X.mg "isinstance" = none) (ha : QV X e ma) (hgy : Gl X y) (hmy : X.mg y = none) (hvy : bootBuiltins y = some (.type t.name)) (hn : y ≠ "__name__" := by decide) (hdb : (y == ("__debug__" : Str)) = false := by decide)
    (he1 : starEach [e, .Name y py] X.env = (false, eval e X.env) :: starEach [.Name y py] X.env := by rfl) (he2 : starEach [.Name y py] X.env = (false, eval (.Name y py) X.env) :: starEach [] X.env := by rfl) (hpl : (backTo pos (starEach [.Name y py] X.env)).any (·.1) = false := by rfl) :
    QE X (.Call (.Name "isinstance" p) [e, .Name y py] [] pos) (m1 (fun o => some (.fz (.bl (isiO t o)))) ma) := by
  obtain ⟨u, h1, h2⟩ := ha
  refine ⟨_, pe_callB call_isi hg hm (by decide +kernel) (pa_cons h1 (pa_cons (pe_bltn (v := .ty t.name) hgy hmy hvy rfl hn hdb) pa_nil he2) he1) (by decide) (by decide) he1 hpl, fun H0 B0 ln Γ B H σ env s o env' em Q q => ?_⟩
  obtain ⟨z, em1, em⟩ := bind_some em
  obtain ⟨z2, em2, em⟩ := bind_some em
  cases em2
  cases em
  refine h2 H0 B0 ln Γ B H σ env s _ _ em1 _ fun v B1 H1 e1 e2 s1 w1 => ?_
  obtain ⟨u, tx, k⟩ := isi_ok s1.w.bh t w1
  exact ⟨v, .ty t.name, u, .type t.name, _, rfl, .ty _, tx, k, q _ B1 H1 e1 e2 (s1.push (by rw [Rp]))⟩
end
end Q

set_option Elab.async false
set_option linter.all false
set_option maxRecDepth 100000
set_option maxHeartbeats 1000000
namespace Q
open PySem L2 PyProof.Rows RZ

/-! ### what is walked -/
/-- J gives the data ds, one by one, while G stands -/
structure WalkD (K : PySem.W.Frag) (J : It) (G : Hp → Prop) (B : Hp) (ds : List D) : Prop where
  go : ∀ i H, i < ds.length → G H → J.go i H
  stop : ∀ H, G H → J.stop ds.length H
  yld : ∀ i d H x H' B1, ds[i]? = some d → G H → Ex B B1 → Ex B1 H → J.yld i H x H' → ∃ B2, Wd H B1 B2 H' ∧ Rp K B2 d x
theorem WalkD.mono {K : PySem.W.Frag} {J : It} {G G' : Hp → Prop} {B : Hp} {ds : List D} (w : WalkD K J G B ds) (h : ∀ H, G' H → G H) : WalkD K J G' B ds :=
  ⟨fun i H hi g => w.go i H hi (h H g), fun H g => w.stop H (h H g), fun i d H x H' B1 e g => w.yld i d H x H' B1 e (h H g)⟩
theorem walkD_list {K : PySem.W.Frag} {a : Addr} {vs : List V} {B : Hp} {ds : List D} (r : Rps K B ds vs) : WalkD K (Itl K a) (fun H => SqL K H a vs) B ds where
  go := fun i H hi g => ⟨vs, vs[i]'(by rw [← r.len]; exact hi), g, by simp⟩
  stop := fun H g => ⟨vs, g, by rw [r.len]; exact Nat.le_refl _⟩
  yld := fun i d H x H' B1 e g e1 e2 y => by
    obtain ⟨rfl, y⟩ := y
    obtain ⟨v, h1, h2⟩ := r.get e
    have := y vs g
    rw [h1] at this; cases this
    exact ⟨B1, Wd.refl e2, Rp.mono e1 _ _ h2⟩
theorem walkD_tup {K : PySem.W.Frag} {a : Addr} {vs : List V} {B : Hp} {ds : List D} (r : Rps K B ds vs) : WalkD K (Itt K a) (fun H => SqT K H a vs) B ds where
  go := fun i H hi g => ⟨vs, vs[i]'(by rw [← r.len]; exact hi), g, by simp⟩
  stop := fun H g => ⟨vs, g, by rw [r.len]; exact Nat.le_refl _⟩
  yld := fun i d H x H' B1 e g e1 e2 y => by
    obtain ⟨rfl, y⟩ := y
    obtain ⟨v, h1, h2⟩ := r.get e
    have := y vs g
    rw [h1] at this; cases this
    exact ⟨B1, Wd.refl e2, Rp.mono e1 _ _ h2⟩
def rangeD (lo : Int) (n : Nat) : List D := (List.range n).map fun i => .int (lo + (i : Nat))
theorem walkD_range {K : PySem.W.Frag} {lo : Int} {n : Nat} {B : Hp} : WalkD K (Itr lo n) (fun _ => True) B (rangeD lo n) where
  go := fun i H hi g => (by simpa [rangeD] using hi : i < n)
  stop := fun H g => by simp [rangeD, Itr]
  yld := fun i d H x H' B1 e g e1 e2 y => by
    obtain ⟨rfl, rfl⟩ := y
    refine ⟨B1, Wd.refl e2, ?_⟩
    unfold rangeD at e
    rw [List.getElem?_map] at e
    obtain ⟨j, h1, h2⟩ := Option.map_eq_some_iff.mp e
    have : j = i := by
      have := List.getElem?_eq_some_iff.mp h1
      obtain ⟨h3, h4⟩ := this
      simpa using h4.symm
    subst this
    rw [← h2, Rp]
def rangeC (lo c : Int) (n : Nat) : List D := (List.range n).map fun i => .int (lo + (i : Nat) * c)
theorem walkD_rangeC {K : PySem.W.Frag} {lo c : Int} {n : Nat} {B : Hp} : WalkD K (Itc lo c n) (fun _ => True) B (rangeC lo c n) where
  go := fun i H hi g => (by simpa [rangeC] using hi : i < n)
  stop := fun H g => by simp [rangeC, Itc]
  yld := fun i d H x H' B1 e g e1 e2 y => by
    obtain ⟨rfl, rfl⟩ := y
    refine ⟨B1, Wd.refl e2, ?_⟩
    unfold rangeC at e
    rw [List.getElem?_map] at e
    obtain ⟨j, h1, h2⟩ := Option.map_eq_some_iff.mp e
    have : j = i := by
      have := List.getElem?_eq_some_iff.mp h1
      obtain ⟨h3, h4⟩ := this
      simpa using h4.symm
    subst this
    rw [← h2, Rp]
def strD (z : Str) : List D := z.cps.toList.map fun c => .str ⟨#[c]⟩
theorem walkD_str {K : PySem.W.Frag} {z : Str} {B : Hp} : WalkD K (Its z) (fun _ => True) B (strD z) where
  go := fun i H hi g => (by simpa [strD] using hi : i < z.cps.size)
  stop := fun H g => by simp [strD, Its]
  yld := fun i d H x H' B1 e g e1 e2 y => by
    obtain ⟨rfl, c, hc, rfl⟩ := y
    refine ⟨B1, Wd.refl e2, ?_⟩
    unfold strD at e
    rw [List.getElem?_map] at e
    obtain ⟨j, h1, h2⟩ := Option.map_eq_some_iff.mp e
    rw [Array.getElem?_toList, hc] at h1
    cases h1
    rw [← h2, Rp]
def zipD (ds es : List D) : List D := (ds.zip es).map fun p => .tup [p.1, p.2]
def enumD (ds : List D) : List D := (List.range ds.length).zip ds |>.map fun p => .tup [.int (p.1 : Nat), p.2]
theorem pair_new {K : PySem.W.Frag} {H H' B1 : Hp} {x y v : V} {d e : D} {T : Addr} (e2 : Ex B1 H) (hT : H T = none) (hH : H' = upd H T (.tup [x, y])) (hv : v = .ref T) (hx : Rp K B1 d x) (hy : Rp K B1 e y) : ∃ B2, Wd H B1 B2 H' ∧ Rp K B2 (.tup [d, e]) v := by
  subst hH hv
  have w := Wd.new (x := .tup [x, y]) e2 hT
  refine ⟨_, w, ?_⟩
  rw [Rp]
  exact ⟨T, _, rfl, SqT.of upd_same, Rps.cons (Rp.mono w.b0 _ _ hx) (Rps.one (Rp.mono w.b0 _ _ hy))⟩
theorem zip_get {α β : Type} {xs : List α} {ys : List β} {i : Nat} {p : α × β} (h : (xs.zip ys)[i]? = some p) : xs[i]? = some p.1 ∧ ys[i]? = some p.2 := by
  rw [List.getElem?_zip_eq_some] at h; exact h
theorem walkD_zip {K : PySem.W.Frag} {a b : Addr} {vs us : List V} {B : Hp} {ds es : List D} (r : Rps K B ds vs) (r' : Rps K B es us) : WalkD K (Itz K a b) (fun H => SqL K H a vs ∧ SqL K H b us) B (zipD ds es) where
  go := fun i H hi g => by
    have h1 : i < ds.length ∧ i < es.length := by
      have : (zipD ds es).length = min ds.length es.length := by simp [zipD]
      omega
    exact ⟨vs, us, vs[i]'(by rw [← r.len]; exact h1.1), us[i]'(by rw [← r'.len]; exact h1.2), g.1, g.2, by simp, by simp⟩
  stop := fun H g => ⟨vs, us, g.1, g.2, by
    have : (zipD ds es).length = min ds.length es.length := by simp [zipD]
    rw [this, ← r.len, ← r'.len]; omega⟩
  yld := fun i d H x H' B1 e g e1 e2 y => by
    obtain ⟨T, u, w, hv, hT, hH, y1, y2⟩ := y
    unfold zipD at e
    rw [List.getElem?_map] at e
    obtain ⟨p, h1, rfl⟩ := Option.map_eq_some_iff.mp e
    obtain ⟨h2, h3⟩ := zip_get h1
    obtain ⟨v1, g1, g2⟩ := r.get h2
    obtain ⟨v2, g3, g4⟩ := r'.get h3
    have q1 := y1 vs g.1
    have q2 := y2 us g.2
    rw [g1] at q1; cases q1
    rw [g3] at q2; cases q2
    exact pair_new e2 hT hH hv (Rp.mono e1 _ _ g2) (Rp.mono e1 _ _ g4)
theorem walkD_zipT {K : PySem.W.Frag} {a b : Addr} {vs us : List V} {B : Hp} {ds es : List D} (r : Rps K B ds vs) (r' : Rps K B es us) : WalkD K (ItzT K a b) (fun H => SqT K H a vs ∧ SqT K H b us) B (zipD ds es) where
  go := fun i H hi g => by
    have h1 : i < ds.length ∧ i < es.length := by
      have : (zipD ds es).length = min ds.length es.length := by simp [zipD]
      omega
    exact ⟨vs, us, vs[i]'(by rw [← r.len]; exact h1.1), us[i]'(by rw [← r'.len]; exact h1.2), g.1, g.2, by simp, by simp⟩
  stop := fun H g => ⟨vs, us, g.1, g.2, by
    have : (zipD ds es).length = min ds.length es.length := by simp [zipD]
    rw [this, ← r.len, ← r'.len]; omega⟩
  yld := fun i d H x H' B1 e g e1 e2 y => by
    obtain ⟨T, u, w, hv, hT, hH, y1, y2⟩ := y
    unfold zipD at e
    rw [List.getElem?_map] at e
    obtain ⟨p, h1, rfl⟩ := Option.map_eq_some_iff.mp e
    obtain ⟨h2, h3⟩ := zip_get h1
    obtain ⟨v1, g1, g2⟩ := r.get h2
    obtain ⟨v2, g3, g4⟩ := r'.get h3
    have q1 := y1 vs g.1
    have q2 := y2 us g.2
    rw [g1] at q1; cases q1
    rw [g3] at q2; cases q2
    exact pair_new e2 hT hH hv (Rp.mono e1 _ _ g2) (Rp.mono e1 _ _ g4)
theorem walkD_enum {K : PySem.W.Frag} {a : Addr} {vs : List V} {B : Hp} {ds : List D} (r : Rps K B ds vs) : WalkD K (Ite K a) (fun H => SqL K H a vs) B (enumD ds) where
  go := fun i H hi g => by
    have h1 : i < ds.length := by simpa [enumD] using hi
    exact ⟨vs, vs[i]'(by rw [← r.len]; exact h1), g, by simp⟩
  stop := fun H g => ⟨vs, g, by
    have : (enumD ds).length = ds.length := by simp [enumD]
    rw [this, r.len]; exact Nat.le_refl _⟩
  yld := fun i d H x H' B1 e g e1 e2 y => by
    obtain ⟨T, u, hv, hT, hH, y1⟩ := y
    unfold enumD at e
    rw [List.getElem?_map] at e
    obtain ⟨p, h1, rfl⟩ := Option.map_eq_some_iff.mp e
    obtain ⟨h2, h3⟩ := zip_get h1
    obtain ⟨v1, g1, g2⟩ := r.get h3
    have q1 := y1 vs g
    rw [g1] at q1; cases q1
    have hi : p.1 = i := by
      obtain ⟨h4, h5⟩ := List.getElem?_eq_some_iff.mp h2
      simpa using h5.symm
    rw [hi]
    exact pair_new e2 hT hH hv (by rw [Rp]) (Rp.mono e1 _ _ g2)
/-- what an iterable means: fz, that it stands whatever the frame does (for a loop); else while nothing is written (for a comprehension) -/
def SI (K : PySem.W.Frag) (fz : Bool) (wi : TI) (m : EM (List D)) : Prop :=
  ∀ (H0 B0 : Hp) (ln : Nat → Option V) (Γ : List (O × V)) (B H : Hp) (σ : L2.St) (env : En), Stt K H0 B0 ln Γ B H σ env → ∀ ds env', m env = some (ds, env') → ∀ R : It → Hp → Prop,
    (∀ J B' H', Ex B B' → Ex H H' → Stt K H0 B0 ln Γ B' H' σ env' → WalkD K J (fun H2 => if fz = true then Ex B' H2 else Ex H' H2) B' ds → R J H') → wi σ H R
def QI (X : Cx) (fz : Bool) (tg iter : Expr) (m : EM (List D)) : Prop := ∃ wi, PI X tg iter wi ∧ SI X.K fz wi m
def iAny (K : PySem.W.Frag) (te : TE) : TI := fun σ H R => te σ H fun x H1 => (∃ a xs, x = .ref a ∧ SqL K H1 a xs ∧ R (Itl K a) H1) ∨ (∃ a xs, x = .ref a ∧ SqT K H1 a xs ∧ R (Itt K a) H1) ∨ ∃ z, x = .str z ∧ R (Its z) H1
section
variable {X : Cx} {tg e : Expr} {te : TE} {m : EM O}
theorem pi_any (he : PE X e te) : PI X tg e (iAny X.K te) := by
  refine ⟨?_⟩
  intro pins s σ H R I h
  refine thn (he.run pins s σ H _ I h) ?_
  rintro v s1 ⟨x, H1, I1, r1, q | q | q⟩
  · obtain ⟨a, xs, rfl, hq, q⟩ := q
    cases r1
    obtain ⟨its, rv, p, hz⟩ := I1.list hq
    exact wpAny_pyIter_list p.isList (pi_one (tk := s1.toks) I1 _ (turn_list a _) ⟨_, Heap.get?_push_size _ rfl, rfl, rfl⟩ q)
  · obtain ⟨a, xs, rfl, hq, q⟩ := q
    cases r1
    obtain ⟨its, rv, p, hz⟩ := I1.tuple hq
    exact wpAny_pyIter_tuple p (pi_one (tk := s1.toks) I1 _ (turn_tuple a _) ⟨_, Heap.get?_push_size _ rfl, rfl, rfl⟩ q)
  · obtain ⟨z, rfl, q⟩ := q
    obtain ⟨t, rfl⟩ := r1
    cases ha : z.cps.all (· < 128)
    · exact wpAny_pyIter_wide ha (pi_one (tk := s1.toks) I1 _ (turn_str _ z t "str_iterator" (.inr rfl)) ⟨_, Heap.get?_push_size _ rfl, rfl, rfl⟩ q)
    · exact wpAny_pyIter_ascii ha (pi_one (tk := s1.toks) I1 _ (turn_str _ z t "str_ascii_iterator" (.inl rfl)) ⟨_, Heap.get?_push_size _ rfl, rfl, rfl⟩ q)
def D.items : D → Option (List D)
  | .lst ds => some ds
  | .tup ds => some ds
  | .str z => some (strD z)
  | _ => none
def mItF (m : EM O) : EM (List D) := fun env => (m env).bind fun p => (p.1.frz.items).bind fun ds => some (ds, p.2)
def O.items : O → Option (List D)
  | .fz d => d.items
  | .ls os => os.mapM O.d?
  | _ => none
def mItV (m : EM O) : EM (List D) := fun env => (m env).bind fun p => (p.1.items).bind fun ds => some (ds, p.2)
theorem itemsD_ok {K : PySem.W.Frag} {B H : Hp} {d : D} {v : V} {ds : List D} {Q : It → Prop} (e : Ex B H) (r : Rp K B d v) (h : d.items = some ds) (q : ∀ J, WalkD K J (fun H2 => Ex B H2) B ds → Q J) :
    (∃ a xs, v = .ref a ∧ SqL K H a xs ∧ Q (Itl K a)) ∨ (∃ a xs, v = .ref a ∧ SqT K H a xs ∧ Q (Itt K a)) ∨ ∃ z, v = .str z ∧ Q (Its z) := by
  unfold D.items at h
  split at h
  · cases h
    rw [Rp] at r
    obtain ⟨a, vs, rfl, h1, h2⟩ := r
    exact .inl ⟨a, vs, rfl, e.l h1, q _ ((walkD_list h2).mono fun H2 g => g.l h1)⟩
  · cases h
    rw [Rp] at r
    obtain ⟨a, vs, rfl, h1, h2⟩ := r
    exact .inr (.inl ⟨a, vs, rfl, e.t h1, q _ ((walkD_tup h2).mono fun H2 g => g.t h1)⟩)
  · cases h
    rw [Rp] at r
    exact .inr (.inr ⟨_, r, q _ (walkD_str.mono fun _ _ => trivial)⟩)
  · cases h
/-- for x in e: e is given away -/
theorem qi_frz (h : QE X e m) : QI X true tg e (mItF m) := by
  obtain ⟨t, h1, h2⟩ := h
  refine ⟨_, pi_any h1, fun H0 B0 ln Γ B H σ env s ds env' em R q => ?_⟩
  obtain ⟨p, em1, em⟩ := bind_some em
  obtain ⟨ds', em2, em⟩ := bind_some em
  cases em
  refine h2 H0 B0 ln Γ B H σ env s _ _ em1 _ fun v B1 H1 e1 e2 s1 => ?_
  obtain ⟨B2, e3, s2⟩ := s1.frz
  exact itemsD_ok s2.w.bh s2.rp em2 fun J w => q J B2 H1 (e1.trans e3) e2 s2.pop (w.mono fun H2 g => by rw [if_pos rfl] at g; exact g)
/-- in a comprehension: e is only seen -/
theorem qi_vw (h : QV X e m) : QI X false tg e (mItV m) := by
  obtain ⟨t, h1, h2⟩ := h
  refine ⟨_, pi_any h1, fun H0 B0 ln Γ B H σ env s ds env' em R q => ?_⟩
  obtain ⟨p, em1, em⟩ := bind_some em
  obtain ⟨ds', em2, em⟩ := bind_some em
  cases em
  refine h2 H0 B0 ln Γ B H σ env s _ _ em1 _ fun v B1 H1 e1 e2 s1 w1 => ?_
  obtain ⟨o, env1⟩ := p
  have sh : ∀ J G, WalkD X.K J G B1 ds → (∀ H2, Ex H1 H2 → G H2) → R J H1 := fun J G w hg => q J B1 H1 e1 e2 s1 (w.mono fun H2 g => hg H2 (by simpa using g))
  cases o with
  | fz d =>
    rw [Vw] at w1
    exact itemsD_ok s1.w.bh w1 em2 fun J w => sh J _ w fun H2 g => s1.w.bh.trans g
  | ls os =>
    obtain ⟨a, vs, rfl, g1, g2⟩ := asO_ok w1
    exact .inl ⟨a, vs, rfl, SqL.of g1, sh _ _ (walkD_list (g2.dat em2)) fun H2 g => SqL.of (g _ _ g1)⟩
  | _ => cases em2
variable {a b c : Expr} {p pos : Pos} {mA : EM (List O)} {fz : Bool}
theorem p62 : (4611686018427387904 : Int) = 2 ^ 62 := by decide +kernel
def mR1 (m : EM (List O)) : EM (List D) := fun env => (m env).bind fun p => match p.1 with
  | [.fz (.int j)] => if -4611686018427387904 ≤ j ∧ j < 4611686018427387904 then some (rangeD 0 j.toNat, p.2) else none
  | _ => none
def mR2 (m : EM (List O)) : EM (List D) := fun env => (m env).bind fun p => match p.1 with
  | [.fz (.int i), .fz (.int j)] => if -4611686018427387904 ≤ i ∧ i < 4611686018427387904 ∧ -4611686018427387904 ≤ j ∧ j < 4611686018427387904 then some (rangeD i (j - i).toNat, p.2) else none
  | _ => none
theorem qi_range1 (hg : Gl X "range") (hm : X.mg "range" = none) (ha : QVA X [a] mA) (hs : starEach [a] X.env = [(false, eval a X.env)] := by rfl) : QI X fz tg (.Call (.Name "range" p) [a] [] pos) (mR1 mA) := by
  obtain ⟨t, h1, h2⟩ := ha
  refine ⟨_, pi_range1 hg hm h1 hs, fun H0 B0 ln Γ B H σ env s ds env' em R q => ?_⟩
  obtain ⟨p, em1, em⟩ := bind_some em
  obtain ⟨os, env1⟩ := p
  refine h2 H0 B0 ln Γ B H σ env s _ _ em1 _ fun vs B1 H1 e1 e2 s1 w1 => ?_
  split at em
  · rename_i j hj
    have hj' : os = [.fz (.int j)] := hj
    subst hj'
    split at em
    · rename_i hb
      cases em
      obtain ⟨v, rfl, w2⟩ := vws1 w1
      have := vw_int w2
      subst this
      exact ⟨j, rfl, p62 ▸ hb.1, p62 ▸ hb.2, q _ B1 H1 e1 e2 s1 (walkD_range.mono fun _ _ => trivial)⟩
    · cases em
  · cases em
theorem qi_range2 (hg : Gl X "range") (hm : X.mg "range" = none) (ha : QVA X [a, b] mA) (hs : starEach [a, b] X.env = [(false, eval a X.env), (false, eval b X.env)] := by rfl) (hs2 : starEach [b] X.env = [(false, eval b X.env)] := by rfl) :
    QI X fz tg (.Call (.Name "range" p) [a, b] [] pos) (mR2 mA) := by
  obtain ⟨t, h1, h2⟩ := ha
  refine ⟨_, pi_range2 hg hm h1 hs hs2, fun H0 B0 ln Γ B H σ env s ds env' em R q => ?_⟩
  obtain ⟨p, em1, em⟩ := bind_some em
  obtain ⟨os, env1⟩ := p
  refine h2 H0 B0 ln Γ B H σ env s _ _ em1 _ fun vs B1 H1 e1 e2 s1 w1 => ?_
  split at em
  · rename_i i j hj
    have hj' : os = [.fz (.int i), .fz (.int j)] := hj
    subst hj'
    split at em
    · rename_i hb
      cases em
      obtain ⟨v, u, rfl, w2, w3⟩ := vws2 w1
      have := vw_int w2
      subst this
      have := vw_int w3
      subst this
      exact ⟨i, j, rfl, p62 ▸ hb, q _ B1 H1 e1 e2 s1 (walkD_range.mono fun _ _ => trivial)⟩
    · cases em
  · cases em
/-- zip, enumerate over what is seen -/
def mZipV (m : EM (List O)) : EM (List D) := fun env => (m env).bind fun p => match p.1 with
  | [o1, o2] => match o1, o2 with
    | .fz (.tup ds), .fz (.tup es) => some (zipD ds es, p.2)
    | _, _ => (o1.asL).bind fun l1 => (o2.asL).bind fun l2 => (l1.mapM O.d?).bind fun ds => (l2.mapM O.d?).bind fun es => some (zipD ds es, p.2)
  | _ => none
theorem qi_zipV {elts : List Expr} {kk : Nat} {tpos : Pos} (hg : Gl X "zip") (hm : X.mg "zip" = none) (ha : QVA X [a, b] mA) (hs : starEach [a, b] X.env = (false, eval a X.env) :: starEach [b] X.env := by rfl)
    (hpl : (backTo pos (starEach [b] X.env)).any (·.1) = false := by rfl) : QI X false (.Tuple elts kk tpos) (.Call (.Name "zip" p) [a, b] [] pos) (mZipV mA) := by
  obtain ⟨t, h1, h2⟩ := ha
  refine ⟨_, pi_zipA hg hm h1 hs hpl, fun H0 B0 ln Γ B H σ env s ds env' em R q => ?_⟩
  obtain ⟨p, em1, em⟩ := bind_some em
  obtain ⟨os, env1⟩ := p
  refine h2 H0 B0 ln Γ B H σ env s _ _ em1 _ fun vs B1 H1 e1 e2 s1 w1 => ?_
  split at em
  · rename_i o1 o2 hj
    have hj' : os = [o1, o2] := hj
    subst hj'
    obtain ⟨v, u, rfl, w2, w3⟩ := vws2 w1
    split at em
    · cases em
      obtain ⟨x1, vs, rfl, g1, g1', g2⟩ := asT_ok s1.w.bh w2 rfl
      obtain ⟨x2, us, rfl, g3, g3', g4⟩ := asT_ok s1.w.bh w3 rfl
      refine ⟨x1, x2, vs, us, rfl, .inr ⟨g1, g3, q _ B1 H1 e1 e2 s1 ((walkD_zipT g2 g4).mono fun H2 g => ?_)⟩⟩
      have g : Ex H1 H2 := by simpa using g
      exact ⟨g.t g1, g.t g3⟩
    · obtain ⟨l1, f1, em⟩ := bind_some em
      obtain ⟨l2, f2, em⟩ := bind_some em
      obtain ⟨ds', f3, em⟩ := bind_some em
      obtain ⟨es', f4, em⟩ := bind_some em
      cases em
      obtain ⟨x1, vs, rfl, g1, g2⟩ := asL_ok s1.w.bh w2 f1
      obtain ⟨x2, us, rfl, g3, g4⟩ := asL_ok s1.w.bh w3 f2
      refine ⟨x1, x2, vs, us, rfl, .inl ⟨g1, g3, q _ B1 H1 e1 e2 s1 ((walkD_zip (g2.dat f3) (g4.dat f4)).mono fun H2 g => ?_)⟩⟩
      have g : Ex H1 H2 := by simpa using g
      exact ⟨g.l g1, g.l g3⟩
  · cases em
/-! ### targets: names, tuples of such -/
def SG (K : PySem.W.Frag) (g : TG) (ws : List Nat) (gs : D → En → Option En) : Prop :=
  ∀ (H0 B0 : Hp) (ln : Nat → Option V) (Γ : List (O × V)) (B H : Hp) (σ : L2.St) (env : En), Stt K H0 B0 ln Γ B H σ env → ∀ d v env', Rp K B d v → gs d env = some env' → ∀ Q : L2.St → Hp → Prop,
    (∀ σ', Stt K H0 B0 ln Γ B H σ' env' → σ'.length = σ.length → (∀ j, j ∉ ws → σ'[j]? = σ[j]?) → Q σ' H) → g v σ H Q
def QG (X : Cx) (tg : Expr) (ws : List Nat) (gs : D → En → Option En) : Prop := ∃ g, PG X tg g ∧ SG X.K g ws gs
def gsName (i : Nat) : D → En → Option En := fun d env => if i < env.length then some (env.set i (.has (.fz d))) else none
theorem qg_name {i : Nat} {x : Str} (hN : X.N.Nodup) (hi : X.N[i]? = some x) (hx : Loc X.env.scope x := by first | exact Or.inl rfl | exact Or.inr rfl) (hf : X.fn x = true ∨ X.env.scope.names.lookup x = some .local := by first | exact .inl rfl | exact .inr rfl | assumption) : QG X (.Name x pos) [i] (gsName i) := by
  refine ⟨_, pg_name hN hi hx hf, fun H0 B0 ln Γ B H σ env s d v env' r em Q q => ?_⟩
  unfold gsName at em
  split at em
  · rename_i hl
    cases em
    refine q _ ((s.push r).store hl) (by simp) fun j hj => ?_
    rw [List.getElem?_set_ne (fun e => hj (by simp [e]))]
  · cases em
def SGs (K : PySem.W.Frag) (g : TGs) (ws : List Nat) (gs : List D → En → Option En) : Prop :=
  ∀ (H0 B0 : Hp) (ln : Nat → Option V) (Γ : List (O × V)) (B H : Hp) (σ : L2.St) (env : En), Stt K H0 B0 ln Γ B H σ env → ∀ ds vs env', Rps K B ds vs → gs ds env = some env' → ∀ Q : L2.St → Hp → Prop,
    (∀ σ', Stt K H0 B0 ln Γ B H σ' env' → σ'.length = σ.length → (∀ j, j ∉ ws → σ'[j]? = σ[j]?) → Q σ' H) → g vs σ H Q
def QGs (X : Cx) (ts : List Expr) (ws : List Nat) (gs : List D → En → Option En) : Prop := ∃ g, PGs X ts g ∧ SGs X.K g ws gs
def gsNil : List D → En → Option En := fun ds env => match ds with
  | [] => some env
  | _ => none
def gsCons (g : D → En → Option En) (r : List D → En → Option En) : List D → En → Option En := fun ds env => match ds with
  | d :: ds => (g d env).bind fun e => r ds e
  | _ => none
def gsTup (n : Nat) (r : List D → En → Option En) : D → En → Option En := fun d env => match d with
  | .tup ds => if ds.length = n then r ds env else none
  | _ => none
theorem qgs_nil : QGs X [] [] gsNil := ⟨_, pgs_nil, fun H0 B0 ln Γ B H σ env s ds vs env' r em Q q => by
  cases ds with
  | nil =>
    cases em
    rw [Rps] at r
    exact ⟨r, q σ s rfl fun _ _ => rfl⟩
  | cons _ _ => cases em⟩
theorem qgs_cons {es : List Expr} {ws us : List Nat} {gs : D → En → Option En} {gr : List D → En → Option En} (h1 : QG X e ws gs) (h2 : QGs X es us gr)
    (hs : (assignEach (e :: es) X.env).map (·.2) = assign e X.env :: (assignEach es X.env).map (·.2) := by rfl) : QGs X (e :: es) (ws ++ us) (gsCons gs gr) := by
  obtain ⟨g, g1, g2⟩ := h1
  obtain ⟨f, f1, f2⟩ := h2
  refine ⟨_, pgs_cons g1 f1 hs, fun H0 B0 ln Γ B H σ env s ds vs env' r em Q q => ?_⟩
  cases ds with
  | nil => cases em
  | cons d ds =>
    rw [Rps] at r
    obtain ⟨v, rr, rfl, r1, r2⟩ := r
    obtain ⟨env1, em1, em⟩ := bind_some em
    refine ⟨v, rr, rfl, g2 H0 B0 ln Γ B H σ env s d v _ r1 em1 _ fun σ1 s1 l1 k1 => ?_⟩
    refine f2 H0 B0 ln Γ B H σ1 _ s1 ds rr _ r2 em Q fun σ2 s2 l2 k2 => q σ2 s2 (l2.trans l1) fun j hj => ?_
    rw [k2 j (fun z => hj (by simp [z])), k1 j (fun z => hj (by simp [z]))]
theorem qg_tup {es : List Expr} {k n : Nat} {us : List Nat} {gr : List D → En → Option En} (hc : X.calm = true) (h : QGs X es us gr) (hn : (assignEach es X.env).length = n := by rfl) (hst : (assignEach es X.env).findIdx? (·.1) = none := by rfl) :
    QG X (.Tuple es k pos) us (gsTup n gr) := by
  obtain ⟨f, f1, f2⟩ := h
  refine ⟨_, pg_tup hc f1 hn hst, fun H0 B0 ln Γ B H σ env s d v env' r em Q q => ?_⟩
  cases d with
  | tup ds =>
    have em' : (if ds.length = n then gr ds env else none) = some env' := em
    split at em'
    · rename_i hl
      rw [Rp] at r
      obtain ⟨a, vs, rfl, g1, g2⟩ := r
      exact ⟨a, vs, rfl, s.w.bh.t g1, by rw [← g2.len]; exact hl, f2 H0 B0 ln Γ B H σ env s ds vs env' g2 em' Q q⟩
    · cases em'
  | _ => cases em
end
end Q

set_option Elab.async false
set_option linter.all false
set_option maxRecDepth 100000
set_option maxHeartbeats 1000000
namespace Q
open PySem L2 PyProof.Rows

/-! ### what statements mean -/
inductive Out where
  | nx (e : En)
  | rt (d : D)
  | bk (e : En)
  | ct (e : En)
abbrev SM := En → Option Out
def Post (K : PySem.W.Frag) (H0 B0 : Hp) (ln : Nat → Option V) (Γ : List (O × V)) (B : Hp) (E : Ends) : Out → Prop
  | .nx e => ∀ B' H' σ', Ex B B' → Stt K H0 B0 ln Γ B' H' σ' e → E.nx σ' H'
  | .bk e => ∀ B' H' σ', Ex B B' → Stt K H0 B0 ln Γ B' H' σ' e → E.bk σ' H'
  | .ct e => ∀ B' H' σ', Ex B B' → Stt K H0 B0 ln Γ B' H' σ' e → E.ct σ' H'
  | .rt d => ∀ v B' H', Ex B B' → Wd H0 B0 B' H' → Rp K B' d v → E.rt v H'
def SS (K : PySem.W.Frag) (t : TS) (m : SM) : Prop :=
  ∀ (H0 B0 : Hp) (ln : Nat → Option V) (Γ : List (O × V)) (B H : Hp) (σ : L2.St) (env : En), Stt K H0 B0 ln Γ B H σ env → ∀ out, m env = some out → ∀ E : Ends, Post K H0 B0 ln Γ B E out → t E σ H
def QS (X : Cx) (st : Stmt) (m : SM) : Prop := ∃ t, PS X st t ∧ SS X.K t m
def QSs (X : Cx) (sts : List Stmt) (m : SM) : Prop := ∃ t, PSs X sts t ∧ SS X.K t m
theorem Post.up {K : PySem.W.Frag} {H0 B0 : Hp} {ln : Nat → Option V} {Γ : List (O × V)} {B B1 : Hp} {E : Ends} {out : Out} (h : Post K H0 B0 ln Γ B E out) (e : Ex B B1) : Post K H0 B0 ln Γ B1 E out := by
  cases out with
  | nx _ => exact fun B' H' σ' e' s => h B' H' σ' (e.trans e') s
  | bk _ => exact fun B' H' σ' e' s => h B' H' σ' (e.trans e') s
  | ct _ => exact fun B' H' σ' e' s => h B' H' σ' (e.trans e') s
  | rt _ => exact fun v B' H' e' s => h v B' H' (e.trans e') s
def sNext : SM := fun env => some (.nx env)
def sSeq (a b : SM) : SM := fun env => (a env).bind fun out => match out with
  | .nx e => b e
  | .rt d => some (.rt d)
  | .bk e => some (.bk e)
  | .ct e => some (.ct e)
def sAsg (i : Nat) (m : EM O) : SM := fun env => (m env).bind fun p => if i < p.2.length then some (.nx (p.2.set i (.has p.1))) else none
def sAsgT (gs : D → En → Option En) (m : EM O) : SM := fun env => (m env).bind fun p => (gs p.1.frz p.2).bind fun e => some (.nx e)
def sDrop (m : EM O) : SM := fun env => (m env).bind fun p => some (.nx p.2)
def sRet (m : EM O) : SM := fun env => (m env).bind fun p => some (.rt p.1.frz)
def sRetN : SM := fun _ => some (.rt .non)
def sIf (c : EM Bool) (a b : SM) : SM := fun env => (c env).bind fun p => if p.1 = true then a p.2 else b p.2
def sBreak : SM := fun env => some (.bk env)
def sCont : SM := fun env => some (.ct env)
def sNever : SM := fun _ => none
def forL (gs : D → En → Option En) (mb : SM) : List D → En → Option Out
  | [], e => some (.nx e)
  | d :: ds, e => (gs d e).bind fun e1 => (mb e1).bind fun out => match out with
    | .nx e2 => forL gs mb ds e2
    | .ct e2 => forL gs mb ds e2
    | .bk e2 => some (.nx e2)
    | .rt d => some (.rt d)
def sFor (mi : EM (List D)) (gs : D → En → Option En) (mb : SM) : SM := fun env => (mi env).bind fun p => forL gs mb p.1 p.2
def whileF (mt : EM Bool) (mb : SM) : Nat → En → Option Out
  | 0, _ => none
  | f + 1, e => (mt e).bind fun p => if p.1 = true then (mb p.2).bind fun out => match out with
      | .nx e2 => whileF mt mb f e2
      | .ct e2 => whileF mt mb f e2
      | .bk e2 => some (.nx e2)
      | .rt d => some (.rt d)
    else some (.nx p.2)
open Classical in
noncomputable def sWhile (mt : EM Bool) (mb : SM) : SM := fun env => if h : ∃ f out, whileF mt mb f env = some out then some (Classical.choose (Classical.choose_spec h)) else none
theorem whileF_mono {mt : EM Bool} {mb : SM} : ∀ {f : Nat} {e : En} {out : Out}, whileF mt mb f e = some out → ∀ g, f ≤ g → whileF mt mb g e = some out
  | 0, _, _, h, _, _ => by cases h
  | f + 1, e, out, h, 0, hg => by omega
  | f + 1, e, out, h, g + 1, hg => by
    rw [whileF] at h ⊢
    obtain ⟨p, h1, h⟩ := bind_some h
    rw [h1]
    show (if p.1 = true then _ else _) = _
    by_cases hb : p.1 = true
    · rw [if_pos hb] at h ⊢
      obtain ⟨o, h2, h⟩ := bind_some h
      rw [h2]
      show (match o with | .nx e2 => _ | .ct e2 => _ | .bk e2 => _ | .rt d => _) = _
      cases o with
      | nx e2 => exact whileF_mono h g (by omega)
      | ct e2 => exact whileF_mono h g (by omega)
      | bk e2 => exact h
      | rt d => exact h
    · rw [if_neg hb] at h ⊢
      exact h
theorem sWhile_of {mt : EM Bool} {mb : SM} {f : Nat} {e : En} {out : Out} (h : whileF mt mb f e = some out) : sWhile mt mb e = some out := by
  have hx : ∃ f out, whileF mt mb f e = some out := ⟨f, out, h⟩
  unfold sWhile
  rw [dif_pos hx]
  have h2 := Classical.choose_spec (Classical.choose_spec hx)
  have a := whileF_mono h (max f (Classical.choose hx)) (by omega)
  have b := whileF_mono h2 (max f (Classical.choose hx)) (by omega)
  rw [a] at b
  exact b.symm
theorem sWhile_some {mt : EM Bool} {mb : SM} {e : En} {out : Out} (h : sWhile mt mb e = some out) : ∃ f, whileF mt mb f e = some out := by
  unfold sWhile at h
  split at h
  · rename_i hx
    cases h
    exact ⟨_, Classical.choose_spec (Classical.choose_spec hx)⟩
  · cases h

section
variable {X : Cx} {st : Stmt} {rest : List Stmt} {a b : SM} {e c : Expr} {m : EM O} {n : EM Bool} {pos : Pos}
theorem qss_nil : QSs X [] sNext := ⟨_, pss_nil, fun H0 B0 ln Γ B H σ env s out em E q => by cases em; exact q B H σ (Ex.refl _) s⟩
theorem qss_cons (h1 : QS X st a) (h2 : QSs X rest b) : QSs X (st :: rest) (sSeq a b) := by
  obtain ⟨t, t1, t2⟩ := h1
  obtain ⟨u, u1, u2⟩ := h2
  refine ⟨_, pss_cons t1 u1, fun H0 B0 ln Γ B H σ env s out em E q => ?_⟩
  obtain ⟨o, em1, em⟩ := bind_some em
  refine t2 H0 B0 ln Γ B H σ env s _ em1 { E with nx := u E } ?_
  cases o with
  | nx e1 => exact fun B' H' σ' e' s' => u2 H0 B0 ln Γ B' H' σ' e1 s' out em E (q.up e')
  | rt d => cases em; exact q
  | bk e1 => cases em; exact q
  | ct e1 => cases em; exact q
theorem qss_one (h1 : QS X st a) : QSs X [st] a := by
  obtain ⟨t, t1, t2⟩ := h1
  exact ⟨t, pss_one t1, t2⟩
theorem qs_pass : QS X (.Pass pos) sNext := ⟨_, ps_pass, fun H0 B0 ln Γ B H σ env s out em E q => by cases em; exact q B H σ (Ex.refl _) s⟩
theorem qs_doc {x j pos'} : QS X (.Expr (.Constant (.str x) j pos) pos') sNext := ⟨_, ps_doc, fun H0 B0 ln Γ B H σ env s out em E q => by cases em; exact q B H σ (Ex.refl _) s⟩
theorem qs_break : QS X (.Break pos) sBreak := ⟨_, ps_break, fun H0 B0 ln Γ B H σ env s out em E q => by cases em; exact q B H σ (Ex.refl _) s⟩
theorem qs_continue : QS X (.Continue pos) sCont := ⟨_, ps_continue, fun H0 B0 ln Γ B H σ env s out em E q => by cases em; exact q B H σ (Ex.refl _) s⟩
theorem qs_never : QS X st sNever := ⟨_, ps_never, fun H0 B0 ln Γ B H σ env s out em E q => by cases em⟩
theorem qs_expr (he : QE X e m) (hs : swapsWith e none pos.line X.env = pure false := by rfl) : QS X (.Expr e pos) (sDrop m) := by
  obtain ⟨t, h1, h2⟩ := he
  refine ⟨_, ps_expr h1 hs, fun H0 B0 ln Γ B H σ env s out em E q => ?_⟩
  obtain ⟨p, em1, em⟩ := bind_some em
  cases em
  exact h2 H0 B0 ln Γ B H σ env s _ _ em1 _ fun v B' H' e1 e2 s' => q B' H' σ e1 s'.pop
theorem qs_ret (he : QE X e m) : QS X (.Return (some e) pos) (sRet m) := by
  obtain ⟨t, h1, h2⟩ := he
  refine ⟨_, ps_ret h1, fun H0 B0 ln Γ B H σ env s out em E q => ?_⟩
  obtain ⟨p, em1, em⟩ := bind_some em
  cases em
  refine h2 H0 B0 ln Γ B H σ env s _ _ em1 _ fun v B' H' e1 e2 s' => ?_
  obtain ⟨B2, e3, s2⟩ := s'.frz
  exact q v B2 H' (e1.trans e3) s2.w s2.rp
theorem qs_retN : QS X (.Return none pos) sRetN := ⟨_, ps_retN, fun H0 B0 ln Γ B H σ env s out em E q => by
  cases em
  exact q .non B H (Ex.refl _) s.w (by rw [Rp])⟩
theorem qs_if {xs ys : List Stmt} (hc : QT X c n) (ha : QSs X xs a) (hb : QSs X ys b) : QS X (.If c xs ys pos) (sIf n a b) := by
  obtain ⟨t, t1, t2⟩ := hc
  obtain ⟨u, u1, u2⟩ := ha
  obtain ⟨w, w1, w2⟩ := hb
  refine ⟨_, ps_if t1 u1 w1, fun H0 B0 ln Γ B H σ env s out em E q => ?_⟩
  obtain ⟨p, em1, em⟩ := bind_some em
  obtain ⟨d, env1⟩ := p
  refine t2 H0 B0 ln Γ B H σ env s _ _ em1 _ fun B' H' e1 e2 s' => ?_
  cases d with
  | true => exact u2 H0 B0 ln Γ B' H' σ _ s' out em E (q.up e1)
  | false => exact w2 H0 B0 ln Γ B' H' σ _ s' out em E (q.up e1)
theorem ss_asg {t : TE} {i : Nat} (h2 : SE X.K t m) : SS X.K (tAsg t (gName i)) (sAsg i m) := by
  intro H0 B0 ln Γ B H σ env s out em E q
  obtain ⟨p, em1, em⟩ := bind_some em
  split at em
  · rename_i hi
    cases em
    exact h2 H0 B0 ln Γ B H σ env s _ _ em1 _ fun v B' H' e1 e2 s' => q B' H' _ e1 (s'.store hi)
  · cases em
theorem qs_set {i : Nat} {x : Str} {pos' : Pos} (hN : X.N.Nodup) (hi : X.N[i]? = some x) (he : QE X e m) (hx : Loc X.env.scope x := by first | exact Or.inl rfl | exact Or.inr rfl) (hs : swapsWith e (some (.Name x pos')) pos.line X.env = pure false := by rfl)
    (hf : X.fn x = true ∨ X.env.scope.names.lookup x = some .local := by first | exact .inl rfl | exact .inr rfl | assumption) : QS X (.Assign [.Name x pos'] e pos) (sAsg i m) := by
  obtain ⟨t, h1, h2⟩ := he
  exact ⟨_, ps_set hN hi hx h1 hs hf, ss_asg h2⟩
/-- a, b = e -/
theorem qs_asgT {tg : Expr} {ws : List Nat} {gs : D → En → Option En} (he : QE X e m) (hg : QG X tg ws gs) (hs : swapsWithSole [tg] e pos.line X.env = pure false := by rfl) (hw : swappedStores [tg] e X.env = pure none := by rfl)
    (h1 : (assignEach [tg] X.env).map (·.2) = [assign tg X.env] := by rfl) : QS X (.Assign [tg] e pos) (sAsgT gs m) := by
  obtain ⟨t, t1, t2⟩ := he
  obtain ⟨g, g1, g2⟩ := hg
  refine ⟨_, ps_asg t1 g1 hs hw h1, fun H0 B0 ln Γ B H σ env s out em E q => ?_⟩
  obtain ⟨p, em1, em⟩ := bind_some em
  obtain ⟨env2, em2, em⟩ := bind_some em
  cases em
  refine t2 H0 B0 ln Γ B H σ env s _ _ em1 _ fun v B' H' e1 e2 s' => ?_
  obtain ⟨B2, e3, s2⟩ := s'.frz
  exact g2 H0 B0 ln Γ B2 H' σ _ s2.pop _ v _ s2.rp em2 _ fun σ' s3 _ _ => q B2 H' σ' (e1.trans e3) s3
def sAug (i : Nat) (f : Int → Int → Int) (m : EM O) : SM := fun env => match env[i]? with
  | some (.has (.fz (.int x))) => (m env).bind fun p => match p.1 with
    | .fz (.int y) => if i < p.2.length then some (.nx (p.2.set i (.has (.fz (.int (f x y)))))) else none
    | _ => none
  | _ => none
theorem qs_aug {i : Nat} {x : Str} {op : Operator} {f : Int → Int → Int} {pos' : Pos} (ho : PIp X op (ipI f)) (hN : X.N.Nodup) (hi : X.N[i]? = some x) (he : QE X e m) (hx : Loc X.env.scope x := by first | exact Or.inl rfl | exact Or.inr rfl)
    (hf : X.fn x = true ∨ X.env.scope.names.lookup x = some .local := by first | exact .inl rfl | exact .inr rfl | assumption) : QS X (.AugAssign (.Name x pos') op e pos) (sAug i f m) := by
  obtain ⟨t, t1, t2⟩ := he
  refine ⟨_, ps_aug hN hi hx t1 ho hf, fun H0 B0 ln Γ B H σ env s out em E q => ?_⟩
  unfold sAug at em
  split at em
  · rename_i x0 hx0
    obtain ⟨p, em1, em⟩ := bind_some em
    obtain ⟨o1, env1⟩ := p
    cases o1 with
    | fz d =>
      cases d with
      | int y =>
        have em2 : (if i < env1.length then some (Out.nx (env1.set i (.has (.fz (.int (f x0 y)))))) else none) = some out := em
        split at em2
        · rename_i hl
          cases em2
          obtain ⟨v, hv, r⟩ := s.slotD hx0
          rw [Rp] at r
          subst r
          refine ⟨_, hv, t2 H0 B0 ln Γ B H σ env s _ _ em1 _ fun u B' H' e1 e2 s' => ?_⟩
          have r2 := s'.rp
          rw [Rp] at r2
          subst r2
          exact ⟨x0, y, rfl, rfl, q B' H' _ e1 ((s'.pop.push (d := .int (f x0 y)) (by rw [Rp])).store hl)⟩
        · cases em2
      | _ => cases em
    | _ => cases em
  · cases em
/-! ### loops -/
theorem qs_for {tg iter : Expr} {body : List Stmt} {mi : EM (List D)} {ws : List Nat} {gs : D → En → Option En} {mb : SM} (hp : PassesOwn (model X.prog X.w) X.A X.env X.xe) (hc : X.calm = true) (hi : QI X true tg iter mi) (hg : QG X tg ws gs) (hb : QSs X body mb)
    (hs : ∀ x, foldedSetIterable iter X.env x = pure x := by intro _; rfl) : QS X (.For tg iter body [] pos) (sFor mi gs mb) := by
  obtain ⟨wi, i1, i2⟩ := hi
  obtain ⟨g, g1, g2⟩ := hg
  obtain ⟨t, t1, t2⟩ := hb
  refine ⟨_, ps_for hp hc i1 g1 t1 hs, fun H0 B0 ln Γ B H σ env s out em E q => ?_⟩
  obtain ⟨p, em1, em⟩ := bind_some em
  obtain ⟨ds, env1⟩ := p
  refine i2 H0 B0 ln Γ B H σ env s _ _ em1 _ fun J B1 H1 e1 e2 s1 w => ?_
  have w : WalkD X.K J (fun H2 => Ex B1 H2) B1 ds := w.mono fun H2 h => by rw [if_pos rfl]; exact h
  refine ⟨fun i k σ' H' => k = ds.length - i ∧ i ≤ ds.length ∧ ∃ B' env', Ex B1 B' ∧ Stt X.K H0 B0 ln Γ B' H' σ' env' ∧ forL gs mb (ds.drop i) env' = some out,
    ⟨ds.length, by simp, Nat.zero_le _, B1, env1, Ex.refl _, s1, em⟩, ?_⟩
  rintro i k σ2 H2 ⟨rfl, hi, B2, env2, e3, s2, em2⟩
  have g0 : Ex B1 H2 := e3.trans s2.w.bh
  by_cases hlt : i < ds.length
  · refine .inr ⟨w.go i H2 hlt g0, fun σ' H' => ∃ B' env', Ex B1 B' ∧ Stt X.K H0 B0 ln Γ B' H' σ' env' ∧ forL gs mb (ds.drop (i + 1)) env' = some out, fun σ' H' h => ⟨ds.length - (i + 1), by omega, rfl, hlt, h⟩, fun x H3 y => ?_⟩
    obtain ⟨B3, w3, r3⟩ := w.yld i ds[i] H2 x H3 B2 (List.getElem?_eq_getElem hlt) g0 e3 s2.w.bh y
    have s3 := s2.step w3
    rw [List.drop_eq_getElem_cons hlt, forL] at em2
    obtain ⟨env3, em3, em2⟩ := bind_some em2
    obtain ⟨o, em4, em2⟩ := bind_some em2
    refine g2 H0 B0 ln Γ B3 H3 σ2 env2 s3 _ x _ r3 em3 _ fun σ4 s4 _ _ => ?_
    refine t2 H0 B0 ln Γ B3 H3 σ4 env3 s4 o em4 _ ?_
    cases o with
    | nx e' => exact fun B' H' σ' e4 s' => ⟨B', e', (e3.trans w3.b0).trans e4, s', em2⟩
    | ct e' => exact fun B' H' σ' e4 s' => ⟨B', e', (e3.trans w3.b0).trans e4, s', em2⟩
    | bk e' => cases em2; exact fun B' H' σ' e4 s' => q B' H' σ' (((e1.trans e3).trans w3.b0).trans e4) s'
    | rt d => cases em2; exact fun v B' H' e4 s' r => q v B' H' (((e1.trans e3).trans w3.b0).trans e4) s' r
  · have hi' : i = ds.length := by omega
    subst hi'
    rw [List.drop_length, forL] at em2
    cases em2
    exact .inl ⟨w.stop H2 g0, q B2 H2 σ2 (e1.trans e3) s2⟩
theorem qs_while {body : List Stmt} {mb : SM} (hp : PassesOwn (model X.prog X.w) X.A X.env X.xe) (hc : QT X c n) (hb : QSs X body mb) : QS X (.While c body [] pos) (sWhile n mb) := by
  obtain ⟨u, u1, u2⟩ := hc
  obtain ⟨t, t1, t2⟩ := hb
  refine ⟨_, ps_while hp u1 t1, fun H0 B0 ln Γ B H σ env s out em E q => ?_⟩
  obtain ⟨f, em⟩ := sWhile_some em
  refine ⟨fun k σ' H' => ∃ B' env', Ex B B' ∧ Stt X.K H0 B0 ln Γ B' H' σ' env' ∧ whileF n mb k env' = some out, ⟨f, B, env, Ex.refl _, s, em⟩, ?_⟩
  rintro k σ2 H2 ⟨B2, env2, e3, s2, em2⟩
  cases k with
  | zero => cases em2
  | succ k =>
    rw [whileF] at em2
    obtain ⟨p, em3, em2⟩ := bind_some em2
    obtain ⟨d, env3⟩ := p
    refine u2 H0 B0 ln Γ B2 H2 σ2 env2 s2 _ _ em3 _ fun B3 H3 e4 e5 s3 => ?_
    cases d with
    | true =>
      have em4 : (mb env3).bind _ = some out := em2
      obtain ⟨o, em5, em6⟩ := bind_some em4
      rw [if_pos rfl]
      refine ⟨fun σ' H' => ∃ B' env', Ex B B' ∧ Stt X.K H0 B0 ln Γ B' H' σ' env' ∧ whileF n mb k env' = some out, fun σ' H' h => ⟨k, Nat.lt_succ_self _, h⟩, ?_⟩
      refine t2 H0 B0 ln Γ B3 H3 σ2 env3 s3 o em5 _ ?_
      cases o with
      | nx e' => exact fun B' H' σ' e6 s' => ⟨B', e', (e3.trans e4).trans e6, s', em6⟩
      | ct e' => exact fun B' H' σ' e6 s' => ⟨B', e', (e3.trans e4).trans e6, s', em6⟩
      | bk e' => cases em6; exact fun B' H' σ' e6 s' => q B' H' σ' ((e3.trans e4).trans e6) s'
      | rt d => cases em6; exact fun v B' H' e6 s' r => q v B' H' ((e3.trans e4).trans e6) s' r
    | false =>
      cases em2
      exact q B3 H3 σ2 (e3.trans e4) s3
end
/-! ### lists that change -/
section
variable {K : PySem.W.Frag} {H0 B0 B H : Hp} {ln : Nat → Option V} {Γ T : List (O × V)} {σ : L2.St} {env : En} {os : List O} {a : Addr}
theorem wd_upd {x : HO} (w : Wd H0 B0 B H) (hb : B a = none) (h0 : H0 a = none) : Wd H0 B0 B (upd H a x) :=
  ⟨w.b0, fun c u q => by rw [upd_ne (ne_of_none q hb)]; exact w.bh c u q, fun c u q => by rw [upd_ne (ne_of_none q h0)]; exact w.h0 c u q, w.nw⟩
theorem Own.mutl {R J : List (O × V)} (h : Own K H0 B H [] ((.ls os, .ref a) :: R)) : ∃ us, H a = some (.lst us) ∧ os.length = us.length ∧ B a = none ∧ H0 a = none ∧
    ∀ os' us' J, os'.length = us'.length → (os.zip us ++ R).Perm (os'.zip us' ++ J) → Own K H0 B (L2.upd H a (.lst us')) [] ((.ls os', .ref a) :: J) := by
  obtain ⟨us, h1, h2, h3, h4, h5, h6⟩ := h.open
  exact ⟨us, h1, h2, h3, h4, fun os' us' J hl p => ((h6.perm p).upd (x := .lst us')).shut hl upd_same h3 h4 h5⟩
theorem Stt.mutTemp (s : Stt K H0 B0 ln ((.ls os, .ref a) :: (T ++ Γ)) B H σ env) : ∃ us, H a = some (.lst us) ∧ os.length = us.length ∧ B a = none ∧
    ∀ os' us' J, os'.length = us'.length → (os.zip us ++ T).Perm (os'.zip us' ++ J) → Stt K H0 B0 ln ((.ls os', .ref a) :: (J ++ Γ)) B (upd H a (.lst us')) σ env := by
  obtain ⟨us, h1, h2, h3, h4, h5⟩ := (s.own.perm List.perm_middle).mutl (J := [])
  refine ⟨us, h1, h2, h3, fun os' us' J hl p => ⟨wd_upd s.w h3 h4, s.sg, ?_⟩⟩
  have := h5 os' us' (J ++ (roots env σ ++ Γ)) hl ?_
  · refine this.perm (List.Perm.trans ?_ List.perm_middle.symm)
    refine List.Perm.cons _ ?_
    rw [← List.append_assoc, ← List.append_assoc]
    exact List.perm_append_comm.append_right _
  · have e1 : (os.zip us ++ (roots env σ ++ (T ++ Γ))).Perm ((os.zip us ++ T) ++ (roots env σ ++ Γ)) := by
      rw [List.append_assoc (os.zip us)]
      refine List.Perm.append_left _ ?_
      rw [← List.append_assoc, ← List.append_assoc]
      exact List.perm_append_comm.append_right _
    refine e1.trans ?_
    rw [← List.append_assoc (os'.zip us')]
    exact p.append_right _
theorem Stt.mutSlot {i : Nat} (s : Stt K H0 B0 ln (T ++ Γ) B H σ env) (e : env[i]? = some (.has (.ls os))) : ∃ a us, σ[i]? = some (some (.ref a)) ∧ H a = some (.lst us) ∧ os.length = us.length ∧
    ∀ os' us' J, os'.length = us'.length → (os.zip us ++ T).Perm (os'.zip us' ++ J) → Stt K H0 B0 ln (J ++ Γ) B (upd H a (.lst us')) σ (env.set i (.has (.ls os'))) := by
  obtain ⟨v, hv, w0⟩ := s.slot e
  rw [Vw] at w0
  obtain ⟨a, vs0, rfl, _⟩ := w0
  obtain ⟨R2, p2, q2⟩ := roots_at e hv
  have z : σ.set i (some (V.ref a)) = σ := by
    obtain ⟨h1, h2⟩ := List.getElem?_eq_some_iff.mp hv
    rw [← h2]; simp
  have ow2 : Own K H0 B H [] ((O.ls os, V.ref a) :: (R2 ++ (T ++ Γ))) := s.own.perm (p2.append_right _)
  obtain ⟨us, h1, h2, h3, h4, g5⟩ := ow2.mutl (J := [])
  refine ⟨a, us, hv, h1, h2, fun os' us' J hl p => ⟨wd_upd s.w h3 h4, s.sg.same e _, ?_⟩⟩
  have q3 := q2 (.has (.ls os')) (some (.ref a))
  rw [z] at q3
  have e3 : (os.zip us ++ (R2 ++ (T ++ Γ))).Perm ((os'.zip us') ++ (R2 ++ (J ++ Γ))) := by
    have e2 : (os.zip us ++ (R2 ++ (T ++ Γ))).Perm ((os.zip us ++ T) ++ (R2 ++ Γ)) := by
      rw [List.append_assoc (os.zip us)]
      refine List.Perm.append_left _ ?_
      rw [← List.append_assoc, ← List.append_assoc]
      exact List.perm_append_comm.append_right _
    refine e2.trans ((p.append_right _).trans ?_)
    rw [List.append_assoc (os'.zip us')]
    refine List.Perm.append_left _ ?_
    rw [← List.append_assoc, ← List.append_assoc]
    exact List.perm_append_comm.append_right _
  exact (g5 os' us' (R2 ++ (J ++ Γ)) hl e3).perm (by
    rw [← List.cons_append]
    exact (q3.append_right _).symm)
end
end Q

set_option Elab.async false
set_option linter.all false
set_option maxRecDepth 100000
set_option maxHeartbeats 1000000
namespace Q
open PySem L2 PyProof.Rows
/-! ### a slot's own list is written -/
def lsAt (i : Nat) (env : En) : Option (List O) := match env[i]? with
  | some (.has (.ls os)) => some os
  | _ => none
theorem lsAt_ok {i : Nat} {env : En} {os : List O} (h : lsAt i env = some os) : env[i]? = some (.has (.ls os)) := by
  unfold lsAt at h
  split at h
  · cases h; assumption
  · cases h
def sApp (i : Nat) (m : EM O) : SM := fun env => (lsAt i env).bind fun _ => (m env).bind fun p => (lsAt i p.2).bind fun os => if os.length < sizeLine then some (.nx (p.2.set i (.has (.ls (os ++ [p.1]))))) else none
def sSetIx (i : Nat) (m mi : EM O) : SM := fun env => (m env).bind fun p => (lsAt i p.2).bind fun _ => (mi p.2).bind fun q => (lsAt i q.2).bind fun os => match q.1 with
  | .fz (.int k) => (ixN os.length k).bind fun j => some (.nx (q.2.set i (.has (.ls (os.set j p.1)))))
  | _ => none
def sRev (i : Nat) : SM := fun env => (lsAt i env).bind fun os => some (.nx (env.set i (.has (.ls os.reverse))))
def sPop (i : Nat) : SM := fun env => (lsAt i env).bind fun os => if os.length = 0 then none else some (.nx (env.set i (.has (.ls os.dropLast))))
def sIns (i : Nat) (mk m : EM O) : SM := fun env => (lsAt i env).bind fun _ => (mk env).bind fun q => match q.1 with
  | .fz (.int k) => (m q.2).bind fun p => (lsAt i p.2).bind fun os => if os.length < sizeLine ∧ 0 ≤ k ∧ k < 9223372036854775808 then some (.nx (p.2.set i (.has (.ls (os.take k.toNat ++ [p.1] ++ os.drop k.toNat))))) else none
  | _ => none
theorem zip_append' {α β : Type} {xs ys : List α} {us ws : List β} (h : xs.length = us.length) : (xs ++ ys).zip (us ++ ws) = xs.zip us ++ ys.zip ws := List.zip_append h
theorem zip_set {α β : Type} : ∀ {xs : List α} {us : List β} {j : Nat} {x : α} {u : β}, xs.length = us.length → j < xs.length → ∃ y, (xs.zip us ++ [(x, u)]).Perm ((xs.set j x).zip (us.set j u) ++ [y])
  | [], _, _, _, _, _, h => by simp at h
  | a :: xs, [], _, _, _, h, _ => by simp at h
  | a :: xs, c :: us, 0, x, u, _, _ => ⟨(a, c), by
    show ((a, c) :: (xs.zip us ++ [(x, u)])).Perm ((x, u) :: (xs.zip us ++ [(a, c)]))
    have e1 : ((a, c) :: (xs.zip us ++ [(x, u)])).Perm ((a, c) :: (x, u) :: xs.zip us) := List.Perm.cons _ List.perm_append_comm
    have e2 : ((x, u) :: (xs.zip us ++ [(a, c)])).Perm ((x, u) :: (a, c) :: xs.zip us) := List.Perm.cons _ List.perm_append_comm
    exact e1.trans ((List.Perm.swap _ _ _).trans e2.symm)⟩
  | a :: xs, c :: us, j + 1, x, u, hl, hj => by
    obtain ⟨y, p⟩ := zip_set (xs := xs) (us := us) (j := j) (x := x) (u := u) (by simpa using hl) (by simpa using hj)
    exact ⟨y, p.cons (a, c)⟩
theorem zip_rev {α β : Type} {xs : List α} {us : List β} (h : xs.length = us.length) : xs.reverse.zip us.reverse = (xs.zip us).reverse := by
  induction xs generalizing us with
  | nil => cases us with
    | nil => rfl
    | cons _ _ => simp at h
  | cons a xs ih => cases us with
    | nil => simp at h
    | cons c us =>
      have hl : xs.length = us.length := by simpa using h
      rw [List.reverse_cons, List.reverse_cons, zip_append' (by simp [hl]), ih hl]
      simp
section
variable {X : Cx} {e e' : Expr} {m mi mk : EM O} {x : Str} {p0 p1 cpos pos : Pos} {i : Nat}
theorem qs_append (hN : X.N[i]? = some x) (he : QE X e m) (hv : Vis X.env.scope x := by first | exact Or.inl rfl | exact Or.inr (Or.inl rfl) | exact Or.inr (Or.inr rfl)) (hd : (x == ("__debug__" : Str)) = false := by decide)
    (hcd : (x == ("__classdict__" : Str)) = false := by decide)
    (hbase : attributeBase (.Name x p0) "append" X.env (eval (.Name x p0) X.env) = eval (.Name x p0) X.env := by rfl)
    (hfew : ((backTo cpos (starEach [e] X.env)).all (fun x => !x.1) && (backToKw cpos (keywordEach [] X.env)).all (fun x => x.1.isSome) && decide ([e].length + ([] : List Keyword).length + (if ([] : List Keyword).isEmpty then 0 else 1) < 30)) = true := by rfl)
    (hline : (p1.endLine == cpos.line) = true := by rfl) (hst : starEach [e] X.env = (false, eval e X.env) :: starEach [] X.env := by rfl) (hplain : (backTo cpos (starEach [] X.env)).any (·.1) = false := by rfl)
    (hs : swapsWith (.Call (.Attribute (.Name x p0) "append" p1) [e] [] cpos) none pos.line X.env = pure false := by rfl) :
    QS X (.Expr (.Call (.Attribute (.Name x p0) "append" p1) [e] [] cpos) pos) (sApp i m) := by
  obtain ⟨t, h1, h2⟩ := he
  refine ⟨_, ps_expr (pe_bm PySem.F.plainAttrs_list PySem.F.slot_list_append PySem.F.type_list_append mt_append (pe_var hN hv hd hcd) (pa_cons h1 pa_nil hst) hbase hfew hline hst hplain) hs, fun H0 B0 ln Γ B H σ env s out em E q => ?_⟩
  obtain ⟨os0, l0, em⟩ := bind_some em
  obtain ⟨p, em1, em⟩ := bind_some em
  obtain ⟨os, l1, em⟩ := bind_some em
  split at em
  · rename_i hz
    cases em
    obtain ⟨v, hv0, w⟩ := s.slot (lsAt_ok l0)
    obtain ⟨a0, vs0, rfl, g0, _⟩ := asO_ok w
    refine ⟨_, hv0, .inl ⟨rfl, vs0, SqL.of g0⟩, h2 H0 B0 ln Γ B H σ env s _ _ em1 _ fun u B1 H1 e1 e2 s1 => ?_⟩
    obtain ⟨a, us, hv1, g1, g2, g3⟩ := Stt.mutSlot (T := [(p.1, u)]) s1 (lsAt_ok l1)
    rw [hv0] at hv1
    cases hv1
    refine ⟨a0, us, u, rfl, rfl, g1, by rw [← g2]; exact hz, q B1 _ σ e1 ?_⟩
    exact g3 (os ++ [p.1]) (us ++ [u]) [] (by simp [g2]) (by rw [zip_append' g2]; simp)
  · cases em
theorem qs_setIx (hN : X.N[i]? = some x) (he : QE X e m) (hi : QV X e' mi) (hv : Vis X.env.scope x := by first | exact Or.inl rfl | exact Or.inr (Or.inl rfl) | exact Or.inr (Or.inr rfl)) (hd : (x == ("__debug__" : Str)) = false := by decide)
    (hcd : (x == ("__classdict__" : Str)) = false := by decide)
    (ha : ∀ v, assign (.Subscript (.Name x p0) e' p1) X.env v = (do
      let ov ← holding [v] (eval (.Name x p0) X.env)
      let iv ← holding [v, ov] (eval e' X.env)
      standAt p1
      holding [v, ov, iv] (setItem ov iv v)
      release [v, ov, iv] []) := by intro _; rfl)
    (hs : swapsWithSole [.Subscript (.Name x p0) e' p1] e pos.line X.env = pure false := by rfl) (hw : swappedStores [.Subscript (.Name x p0) e' p1] e X.env = pure none := by rfl)
    (h1 : (assignEach [.Subscript (.Name x p0) e' p1] X.env).map (·.2) = [assign (.Subscript (.Name x p0) e' p1) X.env] := by rfl) : QS X (.Assign [.Subscript (.Name x p0) e' p1] e pos) (sSetIx i m mi) := by
  obtain ⟨t, t1, t2⟩ := he
  obtain ⟨u, u1, u2⟩ := hi
  refine ⟨_, ps_asg t1 (pg_sub (pe_var hN hv hd hcd) u1 set_list ha) hs hw h1, fun H0 B0 ln Γ B H σ env s out em E q => ?_⟩
  obtain ⟨p, em1, em⟩ := bind_some em
  obtain ⟨os0, l0, em⟩ := bind_some em
  obtain ⟨r, em2, em⟩ := bind_some em
  obtain ⟨os, l1, em⟩ := bind_some em
  obtain ⟨o2, env2⟩ := r
  cases o2 with
  | fz d =>
    cases d with
    | int k =>
      obtain ⟨j, hj, em⟩ := bind_some (show (ixN os.length k).bind _ = some out from em)
      cases em
      refine t2 H0 B0 ln Γ B H σ env s _ _ em1 _ fun y B1 H1 e1 e2 s1 => ?_
      obtain ⟨v, hv0, w⟩ := s1.slot (lsAt_ok l0)
      obtain ⟨a0, vs0, rfl, g0, _⟩ := asO_ok w
      refine ⟨_, hv0, u2 H0 B0 ln _ B1 H1 σ _ s1 _ _ em2 _ fun z B2 H2 e3 e4 s2 w2 => ?_⟩
      have := vw_int w2
      subst this
      obtain ⟨a, us, hv1, g1, g2, g3⟩ := Stt.mutSlot (T := [(p.1, y)]) s2 (lsAt_ok l1)
      rw [hv0] at hv1
      cases hv1
      have hjl : j < os.length := (ixN_seq hj).2.1
      obtain ⟨w0, pw⟩ := zip_set (x := p.1) (u := y) g2 hjl
      refine ⟨a0, us, k, j, rfl, rfl, g1, by rw [← g2]; exact hj, q B2 _ σ (e1.trans e3) ?_⟩
      exact (g3 (os.set j p.1) (us.set j y) [w0] (by simp [g2]) pw).pop (o := w0.1) (v := w0.2)
    | _ => cases em
  | _ => cases em
theorem qs_reverse (hN : X.N[i]? = some x) (hv : Vis X.env.scope x := by first | exact Or.inl rfl | exact Or.inr (Or.inl rfl) | exact Or.inr (Or.inr rfl)) (hd : (x == ("__debug__" : Str)) = false := by decide)
    (hcd : (x == ("__classdict__" : Str)) = false := by decide)
    (hbase : attributeBase (.Name x p0) "reverse" X.env (eval (.Name x p0) X.env) = eval (.Name x p0) X.env := by rfl) (hline : (p1.endLine == cpos.line) = true := by rfl)
    (hs : swapsWith (.Call (.Attribute (.Name x p0) "reverse" p1) [] [] cpos) none pos.line X.env = pure false := by rfl) : QS X (.Expr (.Call (.Attribute (.Name x p0) "reverse" p1) [] [] cpos) pos) (sRev i) := by
  refine ⟨_, ps_expr (pe_bm0 PySem.F.plainAttrs_list PySem.F.slot_list_reverse PySem.F.type_list_reverse mt_reverse (pe_var hN hv hd hcd) hbase hline) hs, fun H0 B0 ln Γ B H σ env s out em E q => ?_⟩
  obtain ⟨os, l0, em⟩ := bind_some em
  cases em
  obtain ⟨a, us, hv1, g1, g2, g3⟩ := Stt.mutSlot (T := []) s (lsAt_ok l0)
  refine ⟨_, hv1, .inl ⟨rfl, us, SqL.of g1⟩, a, us, rfl, rfl, g1, q B _ σ (Ex.refl _) ?_⟩
  exact g3 os.reverse us.reverse [] (by simp [g2]) (by rw [zip_rev g2, List.append_nil, List.append_nil]; exact (List.reverse_perm _).symm)
theorem dropLast_zip {α β : Type} {xs : List α} {us : List β} (h : xs.length = us.length) (hx : xs.length ≠ 0) : ∃ y, us[us.length - 1]? = some y.2 ∧ xs.zip us = xs.dropLast.zip us.dropLast ++ [y] := by
  have h1 : xs ≠ [] := fun e => hx (by rw [e]; rfl)
  have h2 : us ≠ [] := fun e => hx (by rw [h, e]; rfl)
  refine ⟨(xs.getLast h1, us.getLast h2), ?_, ?_⟩
  · rw [← List.getLast?_eq_getElem?, List.getLast?_eq_getLast h2]
  · have e1 := List.dropLast_concat_getLast h1
    have e2 := List.dropLast_concat_getLast h2
    have e3 : xs.zip us = (xs.dropLast ++ [xs.getLast h1]).zip (us.dropLast ++ [us.getLast h2]) := by rw [e1, e2]
    rw [e3, zip_append' (by simp [h])]
    rfl
theorem qs_pop (hN : X.N[i]? = some x) (hv : Vis X.env.scope x := by first | exact Or.inl rfl | exact Or.inr (Or.inl rfl) | exact Or.inr (Or.inr rfl)) (hd : (x == ("__debug__" : Str)) = false := by decide)
    (hcd : (x == ("__classdict__" : Str)) = false := by decide)
    (hbase : attributeBase (.Name x p0) "pop" X.env (eval (.Name x p0) X.env) = eval (.Name x p0) X.env := by rfl) (hline : (p1.endLine == cpos.line) = true := by rfl)
    (hs : swapsWith (.Call (.Attribute (.Name x p0) "pop" p1) [] [] cpos) none pos.line X.env = pure false := by rfl) : QS X (.Expr (.Call (.Attribute (.Name x p0) "pop" p1) [] [] cpos) pos) (sPop i) := by
  refine ⟨_, ps_expr (pe_bm0 PySem.F.plainAttrs_list PySem.F.slot_list_pop PySem.F.type_list_pop mt_pop (pe_var hN hv hd hcd) hbase hline) hs, fun H0 B0 ln Γ B H σ env s out em E q => ?_⟩
  obtain ⟨os, l0, em⟩ := bind_some em
  split at em
  · cases em
  · rename_i hz
    cases em
    obtain ⟨a, us, hv1, g1, g2, g3⟩ := Stt.mutSlot (T := []) s (lsAt_ok l0)
    obtain ⟨y, y1, y2⟩ := dropLast_zip g2 hz
    refine ⟨_, hv1, .inl ⟨rfl, us, SqL.of g1⟩, a, us, y.2, rfl, rfl, g1, y1, q B _ σ (Ex.refl _) ?_⟩
    exact (g3 os.dropLast us.dropLast [y] (by simp [g2]) (by rw [y2, List.append_nil])).pop (o := y.1) (v := y.2)
theorem qs_insert (hN : X.N[i]? = some x) (hk : QV X e' mk) (he : QE X e m) (hv : Vis X.env.scope x := by first | exact Or.inl rfl | exact Or.inr (Or.inl rfl) | exact Or.inr (Or.inr rfl)) (hd : (x == ("__debug__" : Str)) = false := by decide)
    (hcd : (x == ("__classdict__" : Str)) = false := by decide)
    (hbase : attributeBase (.Name x p0) "insert" X.env (eval (.Name x p0) X.env) = eval (.Name x p0) X.env := by rfl)
    (hfew : ((backTo cpos (starEach [e', e] X.env)).all (fun x => !x.1) && (backToKw cpos (keywordEach [] X.env)).all (fun x => x.1.isSome) && decide ([e', e].length + ([] : List Keyword).length + (if ([] : List Keyword).isEmpty then 0 else 1) < 30)) = true := by rfl)
    (hline : (p1.endLine == cpos.line) = true := by rfl) (hst : starEach [e', e] X.env = (false, eval e' X.env) :: starEach [e] X.env := by rfl) (hst2 : starEach [e] X.env = (false, eval e X.env) :: starEach [] X.env := by rfl) (hplain : (backTo cpos (starEach [e] X.env)).any (·.1) = false := by rfl)
    (hs : swapsWith (.Call (.Attribute (.Name x p0) "insert" p1) [e', e] [] cpos) none pos.line X.env = pure false := by rfl) :
    QS X (.Expr (.Call (.Attribute (.Name x p0) "insert" p1) [e', e] [] cpos) pos) (sIns i mk m) := by
  obtain ⟨t, h1, h2⟩ := he
  obtain ⟨u, u1, u2⟩ := hk
  refine ⟨_, ps_expr (pe_bm PySem.F.plainAttrs_list PySem.F.slot_list_insert PySem.F.type_list_insert mt_insert (pe_var hN hv hd hcd) (pa_cons u1 (pa_cons h1 pa_nil hst2) hst) hbase hfew hline hst hplain) hs, fun H0 B0 ln Γ B H σ env s out em E q => ?_⟩
  obtain ⟨os0, l0, em⟩ := bind_some em
  obtain ⟨r, em2, em⟩ := bind_some em
  obtain ⟨o2, env2⟩ := r
  cases o2 with
  | fz d =>
    cases d with
    | int k =>
      obtain ⟨p, em1, em⟩ := bind_some (show (m env2).bind _ = some out from em)
      obtain ⟨os, l1, em⟩ := bind_some em
      split at em
      · rename_i hz
        cases em
        obtain ⟨v, hv0, w⟩ := s.slot (lsAt_ok l0)
        obtain ⟨a0, vs0, rfl, g0, _⟩ := asO_ok w
        refine ⟨_, hv0, .inl ⟨rfl, vs0, SqL.of g0⟩, u2 H0 B0 ln Γ B H σ env s _ _ em2 _ fun z B1 H1 e1 e2 s1 w1 => ?_⟩
        have := vw_int w1
        subst this
        refine h2 H0 B0 ln Γ B1 H1 σ _ s1 _ _ em1 _ fun y B2 H2 e3 e4 s2 => ?_
        obtain ⟨a, us, hv1, g1, g2, g3⟩ := Stt.mutSlot (T := [(p.1, y)]) s2 (lsAt_ok l1)
        rw [hv0] at hv1
        cases hv1
        refine ⟨a0, us, k, y, rfl, rfl, g1, by rw [← g2]; exact hz.1, hz.2.1, p63 ▸ hz.2.2, q B2 _ σ (e1.trans e3) ?_⟩
        refine g3 (os.take k.toNat ++ [p.1] ++ os.drop k.toNat) (us.take k.toNat ++ [y] ++ us.drop k.toNat) [] (by simp [g2]) ?_
        rw [zip_append' (by simp [g2]), zip_append' (by simp [g2]), List.append_nil]
        have e5 : os.zip us = (os.take k.toNat).zip (us.take k.toNat) ++ (os.drop k.toNat).zip (us.drop k.toNat) := by
          rw [← zip_append' (by simp [g2]), List.take_append_drop, List.take_append_drop]
        rw [e5, List.append_assoc, List.append_assoc]
        exact List.Perm.append_left _ List.perm_append_comm
      · cases em
    | _ => cases em
  | _ => cases em
end

/-! ### comprehensions -/
def wipeE (env : En) : List Nat → En
  | [] => env
  | v :: vs => (wipeE env vs).set v .un
def backE (env : En) (e3 : En) : List Nat → En
  | [] => e3
  | v :: vs => (backE env e3 vs).set v (env[v]?.getD .un)
def okE (env : En) (vs : List Nat) : Bool := vs.all fun i => match env[i]? with
  | some .un => true
  | some (.has (.fz _)) => true
  | _ => false
def lcLoop (vs : List Nat) (gs : D → En → Option En) (mt : EM Bool) (me : EM O) : List D → List O → En → Option (List O × En)
  | [], acc, env => some (acc, env)
  | d :: ds, acc, env => if okE env vs = true then (gs d (wipeE env vs)).bind fun e1 => (mt e1).bind fun b =>
      if b.1 = true then (me b.2).bind fun r => if acc.length < sizeLine then lcLoop vs gs mt me ds (acc ++ [r.1]) (backE env r.2 vs) else none
      else lcLoop vs gs mt me ds acc (backE env b.2 vs) else none
def mLc (vs : List Nat) (mi : EM (List D)) (gs : D → En → Option En) (mt : EM Bool) (me : EM O) : EM O := fun env => (mi env).bind fun p => (lcLoop vs gs mt me p.1 [] p.2).bind fun q => some (.ls q.1, q.2)
section
variable {K : PySem.W.Frag} {H0 B0 B H : Hp} {ln : Nat → Option V} {Γ T : List (O × V)} {σ σ2 : L2.St} {env e3 : En}
theorem wipeE_len (env : En) : ∀ vs, (wipeE env vs).length = env.length
  | [] => rfl
  | v :: vs => by unfold wipeE; rw [List.length_set, wipeE_len env vs]
theorem set_out {α : Type} {l : List α} {i : Nat} {x : α} (h : ¬ i < l.length) : l.set i x = l := List.set_eq_of_length_le (by omega)
/-- a slot forgotten -/
theorem Stt.un (s : Stt K H0 B0 ln Γ B H σ env) (i : Nat) (y : Option V) : Stt K H0 B0 ln Γ B H (σ.set i y) (env.set i .un) := by
  by_cases hi : i < env.length
  · have hs : i < σ.length := by rw [← s.sg.len]; exact hi
    obtain ⟨R, p, q⟩ := roots_at (List.getElem?_eq_getElem hi) (List.getElem?_eq_getElem hs)
    refine ⟨s.w, ⟨by rw [List.length_set, List.length_set]; exact s.sg.len, fun j o e => ?_, fun j e => ?_, fun j a e => ?_⟩, ?_⟩
    · by_cases h : i = j
      · subst h
        rw [List.getElem?_set_self hi] at e; cases e
      · rw [List.getElem?_set_ne h] at e
        obtain ⟨v, hv⟩ := s.sg.has j o e
        exact ⟨v, by rw [List.getElem?_set_ne h]; exact hv⟩
    · by_cases h : i = j
      · subst h
        rw [List.getElem?_set_self hi] at e; cases e
      · rw [List.getElem?_set_ne h] at e
        obtain ⟨v, hv, hv2⟩ := s.sg.lent j e
        exact ⟨v, hv, by rw [List.getElem?_set_ne h]; exact hv2⟩
    · by_cases h : i = j
      · subst h
        rw [List.getElem?_set_self hi] at e; cases e
      · rw [List.getElem?_set_ne h] at e
        rw [List.getElem?_set_ne h]
        exact s.sg.adr j a e
    · have q1 := q .un y
      have e0 : rt .un y = ([] : List (O × V)) := by cases y <;> rfl
      rw [e0, List.nil_append] at q1
      have ow : Own K H0 B H [] (rt env[i] σ[i] ++ (R ++ Γ)) := by
        rw [← List.append_assoc]
        exact s.own.perm (p.append_right _)
      exact ow.drop.perm (q1.symm.append_right _)
  · rw [set_out hi, set_out (by rw [← s.sg.len]; exact hi)]
    exact s
theorem Stt.wipe (s : Stt K H0 B0 ln Γ B H σ env) : ∀ vs, Stt K H0 B0 ln Γ B H (wipe σ vs) (wipeE env vs)
  | [] => s
  | v :: vs => by
    rw [L2.wipe, wipeE]
    exact (Stt.wipe s vs).un v none
def restS (σ σ2 : L2.St) : List Nat → L2.St
  | [] => σ2
  | v :: vs => (restS σ σ2 vs).set v (σ[v]?.getD none)
theorem restS_len (σ σ2 : L2.St) : ∀ vs, (restS σ σ2 vs).length = σ2.length
  | [] => rfl
  | v :: vs => by unfold restS; rw [List.length_set, restS_len σ σ2 vs]
theorem backE_len (env e3 : En) : ∀ vs, (backE env e3 vs).length = e3.length
  | [] => rfl
  | v :: vs => by unfold backE; rw [List.length_set, backE_len env e3 vs]
theorem restS_at (hl : σ2.length = σ.length) : ∀ (vs : List Nat) (j : Nat), (restS σ σ2 vs)[j]? = if j ∈ vs then σ[j]? else σ2[j]?
  | [], j => by simp [restS]
  | v :: vs, j => by
    rw [restS]
    by_cases h : v = j
    · subst h
      rw [if_pos (by simp)]
      by_cases hj : v < σ.length
      · rw [List.getElem?_set_self (by rw [restS_len, hl]; exact hj), List.getElem?_eq_getElem hj]; rfl
      · rw [set_out (by rw [restS_len, hl]; exact hj), List.getElem?_eq_none (by rw [restS_len, hl]; omega), List.getElem?_eq_none (by omega)]
    · rw [List.getElem?_set_ne h, restS_at hl vs j]
      have : (j ∈ v :: vs) ↔ (j ∈ vs) := by simp [Ne.symm h]
      by_cases hm : j ∈ vs
      · rw [if_pos hm, if_pos (this.mpr hm)]
      · rw [if_neg hm, if_neg (fun z => hm (this.mp z))]
theorem restS_eq (hl : σ2.length = σ.length) {vs : List Nat} (h : ∀ j, j ∉ vs → σ2[j]? = σ[j]?) : restS σ σ2 vs = σ := by
  apply List.ext_getElem?
  intro j
  rw [restS_at hl]
  by_cases hm : j ∈ vs
  · rw [if_pos hm]
  · rw [if_neg hm, h j hm]
theorem wipe_at (σ : L2.St) : ∀ (vs : List Nat) (j : Nat), (wipe σ vs)[j]? = if j ∈ vs then (σ[j]?).map (fun _ => none) else σ[j]?
  | [], j => by simp [L2.wipe]
  | v :: vs, j => by
    rw [L2.wipe]
    by_cases h : v = j
    · subst h
      rw [if_pos (by simp)]
      by_cases hj : v < σ.length
      · rw [List.getElem?_set_self (by rw [wipe_length]; exact hj), List.getElem?_eq_getElem hj]; rfl
      · rw [set_out (by rw [wipe_length]; exact hj), List.getElem?_eq_none (by rw [wipe_length]; omega), List.getElem?_eq_none (by omega)]; rfl
    · rw [List.getElem?_set_ne h, wipe_at σ vs j]
      have : (j ∈ v :: vs) ↔ (j ∈ vs) := by simp [Ne.symm h]
      by_cases hm : j ∈ vs
      · rw [if_pos hm, if_pos (this.mpr hm)]
      · rw [if_neg hm, if_neg (fun z => hm (this.mp z))]
theorem wipe_eq (hl : σ2.length = σ.length) {vs : List Nat} (h : ∀ j, j ∉ vs → σ2[j]? = σ[j]?) : wipe σ2 vs = wipe σ vs := by
  apply List.ext_getElem?
  intro j
  rw [wipe_at, wipe_at]
  by_cases hm : j ∈ vs
  · rw [if_pos hm, if_pos hm]
    by_cases hj : j < σ.length
    · rw [List.getElem?_eq_getElem hj, List.getElem?_eq_getElem (by rw [hl]; exact hj)]; rfl
    · rw [List.getElem?_eq_none (by omega), List.getElem?_eq_none (by omega)]
  · rw [if_neg hm, if_neg hm, h j hm]
/-- the block's own names as they were ahead of it: env over base B1, back over B -/
theorem Stt.back {B1 H1 : Hp} {Γ1 : List (O × V)} (s1 : Stt K H0 B0 ln Γ1 B1 H1 σ env) (e : Ex B1 B) (s : Stt K H0 B0 ln Γ B H σ2 e3) (hle : e3.length = env.length) : ∀ vs : List Nat, okE env vs = true → Stt K H0 B0 ln Γ B H (restS σ σ2 vs) (backE env e3 vs)
  | [], _ => s
  | v :: vs, h => by
    unfold okE at h
    rw [List.all_cons, Bool.and_eq_true] at h
    have ih := Stt.back s1 e s hle vs h.2
    rw [restS, backE]
    have h1 := h.1
    split at h1
    · rename_i q
      rw [q]
      exact ih.un v _
    · rename_i d q
      rw [q]
      obtain ⟨u, hu, r⟩ := s1.slotD q
      rw [hu]
      have hv : v < env.length := (List.getElem?_eq_some_iff.mp q).1
      exact (ih.push (Rp.mono e _ _ r)).store (by rw [backE_len, hle]; exact hv)
    · cases h1
end
theorem SG_len {gs : D → En → Option En} {d : D} {e e' : En} (h : gs d e = some e') : True := trivial
theorem se_lc {K : PySem.W.Frag} {wi : TI} {mi : EM (List D)} {g : TG} {ws vs : List Nat} {gs : D → En → Option En} {tt : TT} {mt : EM Bool} {te : TE} {me : EM O} (hi : SI K false wi mi) (hg : SG K g ws gs) (hw : ∀ j ∈ ws, j ∈ vs) (ht : STst K tt mt) (he : SE K te me) :
    SE K (tLc wi g tt te vs) (mLc vs mi gs mt me) := by
  intro H0 B0 ln Γ B H σ env s o env' em Q q
  obtain ⟨p, em1, em⟩ := bind_some em
  obtain ⟨r, em2, em⟩ := bind_some em
  cases em
  obtain ⟨ds, env1⟩ := p
  refine hi H0 B0 ln Γ B H σ env s _ _ em1 _ fun J B1 H1 e1 e2 s1 w => ?_
  have w : WalkD K J (fun H2 => Ex H1 H2) B1 ds := w.mono fun H2 h => by simpa using h
  intro Dl hD
  obtain ⟨e0, s0⟩ := Stt.newLst (os := []) (vs := []) (Γ := Γ) s1 rfl hD
  refine ⟨fun i k H' => k = ds.length - i ∧ i ≤ ds.length ∧ ∃ acc B' env', Ex B1 B' ∧ Ex H1 H' ∧ Stt K H0 B0 ln ((.ls acc, .ref Dl) :: Γ) B' H' σ env' ∧ lcLoop vs gs mt me (ds.drop i) acc env' = some r,
    ⟨ds.length, by simp, Nat.zero_le _, [], B1, env1, Ex.refl _, e0, s0, em2⟩, ?_⟩
  rintro i k H2 ⟨rfl, hi, acc, B2, env2, e3, e4, s2, em2⟩
  by_cases hlt : i < ds.length
  · refine .inr ⟨w.go i H2 hlt e4, fun H' => ∃ acc B' env', Ex B1 B' ∧ Ex H1 H' ∧ Stt K H0 B0 ln ((.ls acc, .ref Dl) :: Γ) B' H' σ env' ∧ lcLoop vs gs mt me (ds.drop (i + 1)) acc env' = some r, fun H' h => ⟨ds.length - (i + 1), by omega, rfl, hlt, h⟩, fun x H3 y => ?_⟩
    obtain ⟨B3, w3, r3⟩ := w.yld i ds[i] H2 x H3 B2 (List.getElem?_eq_getElem hlt) e4 e3 s2.w.bh y
    have s3 := s2.step w3
    rw [List.drop_eq_getElem_cons hlt, lcLoop] at em2
    split at em2
    · rename_i hok
      obtain ⟨env3, em3, em2⟩ := bind_some em2
      obtain ⟨b, em4, em2⟩ := bind_some em2
      obtain ⟨b, env4⟩ := b
      refine hg H0 B0 ln _ B3 H3 (wipe σ vs) (wipeE env2 vs) (s3.wipe vs) _ x _ r3 em3 _ fun σ4 s4 l4 k4 => ?_
      have l4' : σ4.length = σ.length := by rw [l4, wipe_length]
      have k4' : ∀ j, j ∉ vs → σ4[j]? = σ[j]? := fun j hj => by rw [k4 j (fun z => hj (hw j z)), wipe_at, if_neg hj]
      have le4 : env3.length = env2.length := by rw [s4.sg.len, l4', ← s2.sg.len]
      refine ⟨wipe_eq l4' k4', ht H0 B0 ln _ B3 H3 σ4 env3 s4 _ _ em4 _ fun B5 H5 e5 e6 s5 => ?_⟩
      cases b with
      | true =>
        rw [if_pos rfl]
        obtain ⟨z, em5, em6⟩ := bind_some (show (me env4).bind _ = some r from em2)
        split at em6
        · rename_i hz
          refine he H0 B0 ln _ B5 H5 σ4 env4 s5 _ _ em5 _ fun y B6 H6 e7 e8 s6 => ?_
          obtain ⟨us, g1, g2, g3, g4⟩ := Stt.mutTemp (T := [(z.1, y)]) (s6.perm (List.Perm.swap _ _ _))
          have s7 := g4 (acc ++ [z.1]) (us ++ [y]) [] (by simp [g2]) (by rw [zip_append' g2]; simp)
          refine ⟨us, g1, by rw [← g2]; exact hz, acc ++ [z.1], B6, backE env2 z.2 vs, ((e3.trans w3.b0).trans e5).trans e7, fun c u h => ?_, ?_, em6⟩
          · rw [upd_ne (ne_of_none h hD)]
            exact e8 c u (e6 c u (w3.h0 c u (e4 c u h)))
          · have le6 : z.2.length = env2.length := by rw [s6.sg.len, l4', ← s2.sg.len]
            have s8 := Stt.back s2 ((w3.b0.trans e5).trans e7) s7 le6 vs hok
            rw [restS_eq l4' k4'] at s8
            exact s8
        · cases em6
      | false =>
        rw [if_neg Bool.false_ne_true]
        refine ⟨acc, B5, backE env2 env4 vs, (e3.trans w3.b0).trans e5, fun c u h => e6 c u (w3.h0 c u (e4 c u h)), ?_, em2⟩
        have le6 : env4.length = env2.length := by rw [s5.sg.len, l4', ← s2.sg.len]
        have s8 := Stt.back s2 (w3.b0.trans e5) s5 le6 vs hok
        rw [restS_eq l4' k4'] at s8
        exact s8
    · cases em2
  · have hi' : i = ds.length := by omega
    subst hi'
    rw [List.drop_length, lcLoop] at em2
    cases em2
    exact .inl ⟨w.stop H2 e4, q _ B2 H2 (e1.trans e3) (e2.trans e4) s2⟩
def QTs (X : Cx) (ifs : List Expr) (m : EM Bool) : Prop := ∃ t, PTs X ifs t ∧ STst X.K t m
def mYes : EM Bool := fun env => some (true, env)
section
variable {X : Cx}
theorem qts_nil : QTs X [] mYes := ⟨_, pts_nil, fun H0 B0 ln Γ B H σ env s b env' em Q q => by cases em; exact q B H (Ex.refl _) (Ex.refl _) s⟩
theorem qts_one {c : Expr} {m : EM Bool} (h : QT X c m) : QTs X [c] m := by
  obtain ⟨t, h1, h2⟩ := h
  exact ⟨_, pts_one h1, h2⟩
/-- a judgement over every block context: its reading is one and the same -/
def AllBlk (X : Cx) (scope : Scope) (Pr : Cx → Prop) : Prop := ∀ (s : Shared) (H : Hp) (C : Addr) (cl : List (Str × Addr)) (fp : List Addr), Pr (X.blk s H scope (compEnvC scope cl C X.env) fp)
end
end Q

set_option Elab.async false
set_option linter.all false
set_option maxRecDepth 100000
set_option maxHeartbeats 1000000
namespace Q
open PySem L2 PyProof.Rows
/-! ### one reading for a meaning, whatever the context -/
def tCE (K : PySem.W.Frag) (m : EM O) : TE := fun σ H Q => ∃ H0 B0 ln Γ B env o env', Stt K H0 B0 ln Γ B H σ env ∧ m env = some (o, env') ∧ ∀ v B' H', Ex B B' → Ex H H' → Stt K H0 B0 ln ((o, v) :: Γ) B' H' σ env' → Q v H'
def tCT (K : PySem.W.Frag) (m : EM Bool) : TT := fun σ H Q => ∃ H0 B0 ln Γ B env o env', Stt K H0 B0 ln Γ B H σ env ∧ m env = some (o, env') ∧ ∀ B' H', Ex B B' → Ex H H' → Stt K H0 B0 ln Γ B' H' σ env' → Q o H'
def tCG (K : PySem.W.Frag) (ws : List Nat) (gs : D → En → Option En) : TG := fun v σ H Q => ∃ H0 B0 ln Γ B env d env', Stt K H0 B0 ln Γ B H σ env ∧ Rp K B d v ∧ gs d env = some env' ∧ ∀ σ', Stt K H0 B0 ln Γ B H σ' env' → σ'.length = σ.length → (∀ j, j ∉ ws → σ'[j]? = σ[j]?) → Q σ' H
def tCI (K : PySem.W.Frag) (fz : Bool) (m : EM (List D)) : TI := fun σ H R => ∃ H0 B0 ln Γ B env ds env', Stt K H0 B0 ln Γ B H σ env ∧ m env = some (ds, env') ∧ ∀ J B' H', Ex B B' → Ex H H' → Stt K H0 B0 ln Γ B' H' σ env' → WalkD K J (fun H2 => if fz = true then Ex B' H2 else Ex H' H2) B' ds → R J H'
theorem seC {K : PySem.W.Frag} {m : EM O} : SE K (tCE K m) m := fun H0 B0 ln Γ B H σ env s o env' em Q q => ⟨H0, B0, ln, Γ, B, env, o, env', s, em, q⟩
theorem stC {K : PySem.W.Frag} {m : EM Bool} : STst K (tCT K m) m := fun H0 B0 ln Γ B H σ env s o env' em Q q => ⟨H0, B0, ln, Γ, B, env, o, env', s, em, q⟩
theorem sgC {K : PySem.W.Frag} {ws : List Nat} {gs : D → En → Option En} : SG K (tCG K ws gs) ws gs := fun H0 B0 ln Γ B H σ env s d v env' r em Q q => ⟨H0, B0, ln, Γ, B, env, d, env', s, r, em, q⟩
theorem siC {K : PySem.W.Frag} {fz : Bool} {m : EM (List D)} : SI K fz (tCI K fz m) m := fun H0 B0 ln Γ B H σ env s ds env' em R q => ⟨H0, B0, ln, Γ, B, env, ds, env', s, em, q⟩
section
variable {X : Cx} {e : Expr}
theorem QE.c {m : EM O} (h : QE X e m) : PE X e (tCE X.K m) := by
  obtain ⟨t, h1, h2⟩ := h
  exact ⟨fun pins s σ H Q I ⟨H0, B0, ln, Γ, B, env, o, env', st, em, q⟩ => h1.run pins s σ H Q I (h2 H0 B0 ln Γ B H σ env st o env' em Q q)⟩
theorem QTs.c {m : EM Bool} {ifs : List Expr} (h : QTs X ifs m) : PTs X ifs (tCT X.K m) := by
  obtain ⟨t, h1, h2⟩ := h
  exact ⟨fun pins s σ H Q I ⟨H0, B0, ln, Γ, B, env, o, env', st, em, q⟩ => h1.run pins s σ H Q I (h2 H0 B0 ln Γ B H σ env st o env' em Q q)⟩
theorem QG.c {ws : List Nat} {gs : D → En → Option En} (h : QG X e ws gs) : PG X e (tCG X.K ws gs) := by
  obtain ⟨t, h1, h2⟩ := h
  exact ⟨fun pins s σ H v u Q I r ⟨H0, B0, ln, Γ, B, env, d, env', st, rd, em, q⟩ => h1.run pins s σ H v u Q I r (h2 H0 B0 ln Γ B H σ env st d v env' rd em Q q)⟩
theorem QI.c {fz : Bool} {tg : Expr} {m : EM (List D)} (h : QI X fz tg e m) : PI X tg e (tCI X.K fz m) := by
  obtain ⟨t, h1, h2⟩ := h
  exact ⟨fun pins s σ H R I ⟨H0, B0, ln, Γ, B, env, ds, env', st, em, q⟩ => h1.run pins s σ H R I (h2 H0 B0 ln Γ B H σ env st ds env' em R q)⟩
end
section
variable {X : Cx} {elt tg iter : Expr} {ifs : List Expr} {scope : Scope} {own : List (Str × Nat)} {pos : Pos} {mi : EM (List D)} {ws : List Nat} {gs : D → En → Option En} {mt : EM Bool} {me : EM O}
theorem qe_lc (own : List (Str × Nat)) (hc : X.calm = true) (hN : X.N.Nodup) (hi : QI X false tg iter mi) (hk : blkC X.N X.env.scope scope own = true)
    (hg : ∀ (s : Shared) (H : Hp) (C : Addr) (cl : List (Str × Addr)) (fp : List Addr), QG (X.blk s H scope (compEnvC scope cl C X.env) fp) tg ws gs)
    (ht : ∀ (s : Shared) (H : Hp) (C : Addr) (cl : List (Str × Addr)) (fp : List Addr), QTs (X.blk s H scope (compEnvC scope cl C X.env) fp) ifs mt)
    (he : ∀ (s : Shared) (H : Hp) (C : Addr) (cl : List (Str × Addr)) (fp : List Addr), QE (X.blk s H scope (compEnvC scope cl C X.env) fp) elt me)
    (hw : ∀ j ∈ ws, j ∈ own.map (·.2) := by decide) (hs : ∀ x, foldedSetIterable iter X.env x = pure x := by intro _; rfl) :
    QE X (.ListComp elt [⟨tg, iter, ifs, 0⟩] scope pos) (mLc (own.map (·.2)) mi gs mt me) :=
  ⟨_, pe_lc (wi := tCI X.K false mi) (g := tCG X.K ws gs) (tt := tCT X.K mt) (te := tCE X.K me) hc hN hi.c (blkOk_by hk) (fun s H C cl fp => (hg s H C cl fp).c) (fun s H C cl fp => (ht s H C cl fp).c) (fun s H C cl fp => (he s H C cl fp).c) hs, se_lc siC sgC hw stC seC⟩
theorem qs_setLc {i : Nat} {y : Str} {py spos : Pos} (own : List (Str × Nat)) (hc : X.calm = true) (hN : X.N.Nodup) (hy : X.N[i]? = some y) (hyl : X.env.scope.names.lookup y = some .local)
    (hsw : swapsWith (.ListComp elt [⟨tg, iter, ifs, 0⟩] scope pos) (some (.Name y py)) spos.line X.env = pure true) (hi : QI X false tg iter mi) (hk : blkC X.N X.env.scope scope own = true)
    (hg : ∀ (s : Shared) (H : Hp) (C : Addr) (cl : List (Str × Addr)) (fp : List Addr), QG (X.blk s H scope (compEnvC scope cl C X.env) fp) tg ws gs)
    (ht : ∀ (s : Shared) (H : Hp) (C : Addr) (cl : List (Str × Addr)) (fp : List Addr), QTs (X.blk s H scope (compEnvC scope cl C X.env) fp) ifs mt)
    (he : ∀ (s : Shared) (H : Hp) (C : Addr) (cl : List (Str × Addr)) (fp : List Addr), QE (X.blk s H scope (compEnvC scope cl C X.env) fp) elt me)
    (hw : ∀ j ∈ ws, j ∈ own.map (·.2) := by decide) (hs : ∀ x, foldedSetIterable iter X.env x = pure x := by intro _; rfl) :
    QS X (.Assign [.Name y py] (.ListComp elt [⟨tg, iter, ifs, 0⟩] scope pos) spos) (sAsg i (mLc (own.map (·.2)) mi gs mt me)) :=
  ⟨_, ps_setLc (wi := tCI X.K false mi) (g := tCG X.K ws gs) (tt := tCT X.K mt) (te := tCE X.K me) hc hN hy hyl hsw hi.c (blkOk_by hk) (fun s H C cl fp => (hg s H C cl fp).c) (fun s H C cl fp => (ht s H C cl fp).c) (fun s H C cl fp => (he s H C cl fp).c) hs, ss_asg (se_lc siC sgC hw stC seC)⟩
end
/-! ### defs -/
def spM (K : PySem.W.Frag) (n : Nat) (mf : List D → Option D) : Sp := fun vs H Q _ => ∃ B ds d, Ex B H ∧ Rps K B ds vs ∧ ds.length = n ∧ mf ds = some d ∧ ∀ v B' H', Wd H B B' H' → Rp K B' d v → Q v H'
/-- the def x of the module means mf -/
structure DefOk (P : Program) (w : World) (K : PySem.W.Frag) (mg : Str → Option Value) (base : Heap) (k : Nat) (x : Str) (n : Nat) (mf : List D → Option D) : Prop where
  len : ∀ ds d, mf ds = some d → ds.length = n
  ex : ∃ (f : Addr) (fd : FuncData) (ps : List Str), FnOk P w K mg base CX0 k f fd ps (spM K n mf) ∧ mg x = some (.ref f) ∧ PySem.W.keepIn K (.ref f) = true ∧ Binds K fd ps []
section
variable {X : Cx} {k n : Nat} {x : Str} {mf : List D → Option D} {e : Expr} {es : List Expr} {mA : EM (List O)} {p pos : Pos}
theorem qe_call (G : DefOk X.prog X.w X.K X.mg X.base k x n mf) (hr : Room k X.A) (ha : QA X (e :: es) mA) (hg : Gl X x := by rfl) (hdb : (x == ("__debug__" : Str)) = false := by decide)
    (he : starEach (e :: es) X.env = (false, eval e X.env) :: starEach es X.env := by rfl) (hpl : (backTo pos (starEach es X.env)).any (·.1) = false := by rfl) : QE X (.Call (.Name x p) (e :: es) [] pos) (mCall mf mA) := by
  obtain ⟨f, fd, ps, F, hm, hk, hb⟩ := G.ex
  obtain ⟨t, h1, h2⟩ := ha
  refine ⟨_, pe_call F hr hg hm hk hb .nil pass0 h1 hdb he hpl, fun H0 B0 ln Γ B H σ env s o env' em Q q => ?_⟩
  obtain ⟨p, em1, em⟩ := bind_some em
  obtain ⟨d, em2, em⟩ := bind_some em
  cases em
  refine h2 H0 B0 ln Γ B H σ env s _ _ em1 _ fun vs B1 H1 e1 e2 hl s1 => ?_
  obtain ⟨B2, e3, r, s2⟩ := Stt.frzs hl s1
  rw [List.append_nil]
  refine ⟨B2, O.frzs p.1, d, s2.w.bh, r, G.len _ _ em2, em2, fun v B' H' w r' => ?_⟩
  exact q v B' H' ((e1.trans e3).trans w.b0) (e2.trans w.h0) ((s2.step w).push r')
def startE (N : Nat) (ds : List D) : En := ds.map (fun d => Sl.has (.fz d)) ++ List.replicate (N - ds.length) Sl.un
def outD : Out → Option D
  | .nx _ => some .non
  | .rt d => some d
  | _ => none
def runD (n N : Nat) (m : SM) (ds : List D) : Option D := if ds.length = n then (m (startE N ds)).bind outD else none
theorem roots_start {K : PySem.W.Frag} {H0 B H : Hp} : ∀ {ds : List D} {vs : List V} (r : Nat), Rps K B ds vs → Own K H0 B H [] (roots (ds.map (fun d => Sl.has (.fz d)) ++ List.replicate r Sl.un) (vs.map some ++ List.replicate r none))
  | [], vs, r, h => by
    rw [Rps] at h; subst h
    have e : ∀ r : Nat, roots (([] : List D).map (fun d => Sl.has (.fz d)) ++ List.replicate r Sl.un) (([] : List V).map some ++ List.replicate r none) = [] := by
      intro r
      induction r with
      | zero => rfl
      | succ r ih => exact ih
    rw [e r]
    exact Own.nil
  | d :: ds, vs, r, h => by
    rw [Rps] at h
    obtain ⟨v, rr, rfl, h1, h2⟩ := h
    exact (roots_start r h2).fz h1
theorem sg_start {ln : Nat → Option V} : ∀ {ds : List D} {vs : List V} (r : Nat), ds.length = vs.length → Sg ln (ds.map (fun d => Sl.has (.fz d)) ++ List.replicate r Sl.un) (vs.map some ++ List.replicate r none) := by
  intro ds vs r h
  refine ⟨by simp [h], fun i o e => ?_, fun i e => ?_, fun i a e => ?_⟩
  · by_cases hi : i < ds.length
    · have hv : i < vs.length := by omega
      exact ⟨vs[i], by rw [List.getElem?_append_left (by simpa using hv)]; simp [hv]⟩
    · rw [List.getElem?_append_right (by simpa using hi)] at e
      rw [List.getElem?_replicate] at e
      split at e <;> cases e
  · by_cases hi : i < ds.length
    · rw [List.getElem?_append_left (by simpa using hi)] at e
      rw [List.getElem?_map, List.getElem?_eq_getElem hi] at e
      cases e
    · rw [List.getElem?_append_right (by simpa using hi)] at e
      rw [List.getElem?_replicate] at e
      split at e <;> cases e
  · by_cases hi : i < ds.length
    · rw [List.getElem?_append_left (by simpa using hi)] at e
      rw [List.getElem?_map, List.getElem?_eq_getElem hi] at e
      cases e
    · rw [List.getElem?_append_right (by simpa using hi)] at e
      rw [List.getElem?_replicate] at e
      split at e <;> cases e
theorem fn_okM {P : Program} {w : World} {K : PySem.W.Frag} {mg : Str → Option Value} {base : Heap} {qual : Str} {st : Stmt} {f : Addr} {fd : FuncData} {N ps : List Str} {k : Nat} {m : SM} (F : Fun K x qual st f fd) (S : FnScope N ps (defScope st))
    (hbody : ∀ (cdv : Value) (A : Around) (outer : List Env) (s : Shared) (H : Hp) (E : XK), Room k (A.deeper (envOfC qual (defScope st) s.heap.objs.size f cdv)) → QSs (cxOf CX0 P w K mg base N qual (defScope st) f cdv A outer s H E).nox (defBody st) m) :
    FnOk P w K mg base CX0 (k + 1) f fd ps (spM K ps.length (runD ps.length N.length m)) := by
  refine F.ok S (fun vs H Q E h => ?_) (fun cdv A outer s H vs Q E hr h => ?_)
  · obtain ⟨B, ds, d, _, r, hn, _⟩ := h
    rw [← r.len]; exact hn
  · obtain ⟨B, ds, d, e, r, hn, em, q⟩ := h
    obtain ⟨t, h1, h2⟩ := hbody cdv A outer s H E hr
    refine ⟨t, h1, ?_⟩
    unfold runD at em
    rw [if_pos hn] at em
    obtain ⟨out, em1, em⟩ := bind_some em
    refine h2 H B (fun _ => none) [] B H _ (startE N.length ds) ⟨Wd.refl e, ?_, ?_⟩ out em1 _ ?_
    · unfold startE L2.start
      rw [r.len]
      exact sg_start _ r.len
    · unfold startE L2.start
      rw [r.len, List.append_nil]
      exact roots_start _ r
    · cases out with
      | nx e' => cases em; exact fun B' H' σ' e2 s' => q .non B' H' s'.w (by rw [Rp])
      | rt d' => cases em; exact fun v B' H' e2 w' r' => q v B' H' w' r'
      | bk e' => cases em
      | ct e' => cases em
theorem runD_len {n N : Nat} {m : SM} : ∀ ds d, runD n N m ds = some d → ds.length = n := fun ds d h => by
  unfold runD at h
  split at h
  · assumption
  · cases h
theorem def_ok {P : Program} {w : World} {K : PySem.W.Frag} {mg : Str → Option Value} {base : Heap} {qual : Str} {st : Stmt} {f : Addr} {fd : FuncData} {N ps : List Str} {k : Nat} {m : SM} (F : Fun K x qual st f fd) (S : FnScope N ps (defScope st)) (hm : mg x = some (.ref f)) (hb : Binds K fd ps [])
    (hbody : ∀ (cdv : Value) (A : Around) (outer : List Env) (s : Shared) (H : Hp) (E : XK), Room k (A.deeper (envOfC qual (defScope st) s.heap.objs.size f cdv)) → QSs (cxOf CX0 P w K mg base N qual (defScope st) f cdv A outer s H E).nox (defBody st) m) :
    DefOk P w K mg base (k + 1) x ps.length (runD ps.length N.length m) := ⟨runD_len, f, fd, ps, fn_okM F S hbody, hm, F.kp, hb⟩
/-- a def by another meaning -/
theorem DefOk.imp {P : Program} {w : World} {K : PySem.W.Frag} {mg : Str → Option Value} {base : Heap} {mf' : List D → Option D} (G : DefOk P w K mg base k x n mf) (h : ∀ ds d, mf' ds = some d → mf ds = some d) : DefOk P w K mg base k x n mf' := by
  obtain ⟨f, fd, ps, F, hm, hk, hb⟩ := G.ex
  exact ⟨fun ds d e => G.len ds d (h ds d e), f, fd, ps, F.imp fun vs H Q E ⟨B, ds, d, e, r, hn, em, q⟩ => ⟨B, ds, d, e, r, hn, h ds d em, q⟩, hm, hk, hb⟩
end
/-! ### the end: the law's own call -/
theorem DefOk.law {P : Program} {w : World} {K : PySem.W.Frag} {mg : Str → Option Value} {base : Heap} {k : Nat} {x : Str} {mf : List D → Option D} {f : Addr} {fd : FuncData} {ps : List Str} (F : FnOk P w K mg base CX0 k f fd ps (spM K 1 mf)) : True := trivial
def spLaw (K : PySem.W.Frag) : Sp := fun vs H Q _ => ∃ (a : Addr) (ns : List Int), vs = [.ref a] ∧ SqL K H a (ns.map V.int) ∧ ns.length ≤ 63 ∧ (∀ z ∈ ns, Builtin.Int.intBits z ≤ 1048576) ∧ ∀ H', Q (.bl true) H'
theorem law_imp {P : Program} {w : World} {K : PySem.W.Frag} {mg : Str → Option Value} {base : Heap} {k : Nat} {mf : List D → Option D} {f : Addr} {fd : FuncData} {ps : List Str} (F : FnOk P w K mg base CX0 k f fd ps (spM K 1 mf))
    (h : ∀ ns : List Int, ns.length ≤ 63 → (∀ z ∈ ns, Builtin.Int.intBits z ≤ 1048576) → mf [.lst (ns.map D.int)] = some (.bl true)) : FnOk P w K mg base CX0 k f fd ps (spLaw K) := by
  refine F.imp fun vs H Q E hs => ?_
  obtain ⟨a, ns, rfl, hS, hl, hz, q⟩ := hs
  refine ⟨H, [.lst (ns.map D.int)], _, Ex.refl _, Rps.one ?_, rfl, h ns hl hz, fun v B' H' w' r => ?_⟩
  · rw [Rp]
    exact ⟨a, _, rfl, hS, rps_ints ns⟩
  · rw [Rp] at r
    subst r
    exact q H'
end Q

set_option Elab.async false
set_option linter.all false
set_option maxRecDepth 100000
set_option maxHeartbeats 1000000
namespace Q
open PySem L2 PyProof.Rows
section
variable {X : Cx} {a : Expr} {ma : EM O} {pos : Pos}
def oNeg : O → Option O
  | .fz (.int i) => some (.fz (.int (-i)))
  | _ => none
theorem qe_neg (ha : QV X a ma) : QE X (.UnaryOp .USub a pos) (m1 oNeg ma) := by
  obtain ⟨t, h1, h2⟩ := ha
  refine ⟨_, pe_un un_neg h1, fun H0 B0 ln Γ B H σ env s o env' em Q q => ?_⟩
  obtain ⟨p, em1, em⟩ := bind_some em
  obtain ⟨z, em2, em⟩ := bind_some em
  cases em
  refine h2 H0 B0 ln Γ B H σ env s _ _ em1 _ fun v B1 H1 e1 e2 s1 w => ?_
  obtain ⟨o1, env1⟩ := p
  cases o1 with
  | fz d =>
    cases d with
    | int i =>
      cases em2
      have := vw_int w
      subst this
      exact ⟨i, rfl, q _ B1 H1 e1 e2 (s1.push (by rw [Rp]))⟩
    | _ => cases em2
  | _ => cases em2
end
/-- a def that is never left: the foot of a recursion -/
theorem DefOk.zero {P : Program} {w : World} {K : PySem.W.Frag} {mg : Str → Option Value} {base : Heap} {x qual : Str} {st : Stmt} {f : Addr} {fd : FuncData} {ps : List Str} {k n : Nat} (F : Fun K x qual st f fd) (hm : mg x = some (.ref f)) (hb : Binds K fd ps []) :
    DefOk P w K mg base k x n (fun _ => none) := by
  refine ⟨fun _ _ h => (by cases h), f, fd, ps, ⟨?_, ?_⟩, hm, F.kp, hb⟩
  · rintro vs H Q E ⟨_, _, _, _, _, _, h, _⟩
    cases h
  · rintro A outer s H args us vs Q E _ _ _ _ ⟨_, _, _, _, _, _, h, _⟩
    cases h
theorem DefOk.up {P : Program} {w : World} {K : PySem.W.Frag} {mg : Str → Option Value} {base : Heap} {j k : Nat} {x : Str} {n : Nat} {mf : List D → Option D} (G : DefOk P w K mg base j x n mf) (h : j ≤ k) : DefOk P w K mg base k x n mf := by
  obtain ⟨l, f, fd, ps, F, hm, hk, hb⟩ := G
  exact ⟨l, f, fd, ps, F.mono h, hm, hk, hb⟩
end Q

set_option Elab.async false
set_option linter.all false
set_option maxRecDepth 100000
set_option maxHeartbeats 1000000
namespace Q
open PySem L2 PyProof.Rows
theorem sr_def {base : Heap} {P : Program} {A : Around} {qual : Str} {sc : Scope} {L f : Addr} {cdv : Value} {outer : List Env} {k : Nat} (G : Grd base P) (hr : Room k (A.deeper (envOfC qual sc L f cdv))) (hk : 34 ≤ k)
    (h1 : sc.isGenerator = false) (h2 : sc.isCoroutine = false) : Sr base P (A.deeper (envOfC qual sc L f cdv)) (envOfC qual sc L f cdv :: outer) :=
  ⟨G, by have := hr.dp; omega, _, _, rfl, h1, h2, rfl, rfl⟩
theorem fn_less {P : Program} {w : World} {K K2 : PySem.W.Frag} {mg : Str → Option Value} {base : Heap} {CX : CXT} {k : Nat} {f : Addr} {fd : FuncData} {ps : List Str} {sp : Sp} (F : FnOk P w K mg base CX k f fd ps sp) (h : K.In base) :
    FnOk P w K2 mg base CX k f fd ps sp :=
  ⟨F.len, fun A outer s H args us vs Q E hr e hb hv hs => F.run A outer s H args us vs Q E hr ⟨e.frames, ⟨h, e.mod.glob, e.mod.blt, e.mod.nolimit⟩, e.bs, e.bsz, e.funs, e.frf, e.hok, e.bare⟩ hb hv hs⟩
theorem at_mem : ∀ {l : List (Addr × Obj)} {a : Addr} {o : Obj}, l.lookup a = some o → (a, o) ∈ l
  | [], a, o, h => by cases h
  | (b, u) :: l, a, o, h => by
    rw [List.lookup_cons] at h
    by_cases e : a = b
    · subst e
      simp at h
      subst h
      exact List.mem_cons_self
    · have e2 : (a == b) = false := by simpa using e
      rw [e2] at h
      exact List.mem_cons_of_mem _ (at_mem h)
/-- objects that stand in the heap may be added to what is known -/
theorem more_in {K ext : PySem.W.Frag} {h : Heap} (hK : K.In h) (hx : ∀ p ∈ ext, h.get? p.1 = some p.2) : PySem.W.Frag.In (K ++ ext) h := fun a o e => by
  rw [List.lookup_append] at e
  cases hk : K.lookup a with
  | some o2 => rw [hk] at e; cases e; exact hK a _ hk
  | none =>
    rw [hk] at e
    exact hx (a, o) (at_mem (show ext.lookup a = some o from e))
theorem less_in {K ext : PySem.W.Frag} {h : Heap} (hK : PySem.W.Frag.In (K ++ ext) h) : K.In h := fun a o e => hK a o (by rw [List.lookup_append, e]; rfl)
theorem has_in {K ext : PySem.W.Frag} {h g : Heap} (hK : K.In h) (hx : ∀ p ∈ ext, h.get? p.1 = some p.2) (hg : PySem.W.Frag.In (K ++ ext) g) : ∀ p ∈ ext, g.get? p.1 = some p.2 := by
  rintro ⟨a, o⟩ hp
  have h1 := more_in hK hx
  cases e : (K ++ ext).lookup a with
  | none =>
    rw [List.lookup_append] at e
    cases hk : K.lookup a with
    | some o2 => rw [hk] at e; cases e
    | none =>
      rw [hk] at e
      exact absurd hp (fun hp => by
        have := List.lookup_eq_none_iff.mp (show ext.lookup a = none from e) (a, o) hp
        simp at this)
  | some o2 =>
    have e1 := h1 a o2 e
    rw [hx _ hp] at e1
    cases e1
    exact hg a o e
theorem NoSeer_ext {h : Heap} (hN : h.NoSeer) : ∃ ext : PySem.W.Frag, (∀ p ∈ ext, h.get? p.1 = some p.2) ∧ (∀ p ∈ ext, p.2.cls ≠ .type "list" ∨ ∃ es ep, p.2.data = .dict es ep) ∧ ∀ g : Heap, (∀ p ∈ ext, g.get? p.1 = some p.2) → g.NoSeer := by
  obtain ⟨mc, ⟨o1, es1, ep1, g1, d1, r1⟩, c1⟩ := hN.statics
  obtain ⟨mm, ⟨o2, es2, ep2, g2, d2, r2⟩, c2⟩ := hN.mods
  obtain ⟨mb, ⟨o3, es3, ep3, g3, d3, r3⟩, c3⟩ := hN.imp
  obtain ⟨mg, bm, ob, ⟨o4, es4, ep4, g4, d4, r4⟩, c4, g5, c5⟩ := hN.main
  refine ⟨[(cStatics, o1), (sysModules, o2), (builtinsNs, o3), (mainGlobals, o4), (bm, ob)], ?_, ?_, fun g hg => ?_⟩
  · intro p hp
    simp only [List.mem_cons, List.not_mem_nil, or_false] at hp
    rcases hp with rfl | rfl | rfl | rfl | rfl <;> assumption
  · intro p hp
    simp only [List.mem_cons, List.not_mem_nil, or_false] at hp
    rcases hp with rfl | rfl | rfl | rfl | rfl
    · exact .inr ⟨_, _, d1⟩
    · exact .inr ⟨_, _, d2⟩
    · exact .inr ⟨_, _, d3⟩
    · exact .inr ⟨_, _, d4⟩
    · refine .inl ?_
      rw [c5.1]
      intro z
      injection z with z
      exact absurd z (by decide)
  · have q1 := hg (cStatics, o1) (by simp)
    have q2 := hg (sysModules, o2) (by simp)
    have q3 := hg (builtinsNs, o3) (by simp)
    have q4 := hg (mainGlobals, o4) (by simp)
    have q5 := hg (bm, ob) (by simp)
    exact ⟨⟨mc, ⟨o1, es1, ep1, q1, d1, r1⟩, c1⟩, ⟨mm, ⟨o2, es2, ep2, q2, d2, r2⟩, c2⟩, ⟨mb, ⟨o3, es3, ep3, q3, d3, r3⟩, c3⟩, ⟨mg, bm, ob, ⟨o4, es4, ep4, q4, d4, r4⟩, c4, q5, c5⟩⟩
theorem walk_ofS {l : PySem.W.OpenLaw} {n k : Nat} {q : Program} {loose : List Str} {XP : (Str → Option Value) → Heap → Prop} {YP : World → Heap → Prop} {d : DefRec} {K : Params → PySem.W.Frag} {x : Str}
    (hn : l.most = some n) (hn2 : n = 63) (hdf : d.params.defaults = []) (hr : Room k callerA) (hq : importsNone q = true) (ht : l.prog.given.tree = none)
    (hY : ∀ (w : World) (h : Heap), YP w h → (K w.params).In h)
    (F : ∀ (w : World) (mg : Str → Option Value) (fa : Addr) (h : Heap), (K w.params).In h → h.Ns mainGlobals mg → mg d.name = some (.ref fa) →
      ∃ fd : FuncData, (∀ (s : Shared) (u : Value), BindsTo s fd ⟨[u], []⟩ [(x, u)]) ∧
        ∀ base : Heap, (K w.params).In base → base.Ns mainGlobals mg → Grd base l.prog → FnOk l.prog w (K w.params) mg base CX0 k fa fd [x] (spLaw (K w.params))) :
    PySem.W.WalkO q loose XP YP l.row.toRowW d [] (fun f vs => PySem.call f vs) := by
  refine Att.attach_callB hn hdf fun w s₀ s₁ mg mb fa o pm cd doc a vs ns G Y ho hd hcd hmg hobj hints hlen hbits hg => ?_
  have KX := hY w _ Y
  obtain ⟨fd, hb, hF⟩ := F w mg fa _ KX G.T.g hmg
  obtain ⟨ext, hx1, hx2, hx3⟩ := NoSeer_ext (G.T.seer hq)
  refine law_call (K := K w.params ++ ext) (CX := CX0) (sp := spLaw (K w.params)) (more_in KX hx1) G.T.g G.T.b G.T.builtins G.T.nolimit hg hobj hints (Nat.le_trans hlen (by subst hn2; decide)) hr (fun base hkb hnb => ?_) hb (fun H hO hS => ?_) fun H e s' h => h
  · exact fn_less (hF base (less_in hkb) hnb ⟨hx3 base (has_in KX hx1 hkb), ht⟩) (less_in hkb)
  · subst hn2
    refine ⟨a, ns, rfl, ?_, hlen, hbits, fun _ => rfl⟩
    rcases hS with h | ⟨ob, its, m, e, h1, h2, h3, h4, h5⟩
    · exact .inl h
    · rw [List.lookup_append] at e
      cases hk : (K w.params).lookup a with
      | some o2 => rw [hk] at e; cases e; exact .inr ⟨_, its, m, hk, h1, h2, h3, h4, h5⟩
      | none =>
        rw [hk] at e
        rcases hx2 (a, ob) (at_mem (show ext.lookup a = some ob from e)) with z | ⟨es, ep, z⟩
        · exact absurd h1 z
        · rw [show ob.data = .dict es ep from z] at h3
          cases h3
end Q

set_option Elab.async false
set_option linter.all false
set_option maxRecDepth 100000
set_option maxHeartbeats 1000000
namespace Q
open PySem L2
/-! ### meanings run: for simp -/
section
variable {d : D} {env : En} {i : Nat} {o a b : O} {x y : Int} {ma mb : EM O} {mA mB : EM (List O)} {na nb : EM Bool} {sa sb : SM}
@[simp] theorem e_mC : mC d env = some (.fz d, env) := rfl
@[simp] theorem e_mView : mView i env = match env[i]? with | some (.has o) => some (o, env) | _ => none := rfl
@[simp] theorem e_mName : mName i env = match env[i]? with | some (.has (.fz d)) => some (.fz d, env) | some (.has o) => some (.fz o.frz, env.set i (.has (.fz o.frz))) | _ => none := rfl
@[simp] theorem e_mFz : mFz ma env = match ma env with | some (.fz d, e) => some (.fz d, e) | _ => none := rfl
@[simp] theorem e_mFrz : mFrz ma env = match ma env with | some (o, e) => some (.fz o.frz, e) | none => none := rfl
@[simp] theorem e_m1 {g : O → Option O} : m1 g ma env = (ma env).bind fun p => (g p.1).bind fun z => some (z, p.2) := rfl
@[simp] theorem e_m2 {g : O → O → Option O} : m2 g ma mb env = (ma env).bind fun p => (mb p.2).bind fun q => (g p.1 q.1).bind fun z => some (z, q.2) := rfl
@[simp] theorem e_mNil : mNil env = some ([], env) := rfl
@[simp] theorem e_mCons : mCons ma mA env = (ma env).bind fun p => (mA p.2).bind fun q => some (p.1 :: q.1, q.2) := rfl
@[simp] theorem e_mL {g : List O → Option O} : mL g mA env = (mA env).bind fun p => (g p.1).bind fun z => some (z, p.2) := rfl
@[simp] theorem e_mTst : mTst ma env = (ma env).bind fun p => match p.1 with | .fz (.bl b) => some (b, p.2) | _ => none := rfl
@[simp] theorem e_mTru {g : O → Option Bool} : mTru g ma env = (ma env).bind fun p => (g p.1).bind fun z => some (z, p.2) := rfl
@[simp] theorem e_mAnd : mAnd na nb env = (na env).bind fun p => if p.1 = true then nb p.2 else some (false, p.2) := rfl
@[simp] theorem e_mOr : mOr na nb env = (na env).bind fun p => if p.1 = true then some (true, p.2) else nb p.2 := rfl
@[simp] theorem e_mNot : mNot na env = (na env).bind fun p => some (!p.1, p.2) := rfl
@[simp] theorem e_mIf : mIf na ma mb env = (na env).bind fun p => if p.1 = true then ma p.2 else mb p.2 := rfl
@[simp] theorem e_mAndV : mAndV ma mb env = (ma env).bind fun p => match p.1 with | .fz (.bl c) => if c = true then mb p.2 else some (.fz (.bl false), p.2) | _ => none := rfl
@[simp] theorem e_mOrV : mOrV ma mb env = (ma env).bind fun p => match p.1 with | .fz (.bl c) => if c = true then some (.fz (.bl true), p.2) else mb p.2 | _ => none := rfl
@[simp] theorem e_mNotV : mNotV ma env = (ma env).bind fun p => match p.1 with | .fz (.bl c) => some (.fz (.bl (!c)), p.2) | _ => none := rfl
@[simp] theorem e_mTup : mTup mA env = (mA env).bind fun p => if p.1.length ≤ sizeLine then some (.fz (.tup (O.frzs p.1)), p.2) else none := rfl
@[simp] theorem e_mLst : mLst mA env = (mA env).bind fun p => if p.1.length ≤ sizeLine then some (.ls p.1, p.2) else none := rfl
@[simp] theorem e_mCall {f : List D → Option D} : mCall f mA env = (mA env).bind fun p => (f (O.frzs p.1)).bind fun d => some (.fz d, p.2) := rfl
@[simp] theorem e_sNext : sNext env = some (.nx env) := rfl
@[simp] theorem e_sSeq : sSeq sa sb env = (sa env).bind fun out => match out with | .nx e => sb e | .rt d => some (.rt d) | .bk e => some (.bk e) | .ct e => some (.ct e) := rfl
@[simp] theorem e_sAsg : sAsg i ma env = (ma env).bind fun p => if i < p.2.length then some (.nx (p.2.set i (.has p.1))) else none := rfl
@[simp] theorem e_sAsgT {gs : D → En → Option En} : sAsgT gs ma env = (ma env).bind fun p => (gs p.1.frz p.2).bind fun e => some (.nx e) := rfl
@[simp] theorem e_sDrop : sDrop ma env = (ma env).bind fun p => some (.nx p.2) := rfl
@[simp] theorem e_sRet : sRet ma env = (ma env).bind fun p => some (.rt p.1.frz) := rfl
@[simp] theorem e_sRetN : sRetN env = some (.rt .non) := rfl
@[simp] theorem e_sIf : sIf na sa sb env = (na env).bind fun p => if p.1 = true then sa p.2 else sb p.2 := rfl
@[simp] theorem e_sBreak : sBreak env = some (.bk env) := rfl
@[simp] theorem e_sCont : sCont env = some (.ct env) := rfl
@[simp] theorem e_sFor {mi : EM (List D)} {gs : D → En → Option En} : sFor mi gs sa env = (mi env).bind fun p => forL gs sa p.1 p.2 := rfl
@[simp] theorem e_sAug {f : Int → Int → Int} : sAug i f ma env = match env[i]? with | some (.has (.fz (.int x))) => (ma env).bind fun p => (match p.1 with | .fz (.int y) => if i < p.2.length then some (.nx (p.2.set i (.has (.fz (.int (f x y)))))) else none | _ => none) | _ => none := rfl
@[simp] theorem e_mItF : mItF ma env = (ma env).bind fun p => (p.1.frz.items).bind fun ds => some (ds, p.2) := rfl
@[simp] theorem e_mItV : mItV ma env = (ma env).bind fun p => (p.1.items).bind fun ds => some (ds, p.2) := rfl
@[simp] theorem e_mLc {vs : List Nat} {mi : EM (List D)} {gs : D → En → Option En} : mLc vs mi gs na ma env = (mi env).bind fun p => (lcLoop vs gs na ma p.1 [] p.2).bind fun q => some (.ls q.1, q.2) := rfl
@[simp] theorem e_mYes : mYes env = some (true, env) := rfl
@[simp] theorem e_gsName : gsName i d env = if i < env.length then some (env.set i (.has (.fz d))) else none := rfl
@[simp] theorem e_gsNil {ds : List D} : gsNil ds env = match ds with | [] => some env | _ => none := rfl
@[simp] theorem e_gsCons {g : D → En → Option En} {r : List D → En → Option En} {ds : List D} : gsCons g r ds env = match ds with | d :: ds => (g d env).bind fun e => r ds e | _ => none := rfl
@[simp] theorem e_gsTup {n : Nat} {r : List D → En → Option En} : gsTup n r d env = match d with | .tup ds => if ds.length = n then r ds env else none | _ => none := rfl
@[simp] theorem e_sApp : sApp i ma env = (lsAt i env).bind fun _ => (ma env).bind fun p => (lsAt i p.2).bind fun os => if os.length < sizeLine then some (.nx (p.2.set i (.has (.ls (os ++ [p.1]))))) else none := rfl
@[simp] theorem e_lsAt : lsAt i env = match env[i]? with | some (.has (.ls os)) => some os | _ => none := rfl
@[simp] theorem e_frzs0 : O.frzs [] = [] := by rw [O.frzs]
@[simp] theorem e_frzs1 {os : List O} : O.frzs (o :: os) = o.frz :: O.frzs os := by rw [O.frzs]
@[simp] theorem e_frz : (O.fz d).frz = d := by rw [O.frz]
@[simp] theorem e_frzl {os : List O} : (O.ls os).frz = .lst (O.frzs os) := by rw [O.frz]
@[simp] theorem e_frzsfz : ∀ ds : List D, O.frzs (ds.map O.fz) = ds
  | [] => by simp
  | d :: ds => by rw [List.map_cons, e_frzs1, e_frz, e_frzsfz ds]
@[simp] theorem e_add : oAdd (.fz (.int x)) (.fz (.int y)) = some (.fz (.int (x + y))) := rfl
@[simp] theorem e_addT {xs ys : List D} : oAdd (.fz (.tup xs)) (.fz (.tup ys)) = if xs.length + ys.length ≤ sizeLine then some (.fz (.tup (xs ++ ys))) else none := by
  unfold oAdd oAddI oAddT oAddS oAddL oIg
  simp [O.asL]
theorem e_addL {a b : O} {xs ys : List D} (ha : a.asL = some (xs.map .fz)) (hb : b.asL = some (ys.map .fz)) (hz : xs.length + ys.length ≤ sizeLine) (hi : oAddI a b = none := by rfl) (ht : oAddT a b = none := by rfl) (hs : oAddS a b = none := by rfl) : oAdd a b = some (.ls ((xs ++ ys).map .fz)) := by
  unfold oAdd oAddL
  rw [hi, ht, hs, ha, hb]
  simp only [Option.bind_some, List.length_map, if_pos hz, mapM_fz, Option.none_or]
@[simp] theorem e_addLL {xs ys : List D} : oAdd (.ls (xs.map .fz)) (.ls (ys.map .fz)) = if xs.length + ys.length ≤ sizeLine then some (.ls ((xs ++ ys).map .fz)) else none := by
  by_cases hz : xs.length + ys.length ≤ sizeLine
  · rw [if_pos hz, e_addL rfl rfl hz]
  · rw [if_neg hz]
    unfold oAdd oAddL
    simp [O.asL, hz, oAddI, oAddT, oAddS, oIg]
@[simp] theorem e_sub : oSub (.fz (.int x)) (.fz (.int y)) = some (.fz (.int (x - y))) := rfl
@[simp] theorem e_mul : oMul (.fz (.int x)) (.fz (.int y)) = if mulOk x y = true then some (.fz (.int (x * y))) else none := by
  unfold oMul oMulI oMulL oIg
  simp
@[simp] theorem e_fdiv : oFdiv (.fz (.int x)) (.fz (.int y)) = if y ≠ 0 then some (.fz (.int (x.fdiv y))) else none := rfl
@[simp] theorem e_mod : oMod (.fz (.int x)) (.fz (.int y)) = if y ≠ 0 then some (.fz (.int (x.fmod y))) else none := rfl
@[simp] theorem e_pow : oPow (.fz (.int x)) (.fz (.int y)) = if 0 ≤ y ∧ y ≤ 1000000 ∧ x.natAbs < 2 ^ 64 then some (.fz (.int (x ^ y.toNat))) else none := rfl
@[simp] theorem e_neg : oNeg (.fz (.int x)) = some (.fz (.int (-x))) := rfl
@[simp] theorem e_lt : oLt (.fz (.int x)) (.fz (.int y)) = some (.fz (.bl (decide (x < y)))) := rfl
@[simp] theorem e_le : oLe (.fz (.int x)) (.fz (.int y)) = some (.fz (.bl (decide (x ≤ y)))) := rfl
@[simp] theorem e_gt : oGt (.fz (.int x)) (.fz (.int y)) = some (.fz (.bl (decide (y < x)))) := rfl
@[simp] theorem e_ge : oGe (.fz (.int x)) (.fz (.int y)) = some (.fz (.bl (decide (y ≤ x)))) := rfl
@[simp] theorem e_eqI : oEq (.fz (.int x)) (.fz (.int y)) = some (.fz (.bl (x == y))) := by
  simp [oEq, oEqB, D.py, O.frz, SeqAt.shaped, PyData.canLay0, PyData.depth, PyData.eqv]
@[simp] theorem e_neI : oNe (.fz (.int x)) (.fz (.int y)) = some (.fz (.bl (!(x == y)))) := by
  simp [oNe, oEqB, D.py, O.frz, SeqAt.shaped, PyData.canLay0, PyData.depth, PyData.eqv]
@[simp] theorem e_eqR {x2 y2 : Int} : oEq (.fz (.tup [.int x, .int x2])) (.fz (.tup [.int y, .int y2])) = some (.fz (.bl (x == y && x2 == y2))) := by
  simp [oEq, oEqB, D.py, D.pys, O.frz, SeqAt.shaped, PyData.canLay0, PyData.canLayAll0, PyData.depth, PyData.depthAll, PyData.eqv, PyData.eqvAll]
@[simp] theorem e_neR {x2 y2 : Int} : oNe (.fz (.tup [.int x, .int x2])) (.fz (.tup [.int y, .int y2])) = some (.fz (.bl (!(x == y && x2 == y2)))) := by
  simp [oNe, oEqB, D.py, D.pys, O.frz, SeqAt.shaped, PyData.canLay0, PyData.canLayAll0, PyData.depth, PyData.depthAll, PyData.eqv, PyData.eqvAll]
@[simp] theorem e_is : oIs a (.fz .non) = some (.fz (.bl (isN a))) := rfl
@[simp] theorem e_isnot : oIsNot a (.fz .non) = some (.fz (.bl (!isN a))) := rfl
@[simp] theorem e_len : gLen [.fz (.tup ds)] = some (.fz (.int ds.length)) := rfl
@[simp] theorem e_lenL {ds : List D} : gLen [.fz (.lst ds)] = some (.fz (.int ds.length)) := rfl
@[simp] theorem e_lenO {os : List O} : gLen [.ls os] = some (.fz (.int os.length)) := rfl
@[simp] theorem e_gInt : gInt [.fz (.int x)] = some (.fz (.int x)) := rfl
@[simp] theorem e_gIntB {b : Bool} : gInt [.fz (.bl b)] = some (.fz (.int (if b then 1 else 0))) := rfl
@[simp] theorem e_gAbs : gAbs [.fz (.int x)] = some (.fz (.int (if x < 0 then -x else x))) := rfl
@[simp] theorem e_gMax : gMax2 [.fz (.int x), .fz (.int y)] = some (.fz (.int (if y > x then y else x))) := rfl
@[simp] theorem e_gMin : gMin2 [.fz (.int x), .fz (.int y)] = some (.fz (.int (if y < x then y else x))) := rfl
@[simp] theorem e_gGcd : gGcd [.fz (.int x), .fz (.int y)] = some (.fz (.int ((Nat.gcd x.natAbs y.natAbs : Nat) : Int))) := rfl
@[simp] theorem e_gTup {ds : List D} : gTuple [.fz (.tup ds)] = some (.fz (.tup ds)) := rfl
@[simp] theorem e_gTupL {ds : List D} : gTuple [.fz (.lst ds)] = some (.fz (.tup ds)) := by
  simp only [gTuple, O.asL, mapM_fz, Option.bind_some]
@[simp] theorem e_gTupO {ds : List D} : gTuple [.ls (ds.map .fz)] = some (.fz (.tup ds)) := by
  simp only [gTuple, O.asL, mapM_fz, Option.bind_some]
@[simp] theorem e_gLstT {ds : List D} : gList [.fz (.tup ds)] = some (.ls (ds.map .fz)) := by
  simp only [gList, O.asS, mapM_fz, Option.bind_some]
@[simp] theorem e_gLstL {ds : List D} : gList [.fz (.lst ds)] = some (.ls (ds.map .fz)) := by
  simp only [gList, O.asS, mapM_fz, Option.bind_some]
@[simp] theorem e_gLstO {ds : List D} : gList [.ls (ds.map .fz)] = some (.ls (ds.map .fz)) := by
  simp only [gList, O.asS, mapM_fz, Option.bind_some]
@[simp] theorem e_ixT {ds : List D} : oIx (.fz (.tup ds)) (.fz (.int x)) = (atI ds x).map .fz := rfl
@[simp] theorem e_ixL {ds : List D} : oIx (.fz (.lst ds)) (.fz (.int x)) = (atI ds x).map .fz := rfl
@[simp] theorem e_ixO {os : List O} : oIx (.ls os) (.fz (.int x)) = atI os x := rfl
@[simp] theorem e_at0 {α : Type} {x : α} {xs : List α} : atI (x :: xs) 0 = some x := by
  unfold atI ixN
  simp
@[simp] theorem e_at1 {α : Type} {x y : α} {xs : List α} : atI (x :: y :: xs) 1 = some y := by
  unfold atI ixN
  rw [if_pos (by omega), if_pos (by simp only [List.length_cons]; omega)]
  rfl
@[simp] theorem e_at2 {α : Type} {x y z : α} {xs : List α} : atI (x :: y :: z :: xs) 2 = some z := by
  unfold atI ixN
  rw [if_pos (by omega), if_pos (by simp only [List.length_cons]; omega)]
  rfl
theorem atI_nat' {α : Type} {xs : List α} {j : Nat} (h : j < xs.length) : atI xs (j : Int) = xs[j]? := by
  unfold atI ixN
  rw [if_pos (by omega), if_pos (by omega)]
  rfl
@[simp] theorem e_truB {b : Bool} : oTru (.fz (.bl b)) = some b := rfl
@[simp] theorem e_truI : oTru (.fz (.int x)) = some (x != 0) := rfl
@[simp] theorem e_sizeLine : sizeLine = 16777216 := sizeLine_eq
@[simp] theorem e_outrt : outD (.rt d) = some d := rfl
@[simp] theorem e_outnx : outD (.nx env) = some .non := rfl
@[simp] theorem e_isNnon : isN (.fz .non) = true := rfl
@[simp] theorem e_isNint : isN (.fz (.int x)) = false := rfl
@[simp] theorem e_isNtup {ds : List D} : isN (.fz (.tup ds)) = false := rfl
@[simp] theorem e_isNlst {ds : List D} : isN (.fz (.lst ds)) = false := rfl
@[simp] theorem e_isNbl {b : Bool} : isN (.fz (.bl b)) = false := rfl
@[simp] theorem e_isNstr {b : Str} : isN (.fz (.str b)) = false := rfl
end
theorem run_eq {n N : Nat} {m : SM} {ds : List D} (h : ds.length = n) : runD n N m ds = (m (startE N ds)).bind outD := by
  unfold runD
  rw [if_pos h]
/-! ### loops -/
theorem forL_inv {gs : D → En → Option En} {mb : SM} (I : Nat → En → Prop) : ∀ (ds : List D) (k : Nat) (env : En), I k env → (∀ i d env, ds[i]? = some d → I (k + i) env → ∃ e1 e2, gs d env = some e1 ∧ (mb e1 = some (.nx e2) ∨ mb e1 = some (.ct e2)) ∧ I (k + i + 1) e2) →
    ∃ env', forL gs mb ds env = some (.nx env') ∧ I (k + ds.length) env'
  | [], k, env, h, _ => ⟨env, rfl, h⟩
  | d :: ds, k, env, h, hs => by
    obtain ⟨e1, e2, h1, h2, h3⟩ := hs 0 d env rfl h
    obtain ⟨env', h4, h5⟩ := forL_inv I ds (k + 1) e2 h3 (fun i d' env he hI => by
      obtain ⟨a, b, c, d, e⟩ := hs (i + 1) d' env (by simpa using he) (by rw [← Nat.add_assoc, Nat.add_right_comm]; exact hI)
      exact ⟨a, b, c, d, by rw [show k + 1 + i + 1 = k + (i + 1) + 1 by omega]; exact e⟩)
    refine ⟨env', ?_, by rw [List.length_cons, show k + (ds.length + 1) = k + 1 + ds.length by omega]; exact h5⟩
    rw [forL, h1, Option.bind_some]
    rcases h2 with h2 | h2 <;> (rw [h2, Option.bind_some]; exact h4)
theorem for_inv {gs : D → En → Option En} {mb : SM} {ds : List D} {env : En} (I : Nat → En → Prop) (h0 : I 0 env) (hs : ∀ i d env, ds[i]? = some d → I i env → ∃ e1 e2, gs d env = some e1 ∧ (mb e1 = some (.nx e2) ∨ mb e1 = some (.ct e2)) ∧ I (i + 1) e2) :
    ∃ env', forL gs mb ds env = some (.nx env') ∧ I ds.length env' := by
  obtain ⟨e, h1, h2⟩ := forL_inv I ds 0 env h0 (fun i d env h1 h2 => by
    rw [Nat.zero_add] at h2 ⊢
    exact hs i d env h1 h2)
  exact ⟨e, h1, by rw [Nat.zero_add] at h2; exact h2⟩
theorem rangeD_get {lo : Int} {n i : Nat} {d : D} (h : (rangeD lo n)[i]? = some d) : i < n ∧ d = .int (lo + (i : Nat)) := by
  unfold rangeD at h
  rw [List.getElem?_map] at h
  obtain ⟨j, h1, h2⟩ := Option.map_eq_some_iff.mp h
  obtain ⟨h3, h4⟩ := List.getElem?_eq_some_iff.mp h1
  have h5 : i < n := by simpa using h3
  have h6 : j = i := by simpa using h4.symm
  subst h6
  exact ⟨h5, h2.symm⟩
theorem rangeD0_get {n i : Nat} {d : D} (h : (rangeD 0 n)[i]? = some d) : i < n ∧ d = .int (i : Nat) := by
  obtain ⟨h1, h2⟩ := rangeD_get h
  exact ⟨h1, by rw [h2, Int.zero_add]⟩
@[simp] theorem rangeD_len {lo : Int} {n : Nat} : (rangeD lo n).length = n := by simp [rangeD]
/-- a comprehension without a test whose element leaves the frame as it is -/
theorem lc_map {vs : List Nat} {gs : D → En → Option En} {me : EM O} {env : En} (g : D → O) : ∀ (ds : List D) (acc : List O), okE env vs = true → acc.length + ds.length ≤ sizeLine → (∀ d ∈ ds, ∃ e1 e2, gs d (wipeE env vs) = some e1 ∧ me e1 = some (g d, e2) ∧ backE env e2 vs = env) →
    lcLoop vs gs mYes me ds acc env = some (acc ++ ds.map g, env)
  | [], acc, _, _, _ => by simp [lcLoop]
  | d :: ds, acc, h0, hz, h => by
    obtain ⟨e1, e2, h1, h2, h3⟩ := h d (by simp)
    have hl : acc.length < sizeLine := by rw [List.length_cons] at hz; omega
    rw [lcLoop, if_pos h0, h1, Option.bind_some, e_mYes, Option.bind_some]
    show (if true = true then (me e1).bind _ else _) = _
    rw [if_pos rfl, h2, Option.bind_some, if_pos hl, h3, lc_map g ds _ h0 (by rw [List.length_append, List.length_singleton]; rw [List.length_cons] at hz; omega) (fun d' hd => h d' (by simp [hd]))]
    simp
theorem lc_filter {vs : List Nat} {gs : D → En → Option En} {mt : EM Bool} {me : EM O} {env : En} (p : D → Bool) (g : D → O) : ∀ (ds : List D) (acc : List O), okE env vs = true → acc.length + ds.length ≤ sizeLine → (∀ d ∈ ds, ∃ e1 e2, gs d (wipeE env vs) = some e1 ∧ mt e1 = some (p d, e2) ∧ (p d = true → ∃ e3, me e2 = some (g d, e3) ∧ backE env e3 vs = env) ∧ (p d = false → backE env e2 vs = env)) →
    lcLoop vs gs mt me ds acc env = some (acc ++ (ds.filter p).map g, env)
  | [], acc, _, _, _ => by simp [lcLoop]
  | d :: ds, acc, h0, hz, h => by
    obtain ⟨e1, e2, h1, h2, h3, h4⟩ := h d (by simp)
    have hl : acc.length < sizeLine := by rw [List.length_cons] at hz; omega
    rw [lcLoop, if_pos h0, h1, Option.bind_some, h2, Option.bind_some]
    cases hp : p d with
    | true =>
      obtain ⟨e3, h5, h6⟩ := h3 hp
      show (if true = true then (me e2).bind _ else _) = _
      rw [if_pos rfl, h5, Option.bind_some, if_pos hl, h6, lc_filter p g ds _ h0 (by rw [List.length_append, List.length_singleton]; rw [List.length_cons] at hz; omega) (fun d' hd => h d' (by simp [hd]))]
      simp [hp]
    | false =>
      show (if false = true then (me e2).bind _ else lcLoop vs gs mt me ds acc (backE env e2 vs)) = _
      rw [if_neg Bool.false_ne_true, h4 hp, lc_filter p g ds _ h0 (by rw [List.length_cons] at hz; omega) (fun d' hd => h d' (by simp [hd]))]
      simp [hp]
end Q

set_option Elab.async false
set_option linter.all false
set_option maxRecDepth 100000
set_option maxHeartbeats 1000000
namespace Q
open PySem L2
/-! ### ratios -/
def encQ (q : Rat) : D := .tup [.int q.num, .int (q.den : Int)]
theorem encQ_inj {a b : Rat} (h : encQ a = encQ b) : a = b := by
  unfold encQ at h
  injection h with h
  injection h with h1 h2
  injection h1 with h1
  injection h2 with h2 _
  injection h2 with h2
  exact Rat.ext h1 (by exact_mod_cast h2)
/-- small enough, by powers of two -/
def Sq (n d : Nat) (q : Rat) : Prop := q.num.natAbs < 2 ^ n ∧ q.den < 2 ^ d
theorem Sq.mono {n d n' d' : Nat} {q : Rat} (h : Sq n d q) (hn : n ≤ n') (hd : d ≤ d') : Sq n' d' q :=
  ⟨Nat.lt_of_lt_of_le h.1 (Nat.pow_le_pow_right (by decide) hn), Nat.lt_of_lt_of_le h.2 (Nat.pow_le_pow_right (by decide) hd)⟩
theorem intBits_lt {x : Int} {k : Nat} (h : x.natAbs < 2 ^ k) : Builtin.Int.intBits x ≤ k := by
  unfold Builtin.Int.intBits
  split
  · exact Nat.zero_le _
  · rename_i hx
    have hx' : x.natAbs ≠ 0 := by
      intro e
      exact hx (by simpa using e)
    have := (Nat.log2_lt hx').mpr h
    omega
theorem lt_intBits {x : Int} {k : Nat} (h : Builtin.Int.intBits x ≤ k) : x.natAbs < 2 ^ k := by
  unfold Builtin.Int.intBits at h
  split at h
  · rename_i hx
    have : x = 0 := by simpa using hx
    subst this
    exact Nat.two_pow_pos k
  · rename_i hx
    have hx' : x.natAbs ≠ 0 := by
      intro e
      exact hx (by simpa using e)
    exact (Nat.log2_lt hx').mp (by omega)
theorem mul_ok {x y : Int} {j k : Nat} (hx : x.natAbs < 2 ^ j) (hy : y.natAbs < 2 ^ k) (h : j + k ≤ 134217728) : mulOk x y = true := by
  unfold mulOk
  have h1 := intBits_lt hx
  have h2 := intBits_lt hy
  simp only [Bool.or_eq_true, decide_eq_true_eq]
  right
  omega
theorem mul_okL {x y : Int} (hx : x.natAbs < 2 ^ 64) : mulOk x y = true := by
  unfold mulOk
  have h1 := intBits_lt hx
  simp [h1]
theorem mul_okR {x y : Int} (hx : y.natAbs < 2 ^ 64) : mulOk x y = true := by
  unfold mulOk
  have h1 := intBits_lt hx
  simp [h1]
theorem natAbs_mul_lt {x y : Int} {j k : Nat} (hx : x.natAbs < 2 ^ j) (hy : y.natAbs < 2 ^ k) : (x * y).natAbs < 2 ^ (j + k) := by
  rw [Int.natAbs_mul, Nat.pow_add]
  exact Nat.mul_lt_mul'' hx hy
theorem natAbs_add_lt {x y : Int} {k : Nat} (hx : x.natAbs < 2 ^ k) (hy : y.natAbs < 2 ^ k) : (x + y).natAbs < 2 ^ (k + 1) := by
  rw [Nat.pow_succ]
  omega
theorem natAbs_sub_lt {x y : Int} {k : Nat} (hx : x.natAbs < 2 ^ k) (hy : y.natAbs < 2 ^ k) : (x - y).natAbs < 2 ^ (k + 1) := by
  rw [Nat.pow_succ]
  omega
theorem pyl_lt {x y : Int} (h : y.natAbs < 2 ^ 9000) : Builtin.divisionGoesByPylong x y = false := by
  by_cases h0 : y.natAbs = 0
  · refine PyProof.noPylong_of_log2 ?_
    rw [h0]; decide +kernel
  · exact PyProof.noPylong_of_log2 ((Nat.log2_lt h0).mpr h)
/-- a divisor that stock divides by without more ado -/
def Dv (y : Int) : Prop := y.natAbs < 2 ^ 9000
theorem Dv.of {y : Int} {k : Nat} (h : y.natAbs < 2 ^ k) (hk : k ≤ 9000) : Dv y := Nat.lt_of_lt_of_le h (Nat.pow_le_pow_right (by decide) hk)
theorem Dv.le {y z : Int} (h : Dv y) (hk : z.natAbs ≤ y.natAbs) : Dv z := Nat.lt_of_le_of_lt hk h
theorem Dv.pyl {x y : Int} (h : Dv y) : Builtin.divisionGoesByPylong x y = false := pyl_lt h
theorem gcd_le_natAbs {n d : Int} (h : d ≠ 0) : Nat.gcd n.natAbs d.natAbs ≤ d.natAbs := Nat.gcd_le_right _ (by omega)
/-- n, d without their common divisor are the ratio's parts -/
theorem divInt_parts_pos (n : Int) {d : Int} (h : 0 < d) : (Rat.divInt n d).num = n.fdiv ((Nat.gcd n.natAbs d.natAbs : Nat) : Int) ∧ ((Rat.divInt n d).den : Int) = d.fdiv ((Nat.gcd n.natAbs d.natAbs : Nat) : Int) := by
  have hg : Int.gcd d n = Nat.gcd n.natAbs d.natAbs := by
    show Nat.gcd d.natAbs n.natAbs = _
    exact Nat.gcd_comm _ _
  constructor
  · rw [Rat.num_divInt, hg, Int.sign_eq_one_of_pos h, Int.one_mul, Int.fdiv_eq_ediv_of_nonneg _ (by omega)]
  · rw [Rat.den_divInt, if_neg (by omega), hg, Int.fdiv_eq_ediv_of_nonneg _ (by omega), Int.natCast_ediv]
    rw [Int.natAbs_of_nonneg (by omega)]
theorem divInt_parts_neg (n : Int) {d : Int} (h : d < 0) : (Rat.divInt n d).num = n.fdiv (-((Nat.gcd n.natAbs d.natAbs : Nat) : Int)) ∧ ((Rat.divInt n d).den : Int) = d.fdiv (-((Nat.gcd n.natAbs d.natAbs : Nat) : Int)) := by
  have h1 := divInt_parts_pos (-n) (d := -d) (by omega)
  rw [Int.natAbs_neg, Int.natAbs_neg] at h1
  have e : Rat.divInt (-n) (-d) = Rat.divInt n d := Rat.neg_divInt_neg n d
  rw [e] at h1
  have hf : ∀ a b : Int, (-a).fdiv b = a.fdiv (-b) := fun a b => by
    have := Int.neg_fdiv_neg a (-b)
    rw [Int.neg_neg] at this
    exact this
  rw [hf, hf] at h1
  exact h1
theorem sq_divInt {n d : Int} {j k : Nat} (hn : n.natAbs < 2 ^ j) (hd : d.natAbs < 2 ^ k) (h0 : d ≠ 0) : Sq j k (Rat.divInt n d) := by
  constructor
  · rw [Rat.num_divInt]
    refine Nat.lt_of_le_of_lt (Nat.le_trans (Int.natAbs_ediv_le_natAbs _ _) ?_) hn
    rw [Int.natAbs_mul, Int.natAbs_sign, if_neg h0, Nat.one_mul]
    exact Nat.le_refl _
  · rw [Rat.den_divInt, if_neg h0]
    exact Nat.lt_of_le_of_lt (Nat.div_le_self _ _) hd
theorem den_ne (q : Rat) : (q.den : Int) ≠ 0 := by
  have := q.den_nz
  omega
theorem den_pos' (q : Rat) : (0 : Int) < (q.den : Int) := by
  have := q.den_nz
  omega
theorem add_divInt (a b : Rat) : Rat.divInt (a.num * b.den + b.num * a.den) (a.den * b.den) = a + b := by
  rw [← Rat.divInt_add_divInt _ _ (den_ne a) (den_ne b), Rat.num_divInt_den, Rat.num_divInt_den]
theorem sub_divInt (a b : Rat) : Rat.divInt (a.num * b.den - b.num * a.den) (a.den * b.den) = a - b := by
  rw [← Rat.divInt_sub_divInt _ _ (den_ne a) (den_ne b), Rat.num_divInt_den, Rat.num_divInt_den]
theorem mul_divInt (a b : Rat) : Rat.divInt (a.num * b.num) (a.den * b.den) = a * b := by
  rw [← Rat.divInt_mul_divInt, Rat.num_divInt_den, Rat.num_divInt_den]
theorem div_divInt (a b : Rat) : Rat.divInt (a.num * b.den) (a.den * b.num) = a / b := by
  rw [← Rat.divInt_mul_divInt, Rat.num_divInt_den, ← Rat.inv_def, Rat.div_def]
theorem pow_up {x j k : Nat} (h : x < 2 ^ j) (hk : j ≤ k) : x < 2 ^ k := Nat.lt_of_lt_of_le h (Nat.pow_le_pow_right (by decide) hk)
theorem den_abs {q : Rat} {k : Nat} (h : q.den < 2 ^ k) : ((q.den : Int)).natAbs < 2 ^ k := by simpa using h
variable {n1 d1 n2 d2 : Nat} {a b : Rat}
theorem sq_add (ha : Sq n1 d1 a) (hb : Sq n2 d2 b) : Sq (max (n1 + d2) (n2 + d1) + 1) (d1 + d2) (a + b) := by
  rw [← add_divInt]
  exact sq_divInt (natAbs_add_lt (pow_up (natAbs_mul_lt ha.1 (den_abs hb.2)) (by omega)) (pow_up (natAbs_mul_lt hb.1 (den_abs ha.2)) (by omega))) (natAbs_mul_lt (den_abs ha.2) (den_abs hb.2)) (Int.mul_ne_zero (den_ne a) (den_ne b))
theorem sq_sub (ha : Sq n1 d1 a) (hb : Sq n2 d2 b) : Sq (max (n1 + d2) (n2 + d1) + 1) (d1 + d2) (a - b) := by
  rw [← sub_divInt]
  exact sq_divInt (natAbs_sub_lt (pow_up (natAbs_mul_lt ha.1 (den_abs hb.2)) (by omega)) (pow_up (natAbs_mul_lt hb.1 (den_abs ha.2)) (by omega))) (natAbs_mul_lt (den_abs ha.2) (den_abs hb.2)) (Int.mul_ne_zero (den_ne a) (den_ne b))
theorem sq_mul (ha : Sq n1 d1 a) (hb : Sq n2 d2 b) : Sq (n1 + n2) (d1 + d2) (a * b) := by
  rw [← mul_divInt]
  exact sq_divInt (natAbs_mul_lt ha.1 hb.1) (natAbs_mul_lt (den_abs ha.2) (den_abs hb.2)) (Int.mul_ne_zero (den_ne a) (den_ne b))
theorem num_ne {b : Rat} (h : b ≠ 0) : b.num ≠ 0 := fun e => h (Rat.num_eq_zero.mp e)
theorem sq_div (ha : Sq n1 d1 a) (hb : Sq n2 d2 b) (h : b ≠ 0) : Sq (n1 + d2) (d1 + n2) (a / b) := by
  rw [← div_divInt]
  exact sq_divInt (natAbs_mul_lt ha.1 (den_abs hb.2)) (natAbs_mul_lt (den_abs ha.2) hb.1) (Int.mul_ne_zero (den_ne a) (num_ne h))
theorem sq_neg (ha : Sq n1 d1 a) : Sq n1 d1 (-a) := by
  unfold Sq
  rw [Rat.neg_num, Rat.neg_den, Int.natAbs_neg]
  exact ha
theorem sq_int {x : Int} {k : Nat} (h : x.natAbs < 2 ^ k) : Sq k 1 (x : Rat) := by
  refine ⟨?_, ?_⟩
  · rw [Rat.num_intCast]; exact h
  · rw [Rat.den_intCast]; decide
theorem sq_one : Sq 1 1 1 := ⟨by decide, by decide⟩
theorem sq_zero : Sq 0 1 0 := ⟨by decide, by decide⟩
theorem divInt_div (x y : Int) : Rat.divInt x y = (x : Rat) / (y : Rat) := by
  rw [← div_divInt, Rat.num_intCast, Rat.den_intCast, Rat.num_intCast, Rat.den_intCast]
  simp
theorem divInt_nonneg {x y : Int} (hx : 0 ≤ x) (hy : 0 < y) : 0 ≤ Rat.divInt x y := by
  rw [Rat.le_iff]
  have h1 : 0 ≤ (Rat.divInt x y).num := by
    rw [Rat.num_divInt, Int.sign_eq_one_of_pos hy, Int.one_mul]
    exact Int.ediv_nonneg hx (by omega)
  simpa using h1
theorem divInt_lt_one {x y : Int} (hy : 0 < y) (h : x < y) : Rat.divInt x y < 1 := by
  have hy' : (0 : Rat) < (y : Rat) := by exact_mod_cast hy
  have hx' : (x : Rat) < (y : Rat) := by exact_mod_cast h
  rw [divInt_div]
  refine Rat.not_le.mp fun hle => ?_
  have h2 := Rat.mul_le_mul_of_nonneg_right hle (Rat.le_of_lt hy')
  have e : (x : Rat) / (y : Rat) * (y : Rat) = (x : Rat) := by
    have : (y : Rat) ≠ 0 := by grind
    grind
  rw [e, Rat.one_mul] at h2
  exact absurd hx' (Rat.not_lt.mpr h2)
/-- a ratio spelled out -/
theorem encQ_of {q : Rat} {n d : Int} (h1 : q.num = n) (h2 : (q.den : Int) = d) : encQ q = .tup [.int n, .int d] := by
  unfold encQ
  rw [h1, h2]
theorem encQ_one : encQ 1 = .tup [.int 1, .int 1] := encQ_of rfl rfl
theorem encQ_zero : encQ 0 = .tup [.int 0, .int 1] := encQ_of rfl rfl
theorem encQ_int (x : Int) : encQ (x : Rat) = .tup [.int x, .int 1] := encQ_of (Rat.num_intCast x) (by rw [Rat.den_intCast]; rfl)
/-- gcd, by steps -/
theorem gcd_step (a b : Nat) : Nat.gcd a b = Nat.gcd b (a % b) := by
  rw [Nat.gcd_comm a b, Nat.gcd_rec b a, Nat.gcd_comm]
end Q

set_option Elab.async false
set_option linter.all false
set_option maxRecDepth 100000
set_option maxHeartbeats 1000000
namespace Q
open PySem L2
-- depth of data; its lists are not too long
mutual
def D.dep : D → Nat
  | .tup ds => D.deps ds + 1
  | .lst ds => D.deps ds + 1
  | _ => 0
def D.deps : List D → Nat
  | [] => 0
  | d :: ds => max d.dep (D.deps ds)
end
mutual
def D.wid : D → Bool
  | .tup ds => decide (ds.length ≤ 1000000) && D.wids ds
  | .lst ds => decide (ds.length ≤ 1000000) && D.wids ds
  | .dk _ _ => false
  | .dt _ _ => false
  | .xt _ => false
  | .kt _ => false
  | .ins _ _ _ => false
  | .str s => PyData.strOk s
  | _ => true
def D.wids : List D → Bool
  | [] => true
  | d :: ds => d.wid && D.wids ds
end
theorem dep_mem : ∀ {ds : List D} {d : D}, d ∈ ds → d.dep ≤ D.deps ds
  | x :: ds, d, h => by
    rw [D.deps]
    rcases List.mem_cons.mp h with rfl | h
    · omega
    · have := dep_mem h; omega
theorem wid_mem : ∀ {ds : List D} {d : D}, d ∈ ds → D.wids ds = true → d.wid = true
  | x :: ds, d, h, w => by
    rw [D.wids, Bool.and_eq_true] at w
    rcases List.mem_cons.mp h with rfl | h
    · exact w.1
    · exact wid_mem h w.2
@[simp] theorem e_eqB {x y : Bool} : oEq (.fz (.bl x)) (.fz (.bl y)) = some (.fz (.bl (x == y))) := by
  simp -implicitDefEqProofs [oEq, oEqB, D.py, O.frz, SeqAt.shaped, PyData.canLay0, PyData.depth, PyData.eqv]
theorem e_eqS {x y : Str} (hx : PyData.strOk x = true) (hy : PyData.strOk y = true) : oEq (.fz (.str x)) (.fz (.str y)) = some (.fz (.bl (x == y))) := by
  simp -implicitDefEqProofs [oEq, oEqB, D.py, O.frz, SeqAt.shaped, PyData.canLay0, PyData.depth, PyData.eqv, hx, hy]
@[simp] theorem e_all {bs : List Bool} : gAll [.ls (bs.map fun b => .fz (.bl b))] = some (.fz (.bl (bs.all id))) := by
  have e : (bs.map fun b => O.fz (.bl b)) = (bs.map D.bl).map O.fz := by rw [List.map_map]; rfl
  rw [e]
  show gLB _ _ = _
  simp only [gLB, O.asL, mapM_fz, mapM_bl, Option.bind_some]
theorem e_allT {n : Nat} : gAll [.ls (List.replicate n (.fz (.bl true)))] = some (.fz (.bl true)) := by
  have e : List.replicate n (O.fz (.bl true)) = (List.replicate n true).map fun b => O.fz (.bl b) := by rw [List.map_replicate]
  rw [e, e_all]
  simp
theorem map_rangeD {n : Nat} {o : O} : (rangeD 0 n).map (fun _ => o) = List.replicate n o := by
  simp -implicitDefEqProofs [rangeD, Function.comp_def, List.map_const']
def cellZ (ns : List Int) (k : Nat) : Int := (ns[k]?).getD (5 * (k : Int) + 3)
theorem cellZ_bits {ns : List Int} (hb : ∀ z ∈ ns, Builtin.Int.intBits z ≤ 1048576) (k : Nat) (hk : k ≤ 1000) : (cellZ ns k).natAbs < 2 ^ 1048576 := by
  unfold cellZ
  by_cases h : k < ns.length
  · rw [List.getElem?_eq_getElem h]
    exact lt_intBits (hb _ (List.getElem_mem h))
  · rw [List.getElem?_eq_none (by omega)]
    have h1 : (2 : Nat) ^ 20 ≤ 2 ^ 1048576 := Nat.pow_le_pow_right (by decide) (by decide)
    have h2 : ((none : Option Int).getD (5 * (k : Int) + 3)).natAbs < 2 ^ 20 := by
      show (5 * (k : Int) + 3).natAbs < 2 ^ 20
      omega
    exact Nat.lt_of_lt_of_le h2 h1
section
variable {a b : Rat} {n1 d1 n2 d2 : Nat}
theorem add_oks (ha : Sq n1 d1 a) (hb : Sq n2 d2 b) (h : n1 + d1 + n2 + d2 ≤ 134217728) : mulOk a.num b.den = true ∧ mulOk b.num a.den = true ∧ mulOk (a.den : Int) b.den = true ∧ mulOk a.num b.num = true ∧ mulOk (a.den : Int) b.num = true :=
  ⟨mul_ok ha.1 (den_abs hb.2) (by omega), mul_ok hb.1 (den_abs ha.2) (by omega), mul_ok (den_abs ha.2) (den_abs hb.2) (by omega), mul_ok ha.1 hb.1 (by omega), mul_ok (den_abs ha.2) hb.1 (by omega)⟩
end
end Q

set_option Elab.async false
set_option linter.all false
set_option maxRecDepth 100000
set_option maxHeartbeats 1000000
namespace Q
open PySem L2 PyProof.Rows
section
variable {X : Cx} {K : PySem.W.Frag} {a e : Expr} {lo hi : Option Expr} {ma : EM O} {ml mh : EM (Option Int)} {pos p2 : Pos}
/-! ### slices -/
def SO (K : PySem.W.Frag) (t : TO) (m : EM (Option Int)) : Prop :=
  ∀ (H0 B0 : Hp) (ln : Nat → Option V) (Γ : List (O × V)) (B H : Hp) (σ : L2.St) (env : En), Stt K H0 B0 ln Γ B H σ env → ∀ o env', m env = some (o, env') → ∀ Q : Option Int → Hp → Prop,
    (∀ B' H', Ex B B' → Ex H H' → Stt K H0 B0 ln Γ B' H' σ env' → Q o H') → t σ H Q
def QO (X : Cx) (e : Option Expr) (m : EM (Option Int)) : Prop := ∃ t, PO X e t ∧ SO X.K t m
def mONone : EM (Option Int) := fun env => some (none, env)
def iOf : O → Option Int
  | .fz (.int i) => some i
  | _ => none
def mOSome (ma : EM O) : EM (Option Int) := fun env => (ma env).bind fun p => (iOf p.1).bind fun i => some (some i, p.2)
theorem qo_none : QO X none mONone := ⟨_, po_none, fun H0 B0 ln Γ B H σ env s o env' em Q q => by
  cases em
  exact q B H (Ex.refl _) (Ex.refl _) s⟩
theorem qo_some (ha : QV X e ma) : QO X (some e) (mOSome ma) := by
  obtain ⟨t, h1, h2⟩ := ha
  refine ⟨_, po_some h1, fun H0 B0 ln Γ B H σ env s o env' em Q q => ?_⟩
  obtain ⟨p, em1, em⟩ := bind_some em
  obtain ⟨i, em2, em⟩ := bind_some em
  cases em
  refine h2 H0 B0 ln Γ B H σ env s _ _ em1 _ fun v B1 H1 e1 e2 s1 w1 => ?_
  obtain ⟨o1, e1'⟩ := p
  unfold iOf at em2
  dsimp only at em2 w1
  split at em2
  · cases em2
    exact ⟨_, vw_int w1, q B1 H1 e1 e2 s1⟩
  · cases em2
def cut {α : Type} (xs : List α) (lo hi : Option Int) : List α := (xs.drop (HT.sIx xs.length 0 lo)).take (HT.sIx xs.length xs.length hi - HT.sIx xs.length 0 lo)
def oSlice (lo hi : Option Int) : O → Option O
  | .fz (.str z) => if z.length ≤ sizeLine then some (.fz (.str (cutS z lo hi))) else none
  | .fz (.tup ds) => some (.fz (.tup (cut ds lo hi)))
  | o => (o.asL).bind fun os => (os.mapM O.d?).bind fun ds => some (.ls ((cut ds lo hi).map .fz))
def mSlice (ma : EM O) (ml mh : EM (Option Int)) : EM O := fun env => (ma env).bind fun p => (ml p.2).bind fun l => (mh l.2).bind fun h => (oSlice l.1 h.1 p.1).bind fun o => some (o, h.2)
theorem Rps.cut {B : Hp} {ds : List D} {vs : List V} (lo hi : Option Int) (h : Rps K B ds vs) : Rps K B (cut ds lo hi) (cutV vs lo hi) := by
  unfold Q.cut cutV
  rw [← h.len]
  exact (h.drop _).take _
theorem cut_all {α : Type} {xs : List α} {lo hi : Option Int} (h : HT.sIx xs.length 0 lo = 0 ∧ HT.sIx xs.length xs.length hi = xs.length) : cut xs lo hi = xs := by
  unfold cut
  rw [h.1, h.2, List.drop_zero, Nat.sub_zero, List.take_length]
theorem qe_slice (ha : QV X a ma) (hl : QO X lo ml) (hh : QO X hi mh) : QE X (.Subscript a (.Slice lo hi none p2) pos) (mSlice ma ml mh) := by
  obtain ⟨t, h1, h2⟩ := ha
  obtain ⟨u, h3, h4⟩ := hl
  obtain ⟨u', h5, h6⟩ := hh
  refine ⟨_, pe_slice (sl_list.or (sl_tupA.or sl_str)) h1 h3 h5, fun H0 B0 ln Γ B H σ env s o env' em Q q => ?_⟩
  obtain ⟨p, em1, em⟩ := bind_some em
  obtain ⟨l, em2, em⟩ := bind_some em
  obtain ⟨h, em3, em⟩ := bind_some em
  obtain ⟨z, em4, em⟩ := bind_some em
  cases em
  refine h2 H0 B0 ln Γ B H σ env s _ _ em1 _ fun v B1 H1 e1 e2 s1 w1 => ?_
  refine h4 H0 B0 ln Γ B1 H1 σ _ s1 _ _ em2 _ fun B2 H2 e3 e4 s2 => ?_
  refine h6 H0 B0 ln Γ B2 H2 σ _ s2 _ _ em3 _ fun B3 H3 e5 e6 s3 => ?_
  have w1 := Vw.mono (e3.trans e5) (e4.trans e6) _ _ w1
  have fin : ∀ v' B' H', Ex B3 B' → Ex H3 H' → Stt X.K H0 B0 ln ((_, v') :: Γ) B' H' σ h.2 → Q v' H' := fun v' B' H' e7 e8 s4 => q v' B' H' (((e1.trans e3).trans e5).trans e7) (((e2.trans e4).trans e6).trans e8) s4
  unfold oSlice at em4
  split at em4
  · rename_i z' ee
    split at em4
    · rename_i hz
      cases em4
      rw [ee] at w1
      exact .inr (.inr ⟨_, vw_str w1, hz, fin _ B3 H3 (Ex.refl _) (Ex.refl _) (s3.push (by rw [Rp]))⟩)
    · cases em4
  · rename_i ds ee
    cases em4
    rw [ee] at w1
    obtain ⟨b, vs, rfl, g1, g1', g2⟩ := asT_ok s3.w.bh w1 rfl
    refine .inr (.inl ⟨b, vs, rfl, g1, fun hw => ?_, fun hw p hp => ?_⟩)
    · rw [← g2.len] at hw
      rw [cut_all hw] at fin
      exact fin _ B3 H3 (Ex.refl _) (Ex.refl _) (s3.push (by rw [Rp]; exact ⟨b, vs, rfl, g1', g2⟩))
    · obtain ⟨e7, e8, s'⟩ := s3.newTup (g2.cut l.1 h.1) hp
      exact fin _ _ _ e7 e8 s'
  · rename_i o1 _ _
    obtain ⟨os, em5, em4⟩ := bind_some em4
    obtain ⟨ds, em6, em4⟩ := bind_some em4
    cases em4
    obtain ⟨b, vs, rfl, g1, g2⟩ := asL_ok s3.w.bh w1 em5
    refine .inl ⟨b, vs, rfl, g1, fun p hp => ?_⟩
    obtain ⟨e7, s'⟩ := s3.newLstD ((g2.dat em6).cut l.1 h.1) hp
    exact fin _ _ _ (Ex.refl _) e7 s'
end
/-! ### the module's constants -/
def CstOk (K : PySem.W.Frag) (mg : Str → Option Value) (x : Str) (d : D) : Prop := ∃ (v : Value) (u : V), mg x = some v ∧ RelV u v ∧ ∀ B, Rp K B d u
theorem qe_cst {X : Cx} {x : Str} {pos : Pos} {d : D} (hg : Gl X x) (h : CstOk X.K X.mg x d) (hd : (x == ("__debug__" : Str)) = false := by decide) : QE X (.Name x pos) (mC d) := by
  obtain ⟨v, u, h1, h2, h3⟩ := h
  refine ⟨_, pe_glob hg h1 h2 hd, fun H0 B0 ln Γ B H σ env s o env' em Q q => ?_⟩
  cases em
  exact q _ B H (Ex.refl _) (Ex.refl _) (s.push (h3 B))
def intsIn : List Value → Option (List Int)
  | [] => some []
  | .int i _ :: vs => (intsIn vs).bind fun is => some (i :: is)
  | _ => none
theorem intsIn_ok {K : PySem.W.Frag} {B : Hp} : ∀ {vs : List Value} {is : List Int}, intsIn vs = some is → Vals (is.map V.int) vs ∧ Rps K B (is.map D.int) (is.map V.int) := by
  intro vs is h
  refine ⟨?_, rps_ints is⟩
  induction vs generalizing is with
  | nil => cases h; exact .nil
  | cons v vs ih =>
    cases v with
    | int i t =>
      obtain ⟨js, e1, e2⟩ := bind_some (show (intsIn vs).bind _ = _ from h)
      cases e2
      exact .cons ⟨t, rfl⟩ (ih e1)
    | _ => cases h
theorem cst_tup {K : PySem.W.Frag} {mg : Str → Option Value} {x : Str} {a : Addr} {od : Option Addr} {its : Array Value} {n : Nat} {sl : Array (Option Value)} {is : List Int} (h : mg x = some (.ref a))
    (l : K.lookup a = some ⟨.type "tuple", od, .seq its n, sl⟩) (hi : intsIn its.toList = some is) (hz : its.size ≤ sizeLine) : CstOk K mg x (.tup (is.map D.int)) :=
  ⟨.ref a, .ref a, h, rfl, fun B => by
    rw [Rp]
    exact ⟨a, is.map V.int, rfl, .inr ⟨_, its, n, l, rfl, rfl, hz, (intsIn_ok (K := K) (B := B) hi).1⟩, (intsIn_ok hi).2⟩⟩
theorem cst_str {K : PySem.W.Frag} {mg : Str → Option Value} {x : Str} {z : Str} {t : Tok} (h : mg x = some (.str z t)) : CstOk K mg x (.str z) :=
  ⟨.str z t, .str z, h, ⟨t, rfl⟩, fun B => by rw [Rp]⟩
/-! for simp -/
section
variable {env : En} {ma : EM O} {ml mh : EM (Option Int)} {i : Int} {lo hi : Option Int}
@[simp] theorem e_mONone : mONone env = some (none, env) := rfl
@[simp] theorem e_mOSome : mOSome ma env = (ma env).bind fun p => (iOf p.1).bind fun i => some (some i, p.2) := rfl
@[simp] theorem e_iOf : iOf (.fz (.int i)) = some i := rfl
@[simp] theorem e_mSlice : mSlice ma ml mh env = (ma env).bind fun p => (ml p.2).bind fun l => (mh l.2).bind fun h => (oSlice l.1 h.1 p.1).bind fun o => some (o, h.2) := rfl
@[simp] theorem e_sliceT {ds : List D} : oSlice lo hi (.fz (.tup ds)) = some (.fz (.tup (cut ds lo hi))) := rfl
@[simp] theorem e_sliceL {ds : List D} : oSlice lo hi (.fz (.lst ds)) = some (.ls ((cut ds lo hi).map .fz)) := by
  simp only [oSlice, O.asL, Option.bind_some, mapM_fz]
@[simp] theorem e_sliceO {ds : List D} : oSlice lo hi (.ls (ds.map .fz)) = some (.ls ((cut ds lo hi).map .fz)) := by
  simp only [oSlice, O.asL, Option.bind_some, mapM_fz]
theorem cut_from {α : Type} {xs : List α} {k : Nat} : cut xs (some (k : Int)) none = xs.drop k := by
  unfold cut
  rw [HT.sIx_nat, HT.sIx_none]
  by_cases h : k ≤ xs.length
  · rw [Nat.min_eq_left h]
    rw [List.take_of_length_le]
    rw [List.length_drop]; exact Nat.le_refl _
  · rw [Nat.min_eq_right (by omega), List.drop_length, List.drop_eq_nil_of_le (by omega), List.take_nil]
theorem cut_to {α : Type} {xs : List α} {k : Nat} : cut xs none (some (k : Int)) = xs.take k := by
  unfold cut
  rw [HT.sIx_nat, HT.sIx_none, List.drop_zero, Nat.sub_zero]
  by_cases h : k ≤ xs.length
  · rw [Nat.min_eq_left h]
  · rw [Nat.min_eq_right (by omega), List.take_of_length_le (by omega), List.take_of_length_le (by omega)]
end
end Q

set_option Elab.async false
set_option linter.all false
set_option maxRecDepth 100000
set_option maxHeartbeats 1000000
namespace Q
open PySem L2
/-! ### the size of a ratio, in bits -/
def sz (q : Rat) : Nat := Nat.log2 (max q.num.natAbs q.den) + 1
theorem lt_log2 (x : Nat) : x < 2 ^ (Nat.log2 x + 1) := by
  by_cases h : x = 0
  · subst h; decide
  · exact (Nat.log2_lt h).mp (Nat.lt_succ_self _)
theorem sq_sz (q : Rat) : Sq (sz q) (sz q) q := by
  have h := lt_log2 (max q.num.natAbs q.den)
  exact ⟨Nat.lt_of_le_of_lt (Nat.le_max_left _ _) h, Nat.lt_of_le_of_lt (Nat.le_max_right _ _) h⟩
theorem sz_le {q : Rat} {k : Nat} (h : Sq k k q) : sz q ≤ k := by
  have h0 : max q.num.natAbs q.den ≠ 0 := by
    have := q.den_nz
    omega
  have : max q.num.natAbs q.den < 2 ^ k := by
    have h1 := h.1
    have h2 := h.2
    omega
  have := (Nat.log2_lt h0).mpr this
  unfold sz
  omega
theorem sz_pos (q : Rat) : 1 ≤ sz q := Nat.le_add_left _ _
theorem sz_add (a b : Rat) : sz (a + b) ≤ sz a + sz b + 1 := by
  refine sz_le ((sq_add (sq_sz a) (sq_sz b)).mono ?_ ?_) <;> omega
theorem sz_sub (a b : Rat) : sz (a - b) ≤ sz a + sz b + 1 := by
  refine sz_le ((sq_sub (sq_sz a) (sq_sz b)).mono ?_ ?_) <;> omega
theorem sz_mul (a b : Rat) : sz (a * b) ≤ sz a + sz b := sz_le (sq_mul (sq_sz a) (sq_sz b))
theorem sz_zero : sz 0 = 1 := by decide +kernel
theorem sz_one : sz 1 = 1 := by decide +kernel
theorem sz_div (a b : Rat) : sz (a / b) ≤ sz a + sz b := by
  by_cases h : b = 0
  · subst h
    have : a / 0 = 0 := by grind
    rw [this, sz_zero]
    have := sz_pos a
    omega
  · exact sz_le (sq_div (sq_sz a) (sq_sz b) h)
theorem sz_neg (a : Rat) : sz (-a) = sz a := by
  unfold sz
  rw [Rat.neg_num, Rat.neg_den, Int.natAbs_neg]
theorem sz_divInt {n d : Int} {k : Nat} (hn : n.natAbs < 2 ^ k) (hd : d.natAbs < 2 ^ k) (hk : 1 ≤ k) : sz (Rat.divInt n d) ≤ k := by
  by_cases h0 : d = 0
  · subst h0
    rw [Rat.divInt_zero, sz_zero]
    exact hk
  · exact sz_le (sq_divInt hn hd h0)
theorem num_sz {q : Rat} {k : Nat} (h : sz q ≤ k) : q.num.natAbs < 2 ^ k := pow_up (sq_sz q).1 h
theorem den_sz {q : Rat} {k : Nat} (h : sz q ≤ k) : ((q.den : Int)).natAbs < 2 ^ k := den_abs (pow_up (sq_sz q).2 h)
theorem oks {a b : Rat} (h : sz a + sz b ≤ 134217728) : mulOk a.num b.den = true ∧ mulOk b.num a.den = true ∧ mulOk (a.den : Int) b.den = true ∧ mulOk a.num b.num = true ∧ mulOk (a.den : Int) b.num = true :=
  ⟨mul_ok (sq_sz a).1 (den_abs (sq_sz b).2) h, mul_ok (sq_sz b).1 (den_abs (sq_sz a).2) (by omega), mul_ok (den_abs (sq_sz a).2) (den_abs (sq_sz b).2) h, mul_ok (sq_sz a).1 (sq_sz b).1 h, mul_ok (den_abs (sq_sz a).2) (sq_sz b).1 h⟩
theorem cross_divInt {n d : Int} (h : d ≠ 0) : (Rat.divInt n d).num * d = n * ((Rat.divInt n d).den : Int) := by
  have e : Rat.divInt (Rat.divInt n d).num (Rat.divInt n d).den = Rat.divInt n d := Rat.num_divInt_den _
  exact (Rat.divInt_eq_divInt_iff (den_ne _) h).mp e
theorem cross_add (a b : Rat) : (a + b).num * ((a.den : Int) * b.den) = (a.num * b.den + b.num * a.den) * ((a + b).den : Int) := by
  have := cross_divInt (n := a.num * b.den + b.num * a.den) (d := (a.den : Int) * b.den) (Int.mul_ne_zero (den_ne a) (den_ne b))
  rwa [add_divInt] at this
theorem cross_sub (a b : Rat) : (a - b).num * ((a.den : Int) * b.den) = (a.num * b.den - b.num * a.den) * ((a - b).den : Int) := by
  have := cross_divInt (n := a.num * b.den - b.num * a.den) (d := (a.den : Int) * b.den) (Int.mul_ne_zero (den_ne a) (den_ne b))
  rwa [sub_divInt] at this
theorem lt_cross (a b : Rat) : a.num * (b.den : Int) < b.num * (a.den : Int) ↔ a < b := Rat.lt_iff a b |>.symm
def szs (qs : List Rat) : Nat := (qs.map fun q => sz q + 1).sum
theorem szs_cons (q : Rat) (qs : List Rat) : szs (q :: qs) = sz q + 1 + szs qs := by simp [szs]
theorem szs_append (a b : List Rat) : szs (a ++ b) = szs a + szs b := by simp [szs]
theorem szs_le {qs : List Rat} {k : Nat} (h : ∀ q ∈ qs, sz q ≤ k) : szs qs ≤ qs.length * (k + 1) := by
  induction qs with
  | nil => simp [szs]
  | cons q qs ih =>
    rw [szs_cons, List.length_cons, Nat.add_mul]
    have := ih fun x hx => h x (by simp [hx])
    have := h q (by simp)
    omega
/-- the sum of a row, from r on -/
def sumQ (r : Rat) (qs : List Rat) : Rat := qs.foldl (fun a b => a + b) r
theorem sumQ_cons (r q : Rat) (qs : List Rat) : sumQ r (q :: qs) = sumQ (r + q) qs := rfl
theorem sumQ_nil (r : Rat) : sumQ r [] = r := rfl
theorem sumQ_add (r : Rat) (qs : List Rat) : sumQ r qs = r + sumQ 0 qs := by
  induction qs generalizing r with
  | nil => simp [sumQ]; grind
  | cons q qs ih => rw [sumQ_cons, sumQ_cons, ih (r + q), ih (0 + q)]; grind
theorem sz_sumQ (r : Rat) (qs : List Rat) : sz (sumQ r qs) ≤ sz r + szs qs := by
  induction qs generalizing r with
  | nil => rw [sumQ_nil]; omega
  | cons q qs ih =>
    rw [sumQ_cons, szs_cons]
    have := ih (r + q)
    have := sz_add r q
    omega
def cmpQ (a b : Rat) : Int := if a < b then -1 else if b < a then 1 else 0
theorem cmpQ_lt {a b : Rat} : cmpQ a b < 0 ↔ a < b := by
  unfold cmpQ
  split
  · simp_all
  · split <;> simp_all
theorem cmpQ_gt {a b : Rat} : 0 < cmpQ a b ↔ b < a := by
  unfold cmpQ
  split
  · rename_i h
    have : ¬ b < a := by grind
    simp_all
  · split <;> simp_all
theorem cmpQ_eq {a b : Rat} : cmpQ a b = 0 ↔ a = b := by
  unfold cmpQ
  split
  · rename_i h
    have : ¬ a = b := by grind
    simp_all
  · split
    · rename_i h
      have : ¬ a = b := by grind
      simp_all
    · have : a = b := by grind
      simp_all
def maxQ (r : Rat) (qs : List Rat) : Rat := qs.foldl (fun r x => if r < x then x else r) r
theorem maxQ_ge (r : Rat) (qs : List Rat) : r ≤ maxQ r qs ∧ ∀ q ∈ qs, q ≤ maxQ r qs := by
  induction qs generalizing r with
  | nil => exact ⟨Rat.le_refl, by simp⟩
  | cons q qs ih =>
    have h := ih (if r < q then q else r)
    have h1 : r ≤ (if r < q then q else r) := by split <;> grind
    have h2 : q ≤ (if r < q then q else r) := by split <;> grind
    have e : maxQ r (q :: qs) = maxQ (if r < q then q else r) qs := rfl
    rw [e]
    refine ⟨Rat.le_trans h1 h.1, fun x hx => ?_⟩
    rcases List.mem_cons.mp hx with rfl | hx
    · exact Rat.le_trans h2 h.1
    · exact h.2 x hx
theorem maxQ_mem (r : Rat) (qs : List Rat) : maxQ r qs = r ∨ maxQ r qs ∈ qs := by
  induction qs generalizing r with
  | nil => exact .inl rfl
  | cons q qs ih =>
    have e : maxQ r (q :: qs) = maxQ (if r < q then q else r) qs := rfl
    rw [e]
    rcases ih (if r < q then q else r) with h | h
    · rw [h]
      split
      · exact .inr (by simp)
      · exact .inl rfl
    · exact .inr (by simp [h])
@[simp] theorem e_itT {ds : List D} : D.items (.tup ds) = some ds := rfl
@[simp] theorem e_itL {ds : List D} : D.items (.lst ds) = some ds := rfl
theorem sz_pow (a : Rat) (k : Nat) : sz (a ^ k) ≤ k * sz a + 1 := by
  induction k with
  | zero => rw [Rat.pow_zero, sz_one]; omega
  | succ k ih =>
    rw [Rat.pow_succ, Nat.succ_mul]
    have := sz_mul (a ^ k) a
    omega
theorem natAbs_pow_lt {x : Int} {j : Nat} (h : x.natAbs < 2 ^ j) (k : Nat) : (x ^ k).natAbs < 2 ^ (k * j + 1) := by
  rw [Int.natAbs_pow]
  have h1 : x.natAbs ^ k ≤ (2 ^ j) ^ k := Nat.pow_le_pow_left (Nat.le_of_lt h) k
  rw [← Nat.pow_mul, Nat.mul_comm] at h1
  exact Nat.lt_of_le_of_lt h1 (Nat.pow_lt_pow_right (by decide) (Nat.lt_succ_self _))
/-! loops -/
theorem for_fold {T S α : Type} {gs : D → En → Option En} {mb : SM} (E : T → S → En) (g : α → D) (f : S → α → S) (I : S → List α → Prop)
    (step : ∀ s x xs t, I s (x :: xs) → ∃ e1 t', gs (g x) (E t s) = some e1 ∧ (mb e1 = some (.nx (E t' (f s x))) ∨ mb e1 = some (.ct (E t' (f s x)))) ∧ I (f s x) xs) :
    ∀ (xs : List α) (s : S) (t : T), I s xs → ∃ t', forL gs mb (xs.map g) (E t s) = some (.nx (E t' (xs.foldl f s)))
  | [], s, t, _ => ⟨t, rfl⟩
  | x :: xs, s, t, h => by
    obtain ⟨e1, t', h1, h2, h3⟩ := step s x xs t h
    obtain ⟨t2, h4⟩ := for_fold E g f I step xs (f s x) t' h3
    refine ⟨t2, ?_⟩
    rw [List.map_cons, forL, h1, Option.bind_some]
    rcases h2 with h2 | h2 <;> (rw [h2, Option.bind_some]; exact h4)
theorem lc_mapx {α : Type} {vs : List Nat} {gs : D → En → Option En} {me : EM O} {env : En} (h : α → D) (g : α → O) : ∀ (xs : List α) (acc : List O), okE env vs = true → acc.length + xs.length ≤ sizeLine → (∀ x ∈ xs, ∃ e1 e2, gs (h x) (wipeE env vs) = some e1 ∧ me e1 = some (g x, e2) ∧ backE env e2 vs = env) →
    lcLoop vs gs mYes me (xs.map h) acc env = some (acc ++ xs.map g, env)
  | [], acc, _, _, _ => by simp [lcLoop]
  | d :: ds, acc, h0, hz, hs => by
    obtain ⟨e1, e2, h1, h2, h3⟩ := hs d (by simp)
    have hl : acc.length < sizeLine := by rw [List.length_cons] at hz; omega
    rw [List.map_cons, lcLoop, if_pos h0, h1, Option.bind_some, e_mYes, Option.bind_some]
    show (if true = true then (me e1).bind _ else _) = _
    rw [if_pos rfl, h2, Option.bind_some, if_pos hl, h3, lc_mapx h g ds _ h0 (by rw [List.length_append, List.length_singleton]; rw [List.length_cons] at hz; omega) (fun d' hd => hs d' (by simp [hd]))]
    simp
theorem lc_filterx {α : Type} {vs : List Nat} {gs : D → En → Option En} {mt : EM Bool} {me : EM O} {env : En} (h : α → D) (p : α → Bool) (g : α → O) : ∀ (xs : List α) (acc : List O), okE env vs = true → acc.length + xs.length ≤ sizeLine →
    (∀ x ∈ xs, ∃ e1 e2, gs (h x) (wipeE env vs) = some e1 ∧ mt e1 = some (p x, e2) ∧ (p x = true → ∃ e3, me e2 = some (g x, e3) ∧ backE env e3 vs = env) ∧ (p x = false → backE env e2 vs = env)) →
    lcLoop vs gs mt me (xs.map h) acc env = some (acc ++ (xs.filter p).map g, env)
  | [], acc, _, _, _ => by simp [lcLoop]
  | d :: ds, acc, h0, hz, hs => by
    obtain ⟨e1, e2, h1, h2, h3, h4⟩ := hs d (by simp)
    have hl : acc.length < sizeLine := by rw [List.length_cons] at hz; omega
    rw [List.map_cons, lcLoop, if_pos h0, h1, Option.bind_some, h2, Option.bind_some]
    cases hp : p d with
    | true =>
      obtain ⟨e3, h5, h6⟩ := h3 hp
      dsimp only
      rw [if_pos rfl, h5, Option.bind_some, if_pos hl, h6, lc_filterx h p g ds _ h0 (by rw [List.length_append, List.length_singleton]; rw [List.length_cons] at hz; omega) (fun d' hd => hs d' (by simp [hd]))]
      simp [hp]
    | false =>
      dsimp only
      rw [if_neg Bool.false_ne_true, h4 hp, lc_filterx h p g ds _ h0 (by rw [List.length_cons] at hz; omega) (fun d' hd => hs d' (by simp [hd]))]
      simp [hp]
@[simp] theorem e_any {bs : List Bool} : gAny [.ls (bs.map fun b => .fz (.bl b))] = some (.fz (.bl (bs.any id))) := by
  have e : (bs.map fun b => O.fz (.bl b)) = (bs.map D.bl).map O.fz := by rw [List.map_map]; rfl
  rw [e]
  show gLB _ _ = _
  simp only [gLB, O.asL, mapM_fz, mapM_bl, Option.bind_some]
@[simp] theorem e_oitT {ds : List D} : O.items (.fz (.tup ds)) = some ds := rfl
@[simp] theorem e_oitL {ds : List D} : O.items (.fz (.lst ds)) = some ds := rfl
@[simp] theorem e_oitO {ds : List D} : O.items (.ls (ds.map .fz)) = some ds := by
  simp only [O.items, mapM_fz]
theorem wids_map {α : Type} {h : α → D} (w : ∀ x, (h x).wid = true) : ∀ xs : List α, D.wids (xs.map h) = true
  | [] => by rw [List.map_nil, D.wids]
  | x :: xs => by rw [List.map_cons, D.wids, w, wids_map w xs]; rfl
theorem deps_map {α : Type} {h : α → D} {k : Nat} (w : ∀ x, (h x).dep ≤ k) : ∀ xs : List α, D.deps (xs.map h) ≤ k
  | [] => by rw [List.map_nil, D.deps]; omega
  | x :: xs => by
    rw [List.map_cons, D.deps]
    have := w x
    have := deps_map w xs
    omega
theorem encQ_wid (q : Rat) : (encQ q).wid = true := by simp -implicitDefEqProofs [encQ, D.wid, D.wids]
theorem encQ_dep (q : Rat) : (encQ q).dep = 1 := by simp -implicitDefEqProofs [encQ, D.dep, D.deps]
theorem rangeD_map {lo : Int} {n : Nat} : rangeD lo n = (List.range n).map fun (i : Nat) => D.int (lo + (i : Int)) := rfl
theorem range0_map {n : Nat} : rangeD 0 n = (List.range n).map fun (i : Nat) => D.int (i : Int) := by
  rw [rangeD_map]
  exact List.map_congr_left fun i _ => by rw [Int.zero_add]
end Q

set_option Elab.async false
set_option linter.all false
set_option maxRecDepth 100000
set_option maxHeartbeats 1000000
namespace Q
open PySem L2
/-! ### equality of data -/
mutual
/-- plain data: no bools, no dicts -/
def D.gd : D → Bool
  | .tup ds => D.gds ds
  | .lst ds => D.gds ds
  | .dk _ _ => false
  | .dt _ _ => false
  | .xt _ => false
  | .kt _ => false
  | .ins _ _ _ => false
  | .bl _ => false
  | .str s => PyData.strOk s
  | _ => true
def D.gds : List D → Bool
  | [] => true
  | d :: ds => d.gd && D.gds ds
end
mutual
theorem gd_py : ∀ d : D, d.gd = true → ∃ p, d.py = some p ∧ p.canLay0 = true ∧ p.depth ≤ d.dep + 1
  | .non, _ => ⟨_, by rw [D.py], by rw [PyData.canLay0], by rw [PyData.depth]; omega⟩
  | .int i, _ => ⟨_, by rw [D.py], by rw [PyData.canLay0], by rw [PyData.depth]; omega⟩
  | .str s, h => ⟨_, by rw [D.py], by rw [D.gd] at h; rw [PyData.canLay0]; exact h, by rw [PyData.depth]; omega⟩
  | .tup ds, h => by
    rw [D.gd] at h
    obtain ⟨ps, h1, h2, h3⟩ := gds_py ds h
    exact ⟨.tuple ps, by rw [D.py, h1]; rfl, by rw [PyData.canLay0]; exact h2, by rw [PyData.depth, D.dep]; omega⟩
  | .lst ds, h => by
    rw [D.gd] at h
    obtain ⟨ps, h1, h2, h3⟩ := gds_py ds h
    exact ⟨.list ps, by rw [D.py, h1]; rfl, by rw [PyData.canLay0]; exact h2, by rw [PyData.depth, D.dep]; omega⟩
  | .bl _, h => by rw [D.gd] at h; cases h
  | .dk _ _, h => by rw [D.gd] at h; cases h
  | .dt _ _, h => by rw [D.gd] at h; cases h
  | .xt _, h => by rw [D.gd] at h; cases h
  | .kt _, h => by rw [D.gd] at h; cases h
  | .ins _ _ _, h => by rw [D.gd] at h; cases h
theorem gds_py : ∀ ds : List D, D.gds ds = true → ∃ ps, D.pys ds = some ps ∧ PyData.canLayAll0 ps = true ∧ PyData.depthAll ps ≤ D.deps ds + 1
  | [], _ => ⟨[], by rw [D.pys], by rw [PyData.canLayAll0], by rw [PyData.depthAll]; omega⟩
  | d :: ds, h => by
    rw [D.gds, Bool.and_eq_true] at h
    obtain ⟨p, h1, h2, h3⟩ := gd_py d h.1
    obtain ⟨ps, h4, h5, h6⟩ := gds_py ds h.2
    exact ⟨p :: ps, by rw [D.pys, h1, h4]; rfl, by rw [PyData.canLayAll0, h2, h5]; rfl, by rw [PyData.depthAll, D.deps]; omega⟩
end
mutual
theorem eqv_gd : ∀ (d e : D) (p q : PyData), d.gd = true → e.gd = true → d.py = some p → e.py = some q → (PyData.eqv p q = true ↔ d = e)
  | .non, e, p, q, h1, h2, h3, h4 => by
    rw [D.py] at h3; cases h3
    cases e with
    | non => rw [D.py] at h4; cases h4; simp [PyData.eqv]
    | int _ => rw [D.py] at h4; cases h4; simp [PyData.eqv]
    | str _ => rw [D.py] at h4; cases h4; simp [PyData.eqv]
    | tup ds => rw [D.py] at h4; obtain ⟨ps, _, h4⟩ := Option.map_eq_some_iff.mp h4; subst h4; simp [PyData.eqv]
    | lst ds => rw [D.py] at h4; obtain ⟨ps, _, h4⟩ := Option.map_eq_some_iff.mp h4; subst h4; simp [PyData.eqv]
    | bl _ => rw [D.gd] at h2; cases h2
    | dk _ _ => rw [D.gd] at h2; cases h2
    | dt _ _ => rw [D.gd] at h2; cases h2
    | xt _ => rw [D.gd] at h2; cases h2
    | kt _ => rw [D.gd] at h2; cases h2
    | ins _ _ _ => rw [D.gd] at h2; cases h2
  | .int i, e, p, q, h1, h2, h3, h4 => by
    rw [D.py] at h3; cases h3
    cases e with
    | non => rw [D.py] at h4; cases h4; simp [PyData.eqv]
    | int _ => rw [D.py] at h4; cases h4; simp [PyData.eqv]
    | str _ => rw [D.py] at h4; cases h4; simp [PyData.eqv]
    | tup ds => rw [D.py] at h4; obtain ⟨ps, _, h4⟩ := Option.map_eq_some_iff.mp h4; subst h4; simp [PyData.eqv]
    | lst ds => rw [D.py] at h4; obtain ⟨ps, _, h4⟩ := Option.map_eq_some_iff.mp h4; subst h4; simp [PyData.eqv]
    | bl _ => rw [D.gd] at h2; cases h2
    | dk _ _ => rw [D.gd] at h2; cases h2
    | dt _ _ => rw [D.gd] at h2; cases h2
    | xt _ => rw [D.gd] at h2; cases h2
    | kt _ => rw [D.gd] at h2; cases h2
    | ins _ _ _ => rw [D.gd] at h2; cases h2
  | .str i, e, p, q, h1, h2, h3, h4 => by
    rw [D.py] at h3; cases h3
    cases e with
    | non => rw [D.py] at h4; cases h4; simp [PyData.eqv]
    | int _ => rw [D.py] at h4; cases h4; simp [PyData.eqv]
    | str _ => rw [D.py] at h4; cases h4; simp [PyData.eqv]
    | tup ds => rw [D.py] at h4; obtain ⟨ps, _, h4⟩ := Option.map_eq_some_iff.mp h4; subst h4; simp [PyData.eqv]
    | lst ds => rw [D.py] at h4; obtain ⟨ps, _, h4⟩ := Option.map_eq_some_iff.mp h4; subst h4; simp [PyData.eqv]
    | bl _ => rw [D.gd] at h2; cases h2
    | dk _ _ => rw [D.gd] at h2; cases h2
    | dt _ _ => rw [D.gd] at h2; cases h2
    | xt _ => rw [D.gd] at h2; cases h2
    | kt _ => rw [D.gd] at h2; cases h2
    | ins _ _ _ => rw [D.gd] at h2; cases h2
  | .tup ds, e, p, q, h1, h2, h3, h4 => by
    rw [D.py] at h3
    obtain ⟨ps, h5, h3⟩ := Option.map_eq_some_iff.mp h3
    subst h3
    cases e with
    | non => rw [D.py] at h4; cases h4; simp [PyData.eqv]
    | int _ => rw [D.py] at h4; cases h4; simp [PyData.eqv]
    | str _ => rw [D.py] at h4; cases h4; simp [PyData.eqv]
    | tup es =>
      rw [D.py] at h4
      obtain ⟨qs, h6, h4⟩ := Option.map_eq_some_iff.mp h4
      subst h4
      rw [D.gd] at h1 h2
      rw [PyData.eqv, eqvs_gd ds es ps qs h1 h2 h5 h6]
      simp
    | lst es => rw [D.py] at h4; obtain ⟨ps, _, h4⟩ := Option.map_eq_some_iff.mp h4; subst h4; simp [PyData.eqv]
    | bl _ => rw [D.gd] at h2; cases h2
    | dk _ _ => rw [D.gd] at h2; cases h2
    | dt _ _ => rw [D.gd] at h2; cases h2
    | xt _ => rw [D.gd] at h2; cases h2
    | kt _ => rw [D.gd] at h2; cases h2
    | ins _ _ _ => rw [D.gd] at h2; cases h2
  | .lst ds, e, p, q, h1, h2, h3, h4 => by
    rw [D.py] at h3
    obtain ⟨ps, h5, h3⟩ := Option.map_eq_some_iff.mp h3
    subst h3
    cases e with
    | non => rw [D.py] at h4; cases h4; simp [PyData.eqv]
    | int _ => rw [D.py] at h4; cases h4; simp [PyData.eqv]
    | str _ => rw [D.py] at h4; cases h4; simp [PyData.eqv]
    | tup es => rw [D.py] at h4; obtain ⟨ps, _, h4⟩ := Option.map_eq_some_iff.mp h4; subst h4; simp [PyData.eqv]
    | lst es =>
      rw [D.py] at h4
      obtain ⟨qs, h6, h4⟩ := Option.map_eq_some_iff.mp h4
      subst h4
      rw [D.gd] at h1 h2
      rw [PyData.eqv, eqvs_gd ds es ps qs h1 h2 h5 h6]
      simp
    | bl _ => rw [D.gd] at h2; cases h2
    | dk _ _ => rw [D.gd] at h2; cases h2
    | dt _ _ => rw [D.gd] at h2; cases h2
    | xt _ => rw [D.gd] at h2; cases h2
    | kt _ => rw [D.gd] at h2; cases h2
    | ins _ _ _ => rw [D.gd] at h2; cases h2
  | .bl _, _, _, _, h, _, _, _ => by rw [D.gd] at h; cases h
  | .dk _ _, _, _, _, h, _, _, _ => by rw [D.gd] at h; cases h
  | .dt _ _, _, _, _, h, _, _, _ => by rw [D.gd] at h; cases h
  | .xt _, _, _, _, h, _, _, _ => by rw [D.gd] at h; cases h
  | .kt _, _, _, _, h, _, _, _ => by rw [D.gd] at h; cases h
  | .ins _ _ _, _, _, _, h, _, _, _ => by rw [D.gd] at h; cases h
theorem eqvs_gd : ∀ (ds es : List D) (ps qs : List PyData), D.gds ds = true → D.gds es = true → D.pys ds = some ps → D.pys es = some qs → (PyData.eqvAll ps qs = true ↔ ds = es)
  | [], es, ps, qs, h1, h2, h3, h4 => by
    rw [D.pys] at h3; cases h3
    cases es with
    | nil => rw [D.pys] at h4; cases h4; simp [PyData.eqvAll]
    | cons e es =>
      rw [D.pys] at h4
      obtain ⟨q, g1, h4⟩ := bind_some h4
      obtain ⟨qs', g2, h4⟩ := bind_some h4
      cases h4
      simp [PyData.eqvAll]
  | d :: ds, es, ps, qs, h1, h2, h3, h4 => by
    rw [D.pys] at h3
    obtain ⟨p, g1, h3⟩ := bind_some h3
    obtain ⟨ps', g2, h3⟩ := bind_some h3
    cases h3
    rw [D.gds, Bool.and_eq_true] at h1
    cases es with
    | nil => rw [D.pys] at h4; cases h4; simp [PyData.eqvAll]
    | cons e es =>
      rw [D.pys] at h4
      obtain ⟨q, g3, h4⟩ := bind_some h4
      obtain ⟨qs', g4, h4⟩ := bind_some h4
      cases h4
      rw [D.gds, Bool.and_eq_true] at h2
      rw [PyData.eqvAll, Bool.and_eq_true, eqv_gd d e p q h1.1 h2.1 g1 g3, eqvs_gd ds es ps' qs' h1.2 h2.2 g2 g4, List.cons.injEq]
end
theorem eqB_gd {d e : D} (h1 : d.gd = true) (h2 : e.gd = true) (h3 : d.dep ≤ 60) (h4 : e.dep ≤ 60) : ∃ z, oEqB (.fz d) (.fz e) = some z ∧ (z = true ↔ d = e) := by
  obtain ⟨p, a1, a2, a3⟩ := gd_py d h1
  obtain ⟨q, b1, b2, b3⟩ := gd_py e h2
  refine ⟨PyData.eqv p q, ?_, eqv_gd d e p q h1 h2 a1 b1⟩
  have s1 : SeqAt.shaped p = true := by
    unfold SeqAt.shaped
    rw [a2, Bool.true_and, decide_eq_true_eq]; omega
  have s2 : SeqAt.shaped q = true := by
    unfold SeqAt.shaped
    rw [b2, Bool.true_and, decide_eq_true_eq]; omega
  unfold oEqB
  rw [e_frz, a1, Option.bind_some, e_frz, b1, Option.bind_some, if_pos ⟨s1, s2⟩]
theorem eq_gd {d e : D} [Decidable (d = e)] (h1 : d.gd = true) (h2 : e.gd = true) (h3 : d.dep ≤ 60) (h4 : e.dep ≤ 60) : oEq (.fz d) (.fz e) = some (.fz (.bl (decide (d = e)))) ∧ oNe (.fz d) (.fz e) = some (.fz (.bl (!decide (d = e)))) := by
  obtain ⟨z, h5, h6⟩ := eqB_gd h1 h2 h3 h4
  have e1 : z = decide (d = e) := by
    rw [Bool.eq_iff_iff, decide_eq_true_eq]; exact h6
  subst e1
  unfold oEq oNe
  rw [h5]
  exact ⟨rfl, rfl⟩
theorem eq_self {d : D} (h1 : d.gd = true) (h3 : d.dep ≤ 60) : oEq (.fz d) (.fz d) = some (.fz (.bl true)) ∧ oNe (.fz d) (.fz d) = some (.fz (.bl false)) := by
  obtain ⟨z, h5, h6⟩ := eqB_gd h1 h1 h3 h3
  have e1 : z = true := h6.mpr rfl
  subst e1
  unfold oEq oNe
  rw [h5]
  exact ⟨rfl, rfl⟩
theorem encQ_gd (q : Rat) : (encQ q).gd = true := by simp -implicitDefEqProofs [encQ, D.gd, D.gds]
theorem eqQ (a b : Rat) : oEq (.fz (encQ a)) (.fz (encQ b)) = some (.fz (.bl (decide (a = b)))) ∧ oNe (.fz (encQ a)) (.fz (encQ b)) = some (.fz (.bl (!decide (a = b)))) := by
  obtain ⟨z, h5, h6⟩ := eqB_gd (encQ_gd a) (encQ_gd b) (by rw [encQ_dep]; decide) (by rw [encQ_dep]; decide)
  have e1 : z = decide (a = b) := by
    rw [Bool.eq_iff_iff, decide_eq_true_eq, h6]
    exact ⟨encQ_inj, fun h => by rw [h]⟩
  subst e1
  unfold oEq oNe
  rw [h5]
  exact ⟨rfl, rfl⟩
theorem gds_map {α : Type} {h : α → D} (w : ∀ x, (h x).gd = true) : ∀ xs : List α, D.gds (xs.map h) = true
  | [] => by rw [List.map_nil, D.gds]
  | x :: xs => by rw [List.map_cons, D.gds, w, gds_map w xs]; rfl
end Q
namespace Q
open PySem L2
/-! ### moves -/
theorem ixN_nat {n j : Nat} (h : j < n) : ixN n (j : Int) = some j := by
  unfold ixN
  rw [if_pos (by omega), if_pos (by omega)]
  rfl
/-- a slot that is not bound, or holds a datum -/
def slD : Option D → Sl
  | none => .un
  | some d => .has (.fz d)
def encP (p : Nat × Rat) : D := .tup [.int (p.1 : Int), encQ p.2]
def addAt (f : Nat → Rat) (p : Nat × Rat) : Nat → Rat := fun k => if k = p.1 then f k + p.2 else f k
def sumsAt (ps : List (Nat × Rat)) : Nat → Rat := ps.foldl addAt fun _ => 0
def rowOf (ps : List (Nat × Rat)) (size : Nat) : List (Nat × Rat) := ((List.range size).filter fun k => decide (sumsAt ps k ≠ 0)).map fun k => (k, sumsAt ps k)
theorem foldl_pair (ps : List (Nat × Rat)) (f : Nat → Rat) (a : Rat) : ps.foldl (fun (s : (Nat → Rat) × Rat) p => (addAt s.1 p, s.2 + p.2)) (f, a) = (ps.foldl addAt f, sumQ a (ps.map (·.2))) := by
  induction ps generalizing f a with
  | nil => rfl
  | cons p ps ih => rw [List.foldl_cons, ih]; rfl
end Q
namespace Q
open PySem L2
theorem e_mulL {d : D} {xs : List D} {n : Nat} (h : n ≤ 16000000) (hx : xs = [d] := by rfl) : oMul (.ls (xs.map .fz)) (.fz (.int (n : Int))) = some (.ls ((List.replicate n d).map .fz)) := by
  subst hx
  have h1 : oMulI (.ls ([d].map .fz)) (.fz (.int (n : Int))) = none := rfl
  unfold oMul
  rw [h1, Option.none_or]
  unfold oMulL
  have h2 : -9223372036854775808 ≤ (n : Int) ∧ (n : Int) < 9223372036854775808 ∧ ([d].map O.fz).length * (n : Int).toNat ≤ sizeLine := by
    refine ⟨by omega, by omega, ?_⟩
    show 1 * (n : Int).toNat ≤ 16777216
    omega
  have h3 : ∀ n : Nat, (List.replicate n [d]).flatten = List.replicate n d := fun n => by
    induction n with
    | zero => rfl
    | succ n ih => rw [List.replicate_succ, List.flatten_cons, ih]; rfl
  dsimp only
  rw [if_pos h2, mapM_fz, Option.bind_some, Int.toNat_natCast, h3]
end Q
namespace Q
open PySem L2
def encR (r : List (Nat × Rat)) : D := .tup (r.map encP)
def encG (rs : List Rat) (rows : List (List (Nat × Rat))) : D := .tup [.tup (rs.map encQ), .tup (rows.map encR)]
/-- a row that a game of this size may have -/
structure RowOk (size : Nat) (r : List (Nat × Rat)) : Prop where
  lt : ∀ p ∈ r, p.1 < size
  nn : ∀ p ∈ r, 0 ≤ p.2
  one : sumQ 0 (r.map (·.2)) = 1
  sz : szs (r.map (·.2)) ≤ 60000000
def isR (d : D) (r : List (Nat × Rat)) : Prop := d = .tup (r.map encP) ∨ d = .lst (r.map encP)
/-- targets that ascend, none with chance 0 -/
structure Canon (r : List (Nat × Rat)) : Prop where
  asc : (r.map (·.1)).Pairwise (· < ·)
  ne : ∀ p ∈ r, p.2 ≠ 0
theorem sumsAt_append (a b : List (Nat × Rat)) (f : Nat → Rat) (k : Nat) (h : ∀ p ∈ b, p.1 ≠ k) : (a ++ b).foldl addAt f k = a.foldl addAt f k := by
  rw [List.foldl_append]
  generalize a.foldl addAt f = g
  induction b generalizing g with
  | nil => rfl
  | cons p b ih =>
    rw [List.foldl_cons, ih (fun q hq => h q (by simp [hq]))]
    unfold addAt
    rw [if_neg (fun e => h p (by simp) e.symm)]
theorem sumsAt_none (a : List (Nat × Rat)) (f : Nat → Rat) (k : Nat) (h : ∀ p ∈ a, p.1 ≠ k) : a.foldl addAt f k = f k := by
  have := sumsAt_append [] a f k h
  simpa using this
theorem sumsAt_mem : ∀ (r : List (Nat × Rat)) (f : Nat → Rat), (r.map (·.1)).Pairwise (· < ·) → ∀ p ∈ r, r.foldl addAt f p.1 = f p.1 + p.2
  | [], _, _, p, h => by simp at h
  | q :: r, f, ha, p, h => by
    rw [List.map_cons, List.pairwise_cons] at ha
    rw [List.foldl_cons]
    rcases List.mem_cons.mp h with rfl | h
    · rw [sumsAt_none r _ _ (fun x hx => by
        have := ha.1 x.1 (List.mem_map.mpr ⟨x, hx, rfl⟩)
        omega)]
      unfold addAt
      rw [if_pos rfl]
    · rw [sumsAt_mem r _ ha.2 p h]
      have : q.1 < p.1 := ha.1 p.1 (List.mem_map.mpr ⟨p, h, rfl⟩)
      unfold addAt
      rw [if_neg (by omega)]
theorem sorted_ext {a b : List (Nat × Rat)} (ha : (a.map (·.1)).Pairwise (· < ·)) (hb : (b.map (·.1)).Pairwise (· < ·)) (h : ∀ p, p ∈ a ↔ p ∈ b) : a = b := by
  induction a generalizing b with
  | nil =>
    cases b with
    | nil => rfl
    | cons q b => exact absurd ((h q).mpr (by simp)) (by simp)
  | cons p a ih =>
    cases b with
    | nil => exact absurd ((h p).mp (by simp)) (by simp)
    | cons q b =>
      rw [List.map_cons, List.pairwise_cons] at ha hb
      have hpq : p = q := by
        rcases List.mem_cons.mp ((h p).mp (by simp)) with e | e
        · exact e
        · rcases List.mem_cons.mp ((h q).mpr (by simp)) with e2 | e2
          · exact e2.symm
          · have h1 := hb.1 p.1 (List.mem_map.mpr ⟨p, e, rfl⟩)
            have h2 := ha.1 q.1 (List.mem_map.mpr ⟨q, e2, rfl⟩)
            omega
      subst hpq
      rw [ih ha.2 hb.2 fun x => ?_]
      have hx := h x
      simp only [List.mem_cons] at hx
      constructor
      · intro hm
        rcases hx.mp (.inr hm) with e | e
        · subst e
          have := ha.1 x.1 (List.mem_map.mpr ⟨x, hm, rfl⟩)
          omega
        · exact e
      · intro hm
        rcases hx.mpr (.inr hm) with e | e
        · subst e
          have := hb.1 x.1 (List.mem_map.mpr ⟨x, hm, rfl⟩)
          omega
        · exact e
theorem rowOf_asc (r : List (Nat × Rat)) (size : Nat) : ((rowOf r size).map (·.1)).Pairwise (· < ·) := by
  unfold rowOf
  rw [List.map_map]
  have : (List.map ((fun x : Nat × Rat => x.1) ∘ fun k => (k, sumsAt r k)) ((List.range size).filter fun k => decide (sumsAt r k ≠ 0))) = (List.range size).filter fun k => decide (sumsAt r k ≠ 0) := by
    conv => rhs; rw [← List.map_id ((List.range size).filter fun k => decide (sumsAt r k ≠ 0))]
    exact List.map_congr_left fun k _ => rfl
  rw [this]
  exact List.Pairwise.filter _ List.pairwise_lt_range
theorem rowOf_mem {r : List (Nat × Rat)} {size : Nat} {p : Nat × Rat} : p ∈ rowOf r size ↔ p.1 < size ∧ p.2 = sumsAt r p.1 ∧ p.2 ≠ 0 := by
  unfold rowOf
  rw [List.mem_map]
  constructor
  · rintro ⟨k, hk, rfl⟩
    rw [List.mem_filter, List.mem_range, decide_eq_true_eq] at hk
    exact ⟨hk.1, rfl, hk.2⟩
  · rintro ⟨h1, h2, h3⟩
    refine ⟨p.1, ?_, by rw [← h2]⟩
    rw [List.mem_filter, List.mem_range, decide_eq_true_eq, ← h2]
    exact ⟨h1, h3⟩
/-- a row in order is its own row -/
theorem rowOf_canon {r : List (Nat × Rat)} {size : Nat} (c : Canon r) (h : ∀ p ∈ r, p.1 < size) : rowOf r size = r := by
  refine sorted_ext (rowOf_asc r size) c.asc fun p => ?_
  rw [rowOf_mem]
  constructor
  · rintro ⟨h1, h2, h3⟩
    by_cases hm : ∃ q ∈ r, q.1 = p.1
    · obtain ⟨q, hq, e⟩ := hm
      have := sumsAt_mem r (fun _ => 0) c.asc q hq
      have e2 : p = q := by
        refine Prod.ext e.symm ?_
        rw [h2, ← e]
        show r.foldl addAt _ q.1 = _
        rw [this]; grind
      rw [e2]; exact hq
    · exfalso
      apply h3
      rw [h2]
      show r.foldl addAt _ p.1 = 0
      rw [sumsAt_none r _ _ fun q hq e => hm ⟨q, hq, e⟩]
  · intro hp
    have := sumsAt_mem r (fun _ => 0) c.asc p hp
    refine ⟨h p hp, ?_, c.ne p hp⟩
    show _ = r.foldl addAt _ p.1
    rw [this]; grind
end Q
namespace Q
open PySem L2
theorem encP_wid (p : Nat × Rat) : (encP p).wid = true := by simp -implicitDefEqProofs [encP, D.wid, D.wids, encQ_wid]
theorem encP_dep (p : Nat × Rat) : (encP p).dep ≤ 2 := by simp -implicitDefEqProofs [encP, D.dep, D.deps, encQ_dep]
theorem encR_dep (r : List (Nat × Rat)) : (encR r).dep ≤ 3 := by
  rw [encR, D.dep]
  have := deps_map (k := 2) encP_dep r
  omega
theorem encG_dep (rs : List Rat) (rows : List (List (Nat × Rat))) : (encG rs rows).dep ≤ 5 := by
  rw [encG, D.dep, D.deps, D.deps, D.deps, D.dep, D.dep]
  have h1 := deps_map (k := 1) (fun q => Nat.le_of_eq (encQ_dep q)) rs
  have h2 := deps_map (k := 3) encR_dep rows
  omega
theorem wids_mem : ∀ {ds : List D}, (∀ d ∈ ds, d.wid = true) → D.wids ds = true
  | [], _ => by rw [D.wids]
  | d :: ds, h => by rw [D.wids, h d (by simp), wids_mem fun x hx => h x (by simp [hx])]; rfl
theorem encG_wid {rs : List Rat} {rows : List (List (Nat × Rat))} (h1 : rs.length ≤ 1000000) (h2 : rows.length ≤ 1000000) (h3 : ∀ r ∈ rows, r.length ≤ 1000000) : (encG rs rows).wid = true := by
  rw [encG, D.wid, D.wids, D.wids, D.wids, D.wid, D.wid, wids_map encQ_wid]
  have : D.wids (rows.map encR) = true := wids_mem fun d hd => by
    obtain ⟨r, hr, rfl⟩ := List.mem_map.mp hd
    rw [encR, D.wid, wids_map encP_wid, Bool.and_true, decide_eq_true_eq, List.length_map]
    exact h3 r hr
  rw [this]
  simp
  omega
theorem encR_gd (r : List (Nat × Rat)) : (encR r).gd = true := by
  rw [encR, D.gd]
  exact gds_map (fun p => by simp -implicitDefEqProofs [encP, D.gd, D.gds, encQ_gd]) r
theorem encG_gd (rs : List Rat) (rows : List (List (Nat × Rat))) : (encG rs rows).gd = true := by
  rw [encG, D.gd, D.gds, D.gds, D.gds, D.gd, D.gd, gds_map encQ_gd, gds_map encR_gd]
  rfl
/-- a game as it is told -/
structure GameOk (rs : List Rat) (rows : List (List (Nat × Rat))) (n : Nat) : Prop where
  l1 : rs.length = n
  l2 : rows.length = n
  n0 : n ≠ 0
  nz : n ≤ 1000000
  ok : ∀ r ∈ rows, RowOk n r
  ca : ∀ r ∈ rows, Canon r
  sh : ∀ r ∈ rows, r.length ≤ 1000000
/-- one move, for sure -/
theorem row1_ok {n k : Nat} (h : k < n) : RowOk n [(k, 1)] := by
  refine ⟨by simpa using h, ?_, ?_, ?_⟩
  · intro p hp
    rw [List.mem_singleton.mp hp]
    show (0 : Rat) ≤ 1
    decide +kernel
  · show (0 : Rat) + 1 = 1
    decide +kernel
  · simp [szs, sz_one]
theorem row1_canon (k : Nat) : Canon [(k, 1)] := by
  refine ⟨by simp, ?_⟩
  intro p hp
  rw [List.mem_singleton.mp hp]
  show (1 : Rat) ≠ 0
  decide +kernel
end Q
namespace Q
open PySem L2
def encO (p : Rat × Rat) : D := .tup [encQ p.1, encQ p.2]
def throwRows (outs : List (Rat × Rat)) : List (List (Nat × Rat)) := ((List.range outs.length).map fun k => (k + 1, (outs[k]?.getD (0, 0)).1)) :: (List.range outs.length).map fun k => [(k + 1, 1)]
end Q

set_option Elab.async false
set_option linter.all false
set_option maxRecDepth 100000
set_option maxHeartbeats 1000000
namespace Q
open PySem L2
theorem e_sum {is : List Int} : gSum [.ls (is.map fun i => .fz (.int i))] = some (.fz (.int is.sum)) := by
  have e : (is.map fun i => O.fz (.int i)) = (is.map D.int).map O.fz := by rw [List.map_map]; rfl
  rw [e]
  show gLI _ _ = _
  simp only [gLI, O.asL, mapM_fz, mapM_int, Option.bind_some]
theorem divInt_same (a b c : Int) : Rat.divInt a c + Rat.divInt b c = Rat.divInt (a + b) c := by
  by_cases h : c = 0
  · subst h; simp [Rat.divInt_zero]; grind
  · rw [Rat.divInt_add_divInt _ _ h h, ← Int.add_mul, Rat.divInt_mul_right h]
theorem sumQ_div (W : Int) (ws : List Int) (a : Int) : sumQ (Rat.divInt a W) (ws.map fun w => Rat.divInt w W) = Rat.divInt (a + ws.sum) W := by
  induction ws generalizing a with
  | nil => simp [sumQ]
  | cons w ws ih => rw [List.map_cons, sumQ_cons, divInt_same, ih, List.sum_cons, Int.add_assoc]
theorem divInt_self' {W : Int} (h : W ≠ 0) : Rat.divInt W W = 1 := by
  have := Rat.divInt_mul_right (n := 1) (d := 1) h
  rw [Int.one_mul] at this
  rw [this]; rfl
theorem divInt_ne {a b : Int} (ha : a ≠ 0) (hb : b ≠ 0) : Rat.divInt a b ≠ 0 := by
  intro e
  have z : Rat.divInt 0 1 = 0 := by decide +kernel
  have := (Rat.divInt_eq_divInt_iff hb (by decide : (1 : Int) ≠ 0)).mp (e.trans z.symm)
  omega
end Q
namespace Q
open PySem L2
theorem sz_foldl (ps : List (Nat × Rat)) (f : Nat → Rat) (k : Nat) : sz (ps.foldl addAt f k) ≤ sz (f k) + szs (ps.map (·.2)) := by
  induction ps generalizing f with
  | nil => exact Nat.le_add_right _ _
  | cons p ps ih =>
    rw [List.foldl_cons, List.map_cons, szs_cons]
    have h1 := ih (addAt f p)
    have h2 : sz (addAt f p k) ≤ sz (f k) + sz p.2 + 1 := by
      unfold addAt
      split
      · exact sz_add _ _
      · omega
    omega
/-- the sum of f below n -/
def sumTo (f : Nat → Rat) (n : Nat) : Rat := sumQ 0 ((List.range n).map f)
theorem sumQ_append (r : Rat) (a b : List Rat) : sumQ r (a ++ b) = sumQ (sumQ r a) b := by
  unfold sumQ
  rw [List.foldl_append]
theorem sumTo_succ (f : Nat → Rat) (n : Nat) : sumTo f (n + 1) = sumTo f n + f n := by
  unfold sumTo
  rw [List.range_succ, List.map_append, sumQ_append]; rfl
theorem sumTo_addAt (f : Nat → Rat) (p : Nat × Rat) (n : Nat) : sumTo (addAt f p) n = if p.1 < n then sumTo f n + p.2 else sumTo f n := by
  induction n with
  | zero => rfl
  | succ n ih =>
    rw [sumTo_succ, sumTo_succ, ih]
    unfold addAt
    by_cases h : p.1 < n
    · have h1 : p.1 < n + 1 := by omega
      have h2 : ¬ n = p.1 := by omega
      rw [if_pos h, if_neg h2, if_pos h1]; grind
    · by_cases h2 : n = p.1
      · have h1 : p.1 < n + 1 := by omega
        rw [if_neg h, if_pos h2, if_pos h1]; grind
      · have h1 : ¬ p.1 < n + 1 := by omega
        rw [if_neg h, if_neg h2, if_neg h1]
theorem sumTo_foldl (ps : List (Nat × Rat)) (f : Nat → Rat) (n : Nat) (h : ∀ p ∈ ps, p.1 < n) : sumTo (ps.foldl addAt f) n = sumQ (sumTo f n) (ps.map (·.2)) := by
  induction ps generalizing f with
  | nil => rfl
  | cons p ps ih =>
    rw [List.foldl_cons, ih _ (fun q hq => h q (by simp [hq])), sumTo_addAt, if_pos (h p (by simp))]
    rfl
theorem sumQ_filter (f : Nat → Rat) : ∀ (l : List Nat) (r : Rat), sumQ r (((l.filter fun k => decide (f k ≠ 0)).map fun k => (k, f k)).map (·.2)) = sumQ r (l.map f)
  | [], r => rfl
  | k :: l, r => by
    by_cases h : f k = 0
    · have e : (List.filter (fun k => decide (f k ≠ 0)) (k :: l)) = List.filter (fun k => decide (f k ≠ 0)) l := by simp [h]
      rw [e, sumQ_filter f l r, List.map_cons, sumQ_cons, h]
      congr 1; grind
    · have e : (List.filter (fun k => decide (f k ≠ 0)) (k :: l)) = k :: List.filter (fun k => decide (f k ≠ 0)) l := by simp [h]
      rw [e, List.map_cons, List.map_cons, sumQ_cons, sumQ_filter f l _, List.map_cons, sumQ_cons]
theorem foldl_nn (ps : List (Nat × Rat)) (f : Nat → Rat) (hf : ∀ k, 0 ≤ f k) (h : ∀ p ∈ ps, 0 ≤ p.2) (k : Nat) : 0 ≤ ps.foldl addAt f k := by
  induction ps generalizing f with
  | nil => exact hf k
  | cons p ps ih =>
    rw [List.foldl_cons]
    refine ih (addAt f p) (fun j => ?_) (fun q hq => h q (by simp [hq]))
    unfold addAt
    have := hf j
    have := h p (by simp)
    split <;> grind
/-- a good row's own row is a good one, in order -/
theorem rowOf_ok {n : Nat} {r : List (Nat × Rat)} (h : RowOk n r) (hz : n * (szs (r.map (·.2)) + 2) ≤ 60000000) : RowOk n (rowOf r n) ∧ Canon (rowOf r n) := by
  refine ⟨⟨fun p hp => (rowOf_mem.mp hp).1, fun p hp => ?_, ?_, ?_⟩, rowOf_asc r n, fun p hp => (rowOf_mem.mp hp).2.2⟩
  · rw [(rowOf_mem.mp hp).2.1]
    exact foldl_nn r _ (fun _ => Rat.le_refl) h.nn _
  · unfold rowOf
    rw [sumQ_filter]
    have := sumTo_foldl r (fun _ => 0) n h.lt
    have z : ∀ m, sumTo (fun _ => 0) m = 0 := fun m => by
      induction m with
      | zero => rfl
      | succ m ih => rw [sumTo_succ, ih]; grind
    rw [z, h.one] at this
    exact this
  · have h1 := szs_le (qs := (rowOf r n).map (·.2)) (k := szs (r.map (·.2)) + 1) (fun q hq => by
      obtain ⟨p, hp, rfl⟩ := List.mem_map.mp hq
      rw [(rowOf_mem.mp hp).2.1]
      have := sz_foldl r (fun _ => 0) p.1
      rw [sz_zero] at this
      show sz (r.foldl addAt _ p.1) ≤ _
      omega)
    have h2 : ((rowOf r n).map (·.2)).length ≤ n := by
      unfold rowOf
      rw [List.length_map, List.length_map]
      have := List.length_filter_le (fun k => decide (sumsAt r k ≠ 0)) (List.range n)
      rwa [List.length_range] at this
    have h3 := Nat.mul_le_mul_right (szs (r.map (·.2)) + 1 + 1) h2
    have h4 : n * (szs (r.map (·.2)) + 1 + 1) ≤ 60000000 := hz
    exact Nat.le_trans h1 (Nat.le_trans h3 h4)
end Q

set_option Elab.async false
set_option linter.all false
set_option maxRecDepth 100000
set_option maxHeartbeats 1000000
namespace Q
open PySem L2 PyProof.Rows RZ
/-! ### list.extend with a tuple -/
theorem list_extend_tupG (l : Addr) (items : Array Value) (n : Nat) (b : Addr) (o : Obj) (items2 : Array Value) (n2 : Nat) (hc : o.cls = .type "tuple") (hd : o.data = .seq items2 n2) (hs0 : ¬(!items.isEmpty && Builtin.List.listTooLong (items.size + items2.size)) = true) (hs1 : items.size ≤ sizeLine) (hs2 : items.size + items2.size ≤ sizeLine + 1 := by seq_fits) :
    Meets (Builtin.«list.extend» ⟨[.ref l, .ref b], []⟩) (fun _ R s => s.heap.get? l = some { cls := .type "list", dict := none, data := .seq items n, slots := #[] } ∧ s.heap.get? b = some o ∧ R (.ok (.ret Value.none)) { s with heap := s.heap.update l (Obj.mapSeq fun x => x ++ items2), toks := s.toks }) := by
  obtain ⟨oc, od, odt, osl⟩ := o
  dsimp only at hc hd
  subst hc hd
  exact .of_wp fun prog w A R s h => by
    obtain ⟨hp, g, d, tk, os⟩ := s; obtain ⟨hl, hb, h⟩ := h; have f1 := AutoSeq1.idx_int; have f2 := AutoSeq1.sub_tuple_tuple; have f3 := AutoSeq1.sub_list_list; have f4 := AutoSeq1.sub_tuple_list; have f5 := AutoSeq1.sub_list_tuple;
    have hz' : (items ++ items2).size ≤ sizeLine + 1 := by rw [Array.size_append]; exact hs2
    wp_walk using (wpAny_updateSeq hl rfl (hz := hs1) (_hz' := hz')), AutoSeq1.wpAny_loadPart' hl, AutoSeq1.wpAny_loadPart' hb; exact ⟨_, rfl, h⟩
def rExtT (K : PySem.W.Frag) : V → List V → Hp → VK → Prop := fun x vs H Q => ∃ l b xs zs, x = .ref l ∧ vs = [.ref b] ∧ H l = some (.lst xs) ∧ SqT K H b zs ∧ xs.length + zs.length ≤ sizeLine ∧ Q .non (upd H l (.lst (xs ++ zs)))
theorem mt_extT {X : Cx} : MtM X "list.extend" (rExtT X.K) := by
  intro pins s σ H x vs v us Q I rx rv h
  obtain ⟨l, b, xs, zs, rfl, rfl, hH, hB, hz, q⟩ := h
  cases rx
  obtain ⟨u, rfl, ru⟩ := rv.one
  cases ru
  obtain ⟨z, its, n, r, hl, e⟩ := I.lstM hH
  obtain ⟨its2, r2, ⟨o2, e2, c2, n2, d2⟩, z2⟩ := I.tuple hB
  have hl2 := r2.length
  have hsz : its.toArray.size + its2.toArray.size ≤ sizeLine := by rw [List.size_toArray, List.size_toArray]; omega
  have hlong : ¬ (!its.toArray.isEmpty && Builtin.List.listTooLong (its.toArray.size + its2.toArray.size)) = true := by
    rw [notLongL hsz, Bool.and_false]
    exact Bool.false_ne_true
  refine call_meets F.slot_list_extend ⟨_, e, rfl⟩ F.entry_list_extend (F.args_list_extend_2 _ _)
    (list_extend_tupG l its.toArray n b o2 its2.toArray n2 c2 d2 hlong (by rw [List.size_toArray]; omega) (by omega)) ⟨e, e2, ?_⟩
  refine ⟨.non, _, I.lset (its' := its ++ its2) hH e (by simp) (r.append r2) ?_, rfl, q⟩
  rw [List.length_append]
  omega
def sExt (i : Nat) (m : EM O) : SM := fun env => (lsAt i env).bind fun _ => (m env).bind fun p => (lsAt i p.2).bind fun os => match p.1 with
  | .fz (.tup ds) => if os.length + ds.length ≤ sizeLine then some (.nx (p.2.set i (.has (.ls (os ++ ds.map .fz))))) else none
  | _ => none
theorem rps_fz {K : PySem.W.Frag} {H0 B H : Hp} {A : List Addr} {R : List (O × V)} : ∀ {ds : List D} {vs : List V}, Rps K B ds vs → Own K H0 B H A R → Own K H0 B H A ((ds.map O.fz).zip vs ++ R) := fun r h => Own.fzs r h
section
variable {X : Cx} {e : Expr} {m : EM O} {x : Str} {p0 p1 cpos pos : Pos} {i : Nat}
theorem qs_extend (hN : X.N[i]? = some x) (he : QE X e m) (hv : Vis X.env.scope x := by first | exact Or.inl rfl | exact Or.inr (Or.inl rfl) | exact Or.inr (Or.inr rfl)) (hd : (x == ("__debug__" : Str)) = false := by decide)
    (hcd : (x == ("__classdict__" : Str)) = false := by decide)
    (hbase : attributeBase (.Name x p0) "extend" X.env (eval (.Name x p0) X.env) = eval (.Name x p0) X.env := by rfl)
    (hfew : ((backTo cpos (starEach [e] X.env)).all (fun x => !x.1) && (backToKw cpos (keywordEach [] X.env)).all (fun x => x.1.isSome) && decide ([e].length + ([] : List Keyword).length + (if ([] : List Keyword).isEmpty then 0 else 1) < 30)) = true := by rfl)
    (hline : (p1.endLine == cpos.line) = true := by rfl) (hst : starEach [e] X.env = (false, eval e X.env) :: starEach [] X.env := by rfl) (hplain : (backTo cpos (starEach [] X.env)).any (·.1) = false := by rfl)
    (hs : swapsWith (.Call (.Attribute (.Name x p0) "extend" p1) [e] [] cpos) none pos.line X.env = pure false := by rfl) :
    QS X (.Expr (.Call (.Attribute (.Name x p0) "extend" p1) [e] [] cpos) pos) (sExt i m) := by
  obtain ⟨t, h1, h2⟩ := he
  refine ⟨_, ps_expr (pe_bm PySem.F.plainAttrs_list PySem.F.slot_list_extend PySem.F.type_list_extend mt_extT (pe_var hN hv hd hcd) (pa_cons h1 pa_nil hst) hbase hfew hline hst hplain) hs, fun H0 B0 ln Γ B H σ env s out em E q => ?_⟩
  obtain ⟨os0, l0, em⟩ := bind_some em
  obtain ⟨p, em1, em⟩ := bind_some em
  obtain ⟨os, l1, em⟩ := bind_some em
  obtain ⟨o1, env1⟩ := p
  cases o1 with
  | fz d =>
    cases d with
    | tup ds =>
      have em : (if os.length + ds.length ≤ sizeLine then some (Out.nx (env1.set i (.has (.ls (os ++ ds.map .fz))))) else none) = some out := em
      split at em
      · rename_i hz
        cases em
        obtain ⟨v, hv0, w⟩ := s.slot (lsAt_ok l0)
        obtain ⟨a0, vs0, rfl, g0, _⟩ := asO_ok w
        refine ⟨_, hv0, .inl ⟨rfl, vs0, SqL.of g0⟩, h2 H0 B0 ln Γ B H σ env s _ _ em1 _ fun u B1 H1 e1 e2 s1 => ?_⟩
        have r1 := s1.rp
        rw [Rp] at r1
        obtain ⟨b, zs, rfl, hb, hr⟩ := r1
        have s1' : Stt X.K H0 B0 ln (((ds.map O.fz).zip zs) ++ Γ) B1 H1 σ env1 := ⟨s1.w, s1.sg, by
          refine (Own.fzs hr s1.pop.own).perm ?_
          rw [← List.append_assoc, ← List.append_assoc]
          exact List.perm_append_comm.append_right _⟩
        obtain ⟨a, us, hv1, g1, g2, g3⟩ := Stt.mutSlot s1' (lsAt_ok l1)
        rw [hv0] at hv1
        cases hv1
        have hl := hr.len
        refine ⟨a0, b, us, zs, rfl, rfl, g1, s1.w.bh.t hb, by rw [← g2, ← hl]; exact hz, q B1 _ σ e1 ?_⟩
        exact g3 (os ++ ds.map .fz) (us ++ zs) [] (by simp [g2, hl]) (by rw [zip_append' g2, List.append_nil])
      · cases em
    | _ => cases em
  | _ => cases em
end
/-! ### zip in a for statement: both are given away -/
def mZipF (m : EM (List O)) : EM (List D) := fun env => (m env).bind fun p => match O.frzs p.1 with
  | [.tup ds, .tup es] => some (zipD ds es, p.2)
  | [.lst ds, .lst es] => some (zipD ds es, p.2)
  | _ => none
theorem rps2 {K : PySem.W.Frag} {B : Hp} {d e : D} {vs : List V} (r : Rps K B [d, e] vs) : ∃ v u, vs = [v, u] ∧ Rp K B d v ∧ Rp K B e u := by
  rw [Rps] at r
  obtain ⟨v, rr, rfl, h1, h2⟩ := r
  rw [Rps] at h2
  obtain ⟨u, r3, rfl, h3, h4⟩ := h2
  rw [Rps] at h4
  subst h4
  exact ⟨v, u, rfl, h1, h3⟩
theorem qi_zipF {X : Cx} {a b : Expr} {p pos : Pos} {mA : EM (List O)} {elts : List Expr} {kk : Nat} {tpos : Pos} (hg : Gl X "zip") (hm : X.mg "zip" = none) (ha : QA X [a, b] mA) (hs : starEach [a, b] X.env = (false, eval a X.env) :: starEach [b] X.env := by rfl)
    (hpl : (backTo pos (starEach [b] X.env)).any (·.1) = false := by rfl) : QI X true (.Tuple elts kk tpos) (.Call (.Name "zip" p) [a, b] [] pos) (mZipF mA) := by
  obtain ⟨t, h1, h2⟩ := ha
  refine ⟨_, pi_zipA hg hm h1 hs hpl, fun H0 B0 ln Γ B H σ env s ds env' em R q => ?_⟩
  obtain ⟨p, em1, em⟩ := bind_some em
  obtain ⟨os, env1⟩ := p
  refine h2 H0 B0 ln Γ B H σ env s _ _ em1 _ fun vs B1 H1 e1 e2 hl s1 => ?_
  obtain ⟨B2, e3, r, s2⟩ := Stt.frzs hl s1
  generalize hos : O.frzs os = fs at r
  have em : (match O.frzs os with | [.tup ds, .tup es] => some (zipD ds es, env1) | [.lst ds, .lst es] => some (zipD ds es, env1) | _ => none) = some (ds, env') := em
  rw [hos] at em
  split at em
  · cases em
    obtain ⟨v, u, rfl, w2, w3⟩ := rps2 r
    rw [Rp] at w2 w3
    obtain ⟨x1, vs, rfl, g1, g2⟩ := w2
    obtain ⟨x2, us, rfl, g3, g4⟩ := w3
    refine ⟨x1, x2, vs, us, rfl, .inr ⟨s2.w.bh.t g1, s2.w.bh.t g3, q _ B2 H1 (e1.trans e3) e2 s2 ((walkD_zipT g2 g4).mono fun H2 g => ?_)⟩⟩
    have g : Ex B2 H2 := by simpa using g
    exact ⟨g.t g1, g.t g3⟩
  · cases em
    obtain ⟨v, u, rfl, w2, w3⟩ := rps2 r
    rw [Rp] at w2 w3
    obtain ⟨x1, vs, rfl, g1, g2⟩ := w2
    obtain ⟨x2, us, rfl, g3, g4⟩ := w3
    refine ⟨x1, x2, vs, us, rfl, .inl ⟨s2.w.bh.l g1, s2.w.bh.l g3, q _ B2 H1 (e1.trans e3) e2 s2 ((walkD_zip g2 g4).mono fun H2 g => ?_)⟩⟩
    have g : Ex B2 H2 := by simpa using g
    exact ⟨g.l g1, g.l g3⟩
  · cases em
/-! ### expressions that change what the frame owns (xs.pop()): the heap need not grow -/
def SEw (K : PySem.W.Frag) (t : TE) (m : EM O) : Prop :=
  ∀ (H0 B0 : Hp) (ln : Nat → Option V) (Γ : List (O × V)) (B H : Hp) (σ : L2.St) (env : En), Stt K H0 B0 ln Γ B H σ env → ∀ o env', m env = some (o, env') → ∀ Q : VK,
    (∀ v B' H', Ex B B' → Stt K H0 B0 ln ((o, v) :: Γ) B' H' σ env' → Q v H') → t σ H Q
def QEw (X : Cx) (e : Expr) (m : EM O) : Prop := ∃ t, PE X e t ∧ SEw X.K t m
theorem qew_of {X : Cx} {e : Expr} {m : EM O} (h : QE X e m) : QEw X e m := by
  obtain ⟨t, h1, h2⟩ := h
  exact ⟨t, h1, fun H0 B0 ln Γ B H σ env s o env' em Q q => h2 H0 B0 ln Γ B H σ env s o env' em Q fun v B' H' e1 _ s' => q v B' H' e1 s'⟩
def mPopX (i : Nat) : EM O := fun env => (lsAt i env).bind fun os => (os.getLast?).bind fun o => some (o, env.set i (.has (.ls os.dropLast)))
theorem dropLast_zip2 {α β : Type} {xs : List α} {us : List β} {x : α} (h : xs.length = us.length) (hx : xs.getLast? = some x) : ∃ y, us[us.length - 1]? = some y ∧ xs.zip us = xs.dropLast.zip us.dropLast ++ [(x, y)] := by
  have h1 : xs ≠ [] := fun e => by rw [e] at hx; cases hx
  have h2 : us ≠ [] := fun e => by
    rw [e] at h
    exact h1 (List.length_eq_zero_iff.mp h)
  have h3 : xs.getLast h1 = x := by
    rw [List.getLast?_eq_getLast h1] at hx
    exact Option.some.inj hx
  refine ⟨us.getLast h2, ?_, ?_⟩
  · rw [← List.getLast?_eq_getElem?, List.getLast?_eq_getLast h2]
  · have e1 := List.dropLast_concat_getLast h1
    have e2 := List.dropLast_concat_getLast h2
    have e3 : xs.zip us = (xs.dropLast ++ [xs.getLast h1]).zip (us.dropLast ++ [us.getLast h2]) := by rw [e1, e2]
    rw [e3, zip_append' (by simp [h]), h3]
    rfl
section
variable {X : Cx} {a b e : Expr} {ma mb m : EM O} {x : Str} {p0 p1 cpos pos : Pos} {i : Nat}
theorem qew_pop (hN : X.N[i]? = some x) (hv : Vis X.env.scope x := by first | exact Or.inl rfl | exact Or.inr (Or.inl rfl) | exact Or.inr (Or.inr rfl)) (hd : (x == ("__debug__" : Str)) = false := by decide)
    (hcd : (x == ("__classdict__" : Str)) = false := by decide)
    (hbase : attributeBase (.Name x p0) "pop" X.env (eval (.Name x p0) X.env) = eval (.Name x p0) X.env := by rfl) (hline : (p1.endLine == cpos.line) = true := by rfl) :
    QEw X (.Call (.Attribute (.Name x p0) "pop" p1) [] [] cpos) (mPopX i) := by
  refine ⟨_, pe_bm0 PySem.F.plainAttrs_list PySem.F.slot_list_pop PySem.F.type_list_pop mt_pop (pe_var hN hv hd hcd) hbase hline, fun H0 B0 ln Γ B H σ env s o env' em Q q => ?_⟩
  obtain ⟨os, l0, em⟩ := bind_some em
  obtain ⟨o', g0, em⟩ := bind_some em
  cases em
  obtain ⟨a, us, hv1, g1, g2, g3⟩ := Stt.mutSlot (T := []) s (lsAt_ok l0)
  obtain ⟨y, y1, y2⟩ := dropLast_zip2 g2 g0
  refine ⟨_, hv1, .inl ⟨rfl, us, SqL.of g1⟩, a, us, y, rfl, rfl, g1, y1, q y B _ (Ex.refl _) ?_⟩
  exact g3 os.dropLast us.dropLast [(o, y)] (by simp [g2]) (by rw [y2, List.append_nil])
def oIxF : O → O → Option O
  | .fz d, .fz (.int i) => match d with
    | .tup ds => (atI ds i).map .fz
    | .lst ds => (atI ds i).map .fz
    | _ => none
  | _, _ => none
/-- a[b]: a is seen, then given a name that stays; b may change the frame's own -/
theorem qew_ix (ha : QE X a ma) (hb : QEw X b mb) (hs : PlainIx b := by exact fun _ _ => rfl) : QEw X (.Subscript a b pos) (m2 oIxF ma mb) := by
  obtain ⟨t, h1, h2⟩ := ha
  obtain ⟨u, h3, h4⟩ := hb
  refine ⟨_, pe_ix (ix_list.or ix_tup) h1 h3 hs, fun H0 B0 ln Γ B H σ env s o env' em Q q => ?_⟩
  obtain ⟨p, em1, em⟩ := bind_some em
  obtain ⟨p2, em2, em⟩ := bind_some em
  obtain ⟨z, em3, em⟩ := bind_some em
  cases em
  refine h2 H0 B0 ln Γ B H σ env s _ _ em1 _ fun v B1 H1 e1 e2 s1 => ?_
  refine h4 H0 B0 ln _ B1 H1 σ _ s1 _ _ em2 _ fun u B2 H2 e3 s2 => ?_
  have w2 := s2.vw
  have s3 := s2.pop
  have w1 := s3.vw
  obtain ⟨oa, env1⟩ := p
  obtain ⟨ob, env2⟩ := p2
  cases oa with
  | fz da =>
    cases ob with
    | fz d =>
      cases d with
      | int i =>
        have hu := vw_int w2
        subst hu
        cases da with
        | tup ds =>
          obtain ⟨d, hd, rfl⟩ := Option.map_eq_some_iff.mp (show (atI ds i).map O.fz = some _ from em3)
          obtain ⟨p, vs, rfl, q1, q2, q3⟩ := asT_ok s2.w.bh w1 rfl
          obtain ⟨j, j1, j2⟩ := atI_some hd
          obtain ⟨x, x1, x2⟩ := q3.get j2
          exact .inr ⟨p, vs, i, x, rfl, rfl, q1, atI_len q3.len.symm j1 x1, q x B2 H2 (e1.trans e3) (s3.pop.push x2)⟩
        | lst ds =>
          obtain ⟨d, hd, rfl⟩ := Option.map_eq_some_iff.mp (show (atI ds i).map O.fz = some _ from em3)
          rw [Vw, Rp] at w1
          obtain ⟨p, vs, rfl, q1, q3⟩ := w1
          obtain ⟨j, j1, j2⟩ := atI_some hd
          obtain ⟨x, x1, x2⟩ := q3.get j2
          exact .inl ⟨p, vs, i, x, rfl, rfl, s2.w.bh.l q1, atI_len q3.len.symm j1 x1, q x B2 H2 (e1.trans e3) (s3.pop.push x2)⟩
        | _ => cases em3
      | _ => cases em3
    | _ => cases em3
  | _ => cases em3
def SIw (K : PySem.W.Frag) (t : TI) (m : EM (List D)) : Prop :=
  ∀ (H0 B0 : Hp) (ln : Nat → Option V) (Γ : List (O × V)) (B H : Hp) (σ : L2.St) (env : En), Stt K H0 B0 ln Γ B H σ env → ∀ ds env', m env = some (ds, env') → ∀ R : It → Hp → Prop,
    (∀ J B' H', Ex B B' → Stt K H0 B0 ln Γ B' H' σ env' → WalkD K J (fun H2 => Ex B' H2) B' ds → R J H') → t σ H R
def QIw (X : Cx) (tg e : Expr) (m : EM (List D)) : Prop := ∃ t, PI X tg e t ∧ SIw X.K t m
theorem qiw_frz {tg : Expr} (h : QEw X e m) : QIw X tg e (mItF m) := by
  obtain ⟨t, h1, h2⟩ := h
  refine ⟨_, pi_any h1, fun H0 B0 ln Γ B H σ env s ds env' em R q => ?_⟩
  obtain ⟨p, em1, em⟩ := bind_some em
  obtain ⟨ds', em2, em⟩ := bind_some em
  cases em
  refine h2 H0 B0 ln Γ B H σ env s _ _ em1 _ fun v B1 H1 e1 s1 => ?_
  obtain ⟨B2, e3, s2⟩ := s1.frz
  exact itemsD_ok s2.w.bh s2.rp em2 fun J w => q J B2 H1 (e1.trans e3) s2.pop w
theorem qs_forW {tg iter : Expr} {body : List Stmt} {mi : EM (List D)} {ws : List Nat} {gs : D → En → Option En} {mb : SM} (hp : PassesOwn (model X.prog X.w) X.A X.env X.xe) (hc : X.calm = true) (hi : QIw X tg iter mi) (hg : QG X tg ws gs) (hb : QSs X body mb)
    (hs : ∀ x, foldedSetIterable iter X.env x = pure x := by intro _; rfl) : QS X (.For tg iter body [] pos) (sFor mi gs mb) := by
  obtain ⟨wi, i1, i2⟩ := hi
  obtain ⟨g, g1, g2⟩ := hg
  obtain ⟨t, t1, t2⟩ := hb
  refine ⟨_, ps_for hp hc i1 g1 t1 hs, fun H0 B0 ln Γ B H σ env s out em E q => ?_⟩
  obtain ⟨p, em1, em⟩ := bind_some em
  obtain ⟨ds, env1⟩ := p
  refine i2 H0 B0 ln Γ B H σ env s _ _ em1 _ fun J B1 H1 e1 s1 w => ?_
  refine ⟨fun i k σ' H' => k = ds.length - i ∧ i ≤ ds.length ∧ ∃ B' env', Ex B1 B' ∧ Stt X.K H0 B0 ln Γ B' H' σ' env' ∧ forL gs mb (ds.drop i) env' = some out,
    ⟨ds.length, by simp, Nat.zero_le _, B1, env1, Ex.refl _, s1, em⟩, ?_⟩
  rintro i k σ2 H2 ⟨rfl, hi, B2, env2, e3, s2, em2⟩
  have g0 : Ex B1 H2 := e3.trans s2.w.bh
  by_cases hlt : i < ds.length
  · refine .inr ⟨w.go i H2 hlt g0, fun σ' H' => ∃ B' env', Ex B1 B' ∧ Stt X.K H0 B0 ln Γ B' H' σ' env' ∧ forL gs mb (ds.drop (i + 1)) env' = some out, fun σ' H' h => ⟨ds.length - (i + 1), by omega, rfl, hlt, h⟩, fun x H3 y => ?_⟩
    obtain ⟨B3, w3, r3⟩ := w.yld i ds[i] H2 x H3 B2 (List.getElem?_eq_getElem hlt) g0 e3 s2.w.bh y
    have s3 := s2.step w3
    rw [List.drop_eq_getElem_cons hlt, forL] at em2
    obtain ⟨env3, em3, em2⟩ := bind_some em2
    obtain ⟨o, em4, em2⟩ := bind_some em2
    refine g2 H0 B0 ln Γ B3 H3 σ2 env2 s3 _ x _ r3 em3 _ fun σ4 s4 _ _ => ?_
    refine t2 H0 B0 ln Γ B3 H3 σ4 env3 s4 o em4 _ ?_
    cases o with
    | nx e' => exact fun B' H' σ' e4 s' => ⟨B', e', (e3.trans w3.b0).trans e4, s', em2⟩
    | ct e' => exact fun B' H' σ' e4 s' => ⟨B', e', (e3.trans w3.b0).trans e4, s', em2⟩
    | bk e' => cases em2; exact fun B' H' σ' e4 s' => q B' H' σ' (((e1.trans e3).trans w3.b0).trans e4) s'
    | rt d => cases em2; exact fun v B' H' e4 s' r => q v B' H' (((e1.trans e3).trans w3.b0).trans e4) s' r
  · have hi' : i = ds.length := by omega
    subst hi'
    rw [List.drop_length, forL] at em2
    cases em2
    exact .inl ⟨w.stop H2 g0, q B2 H2 σ2 (e1.trans e3) s2⟩
/-- x = e, where e may change the frame's own -/
theorem qs_setW {y : Str} {py : Pos} (hN : X.N.Nodup) (hi : X.N[i]? = some y) (he : QEw X e m) (hx : Loc X.env.scope y := by first | exact Or.inl rfl | exact Or.inr rfl) (hs : swapsWith e (some (.Name y py)) pos.line X.env = pure false := by rfl)
    (hf : X.fn y = true ∨ X.env.scope.names.lookup y = some .local := by first | exact .inl rfl | exact .inr rfl | assumption) : QS X (.Assign [.Name y py] e pos) (sAsg i m) := by
  obtain ⟨t, h1, h2⟩ := he
  refine ⟨_, ps_set hN hi hx h1 hs hf, fun H0 B0 ln Γ B H σ env s out em E q => ?_⟩
  obtain ⟨p, em1, em⟩ := bind_some em
  split at em
  · rename_i hi
    cases em
    exact h2 H0 B0 ln Γ B H σ env s _ _ em1 _ fun v B' H' e1 s' => q B' H' _ e1 (s'.store hi)
  · cases em
end
/-! ### for .. in zip(xs, ys) of two lists of the frame's own: they are lent meanwhile -/
section
variable {K : PySem.W.Frag} {H0 B0 B H : Hp} {ln : Nat → Option V} {Γ : List (O × V)} {σ : L2.St} {env : En} {o : O} {v : V} {i : Nat}
theorem set_same' {σ : L2.St} {v : Option V} (hv : σ[i]? = some v) : σ.set i v = σ := by
  obtain ⟨h1, h2⟩ := List.getElem?_eq_some_iff.mp hv
  rw [← h2]; simp
theorem Stt.lend (s : Stt K H0 B0 ln Γ B H σ env) (e : env[i]? = some (.has o)) : ∃ v, σ[i]? = some (some v) ∧ Stt K H0 B0 (fun j => if j = i then some v else ln j) ((o, v) :: Γ) B H σ (env.set i .lent) := by
  obtain ⟨v, hv⟩ := s.sg.has i o e
  obtain ⟨R, p, q⟩ := roots_at e hv
  have hi : i < env.length := (List.getElem?_eq_some_iff.mp e).1
  refine ⟨v, hv, s.w, ⟨by rw [List.length_set]; exact s.sg.len, fun j o' h => ?_, fun j h => ?_, fun j a h => ?_⟩, ?_⟩
  · by_cases hj : i = j
    · subst hj
      rw [List.getElem?_set_self hi] at h; cases h
    · rw [List.getElem?_set_ne hj] at h
      exact s.sg.has j o' h
  · by_cases hj : i = j
    · subst hj
      exact ⟨v, if_pos rfl, hv⟩
    · rw [List.getElem?_set_ne hj] at h
      obtain ⟨v', h1, h2⟩ := s.sg.lent j h
      exact ⟨v', (if_neg (fun z => hj z.symm)).trans h1, h2⟩
  · by_cases hj : i = j
    · subst hj
      rw [List.getElem?_set_self hi] at h; cases h
    · rw [List.getElem?_set_ne hj] at h
      exact s.sg.adr j a h
  · have q1 := q .lent (some v)
    rw [set_same' hv] at q1
    have ow : Own K H0 B H [] (((o, v) :: R) ++ Γ) := s.own.perm (p.append_right Γ)
    exact ow.perm (List.perm_middle.symm.trans ((q1.append_right ((o, v) :: Γ)).symm))
theorem Stt.unlend {ln' : Nat → Option V} (s : Stt K H0 B0 ln' ((o, v) :: Γ) B H σ env) (e : env[i]? = some .lent) (hv : ln' i = some v) (hl : ∀ j, j ≠ i → ln' j = ln j) : Stt K H0 B0 ln Γ B H σ (env.set i (.has o)) := by
  obtain ⟨v', h1, h2⟩ := s.sg.lent i e
  rw [hv] at h1
  cases h1
  obtain ⟨R, p, q⟩ := roots_at e h2
  have hi : i < env.length := (List.getElem?_eq_some_iff.mp e).1
  refine ⟨s.w, ⟨by rw [List.length_set]; exact s.sg.len, fun j o' h => ?_, fun j h => ?_, fun j a h => ?_⟩, ?_⟩
  · by_cases hj : i = j
    · subst hj
      exact ⟨v, h2⟩
    · rw [List.getElem?_set_ne hj] at h
      exact s.sg.has j o' h
  · by_cases hj : i = j
    · subst hj
      rw [List.getElem?_set_self hi] at h; cases h
    · rw [List.getElem?_set_ne hj] at h
      obtain ⟨v', g1, g2⟩ := s.sg.lent j h
      exact ⟨v', (hl j (fun z => hj z.symm)).symm.trans g1, g2⟩
  · by_cases hj : i = j
    · subst hj
      rw [List.getElem?_set_self hi] at h; cases h
    · rw [List.getElem?_set_ne hj] at h
      exact s.sg.adr j a h
  · have q1 := q (.has o) (some v)
    rw [set_same' h2] at q1
    have ow : Own K H0 B H [] (R ++ ((o, v) :: Γ)) := s.own.perm (p.append_right _)
    exact ow.perm (List.perm_middle.trans (q1.append_right Γ).symm)
end
def lentAt (i : Nat) (e : En) : Bool := match e[i]? with
  | some .lent => true
  | _ => false
theorem lentAt_ok {i : Nat} {e : En} (h : lentAt i e = true) : e[i]? = some .lent := by
  unfold lentAt at h
  split at h
  · assumption
  · cases h
def endZ (c r : Nat) (o1 o2 : List O) : Out → Option Out
  | .nx e => if lentAt c e = true ∧ lentAt r e = true then some (.nx ((e.set r (.has (.ls o2))).set c (.has (.ls o1)))) else none
  | .rt d => some (.rt d)
  | _ => none
def sForZ (c r : Nat) (gs : D → En → Option En) (mb : SM) : SM := fun env => (lsAt c env).bind fun o1 => (lsAt r env).bind fun o2 => if c = r then none else (o1.mapM O.d?).bind fun ds => (o2.mapM O.d?).bind fun es =>
  (forL gs mb (zipD ds es) ((env.set c .lent).set r .lent)).bind (endZ c r o1 o2)
theorem qs_forZ {X : Cx} {c r : Nat} {x y : Str} {elts : List Expr} {kk : Nat} {px py pz p tpos pos : Pos} {body : List Stmt} {ws : List Nat} {gs : D → En → Option En} {mb : SM} (hp : PassesOwn (model X.prog X.w) X.A X.env X.xe) (hc : X.calm = true) (hg : Gl X "zip") (hm : X.mg "zip" = none)
    (hN : X.N[c]? = some x) (hN2 : X.N[r]? = some y) (hgt : QG X (.Tuple elts kk tpos) ws gs) (hb : QSs X body mb)
    (hv : Vis X.env.scope x := by first | exact Or.inl rfl | exact Or.inr (Or.inl rfl) | exact Or.inr (Or.inr rfl)) (hd : (x == ("__debug__" : Str)) = false := by decide) (hcd : (x == ("__classdict__" : Str)) = false := by decide)
    (hv2 : Vis X.env.scope y := by first | exact Or.inl rfl | exact Or.inr (Or.inl rfl) | exact Or.inr (Or.inr rfl)) (hd2 : (y == ("__debug__" : Str)) = false := by decide) (hcd2 : (y == ("__classdict__" : Str)) = false := by decide)
    (hs : starEach [.Name x px, .Name y py] X.env = (false, eval (.Name x px) X.env) :: starEach [.Name y py] X.env := by rfl) (hs2 : starEach [.Name y py] X.env = (false, eval (.Name y py) X.env) :: starEach [] X.env := by rfl)
    (hpl : (backTo p (starEach [.Name y py] X.env)).any (·.1) = false := by rfl)
    (hfs : ∀ z, foldedSetIterable (.Call (.Name "zip" pz) [.Name x px, .Name y py] [] p) X.env z = pure z := by intro _; rfl) :
    QS X (.For (.Tuple elts kk tpos) (.Call (.Name "zip" pz) [.Name x px, .Name y py] [] p) body [] pos) (sForZ c r gs mb) := by
  obtain ⟨g, g1, g2⟩ := hgt
  obtain ⟨t, t1, t2⟩ := hb
  refine ⟨_, ps_for hp hc (pi_zipA hg hm (pa_cons (pe_var hN hv hd hcd) (pa_cons (pe_var hN2 hv2 hd2 hcd2) pa_nil hs2) hs) hs hpl) g1 t1 hfs, fun H0 B0 ln Γ B H σ env s out em E q => ?_⟩
  obtain ⟨o1, l1, em⟩ := bind_some em
  obtain ⟨o2, l2, em⟩ := bind_some em
  split at em
  · cases em
  rename_i hcr
  obtain ⟨ds, f1, em⟩ := bind_some em
  obtain ⟨es, f2, em⟩ := bind_some em
  obtain ⟨out0, em0, em⟩ := bind_some em
  obtain ⟨va, hva, s1⟩ := s.lend (lsAt_ok l1)
  have l2' : (env.set c Sl.lent)[r]? = some (.has (.ls o2)) := by rw [List.getElem?_set_ne hcr]; exact lsAt_ok l2
  obtain ⟨vb, hvb, s2⟩ := s1.lend l2'
  have wb0 := s2.vw
  rw [Vw] at wb0
  obtain ⟨b, us0, rfl, hb0, wb1⟩ := wb0
  have wa0 := (s2.perm (List.Perm.swap _ _ _)).vw
  rw [Vw] at wa0
  obtain ⟨a, vs0, rfl, ha0, wa1⟩ := wa0
  have fin : ∀ B' H' σ' e, Ex B B' → Stt X.K H0 B0 (fun j => if j = r then some (V.ref b) else if j = c then some (V.ref a) else ln j) ((.ls o2, .ref b) :: (.ls o1, .ref a) :: Γ) B' H' σ' e → endZ c r o1 o2 (.nx e) = some out → E.nx σ' H' := fun B' H' σ' e e1 s' h => by
    have h : (if lentAt c e = true ∧ lentAt r e = true then some (Out.nx ((e.set r (.has (.ls o2))).set c (.has (.ls o1)))) else none) = some out := h
    split at h
    · rename_i hl
      cases h
      have u1 := s'.unlend (ln := fun j => if j = c then some (V.ref a) else ln j) (lentAt_ok hl.2) (if_pos rfl) (fun j hj => if_neg hj)
      have u2 := u1.unlend (ln := ln) (i := c) (by rw [List.getElem?_set_ne (fun z => hcr z.symm)]; exact lentAt_ok hl.1) (if_pos rfl) (fun j hj => if_neg hj)
      exact q B' H' σ' e1 u2
    · cases h
  refine ⟨_, hva, _, hvb, a, b, vs0, us0, rfl, .inl ⟨SqL.of ha0, SqL.of hb0, ?_⟩⟩
  refine ⟨fun i k σ' H' => k = (zipD ds es).length - i ∧ i ≤ (zipD ds es).length ∧ ∃ B' env', Ex B B' ∧ Stt X.K H0 B0 (fun j => if j = r then some (V.ref b) else if j = c then some (V.ref a) else ln j) ((.ls o2, .ref b) :: (.ls o1, .ref a) :: Γ) B' H' σ' env' ∧ forL gs mb ((zipD ds es).drop i) env' = some out0,
    ⟨(zipD ds es).length, by simp, Nat.zero_le _, B, _, Ex.refl _, s2, em0⟩, ?_⟩
  rintro i k σ2 H2 ⟨rfl, hi, B2, env2, e3, s3, em2⟩
  have wb := s3.vw
  rw [Vw] at wb
  obtain ⟨b', us, eb, hb', wb'⟩ := wb
  cases eb
  have wa := (s3.perm (List.Perm.swap _ _ _)).vw
  rw [Vw] at wa
  obtain ⟨a', vs, ea, ha', wa'⟩ := wa
  cases ea
  have w := walkD_zip (K := X.K) (a := a) (b := b) (wa'.dat f1) (wb'.dat f2)
  have gg : SqL X.K H2 a vs ∧ SqL X.K H2 b us := ⟨SqL.of ha', SqL.of hb'⟩
  by_cases hlt : i < (zipD ds es).length
  · refine .inr ⟨w.go i H2 hlt gg, fun σ' H' => ∃ B' env', Ex B B' ∧ Stt X.K H0 B0 (fun j => if j = r then some (V.ref b) else if j = c then some (V.ref a) else ln j) ((.ls o2, .ref b) :: (.ls o1, .ref a) :: Γ) B' H' σ' env' ∧ forL gs mb ((zipD ds es).drop (i + 1)) env' = some out0, fun σ' H' h => ⟨(zipD ds es).length - (i + 1), by omega, rfl, hlt, h⟩, fun x H3 y => ?_⟩
    obtain ⟨B3, w3, r3⟩ := w.yld i (zipD ds es)[i] H2 x H3 B2 (List.getElem?_eq_getElem hlt) gg (Ex.refl _) s3.w.bh y
    have s4 := s3.step w3
    rw [List.drop_eq_getElem_cons hlt, forL] at em2
    obtain ⟨env3, em3, em2⟩ := bind_some em2
    obtain ⟨o, em4, em2⟩ := bind_some em2
    refine g2 H0 B0 _ _ B3 H3 σ2 env2 s4 _ x _ r3 em3 _ fun σ4 s5 _ _ => ?_
    refine t2 H0 B0 _ _ B3 H3 σ4 env3 s5 o em4 _ ?_
    cases o with
    | nx e' => exact fun B' H' σ' e4 s' => ⟨B', e', (e3.trans w3.b0).trans e4, s', em2⟩
    | ct e' => exact fun B' H' σ' e4 s' => ⟨B', e', (e3.trans w3.b0).trans e4, s', em2⟩
    | bk e' => cases em2; exact fun B' H' σ' e4 s' => fin B' H' σ' e' ((e3.trans w3.b0).trans e4) s' em
    | rt d => cases em2; cases em; exact fun v B' H' e4 s' r => q v B' H' ((e3.trans w3.b0).trans e4) s' r
  · have hi' : i = (zipD ds es).length := by omega
    subst hi'
    rw [List.drop_length, forL] at em2
    cases em2
    exact .inl ⟨w.stop H2 gg, fin B2 H2 σ2 env2 e3 s3 em⟩
/-! ### places in short lists -/
@[simp] theorem e_at3 {α : Type} {a b c d : α} {xs : List α} : atI (a :: b :: c :: d :: xs) 3 = some d := atI_nat' (j := 3) (by simp)
@[simp] theorem e_at4 {α : Type} {a b c d e : α} {xs : List α} : atI (a :: b :: c :: d :: e :: xs) 4 = some e := atI_nat' (j := 4) (by simp)
@[simp] theorem e_at5 {α : Type} {a b c d e f : α} {xs : List α} : atI (a :: b :: c :: d :: e :: f :: xs) 5 = some f := atI_nat' (j := 5) (by simp)
/-! ### a slot frozen ahead of an expression (no code) -/
def frzE (i : Nat) (env : En) : En := match env[i]? with
  | some (.has o) => env.set i (.has (.fz o.frz))
  | _ => env
def mGh (i : Nat) (m : EM O) : EM O := fun env => m (frzE i env)
@[simp] theorem e_mGh {i : Nat} {m : EM O} {env : En} : mGh i m env = m (match env[i]? with
  | some (.has o) => env.set i (.has (.fz o.frz))
  | _ => env) := rfl
theorem qe_gh {X : Cx} {e : Expr} {m : EM O} {i : Nat} (h : QE X e m) : QE X e (mGh i m) := by
  obtain ⟨t, h1, h2⟩ := h
  refine ⟨t, h1, fun H0 B0 ln Γ B H σ env s o env' em Q q => ?_⟩
  have em : m (match env[i]? with | some (.has o) => env.set i (.has (.fz o.frz)) | _ => env) = some (o, env') := em
  split at em
  · rename_i p hp
    obtain ⟨v, B', _, e1, _, s'⟩ := s.slotFrz hp
    exact h2 H0 B0 ln Γ B' H σ _ s' o env' em Q fun v B2 H2 e2 e3 s2 => q v B2 H2 (e1.trans e2) e3 s2
  · exact h2 H0 B0 ln Γ B H σ env s o env' em Q q
end Q

set_option Elab.async false
set_option linter.all false
set_option maxRecDepth 100000
set_option maxHeartbeats 1000000
namespace Q
open PySem L2
/-! ### more meanings for simp -/
@[simp] theorem e_truL {os : List O} : oTru (.ls os) = some (!os.isEmpty) := rfl
@[simp] theorem e_neB {x y : Bool} : oNe (.fz (.bl x)) (.fz (.bl y)) = some (.fz (.bl (!(x == y)))) := by
  simp -implicitDefEqProofs [oNe, oEqB, D.py, O.frz, SeqAt.shaped, PyData.canLay0, PyData.depth, PyData.eqv]
theorem mapM_flatI : ∀ xs : List Int, (xs.map D.int).mapM D.flat = some (xs.map V.int)
  | [] => rfl
  | x :: xs => by rw [List.map_cons, List.mapM_cons, mapM_flatI xs]; rfl
theorem inV_ints (x : Int) (xs : List Int) : inV (.int x) (xs.map V.int) = decide (x ∈ xs) := by
  induction xs with
  | nil => rfl
  | cons y ys ih =>
    have e : inV (.int x) ((y :: ys).map V.int) = ((decide (x = y)) || inV (.int x) (ys.map V.int)) := by
      show (_ || _) = _
      congr 1
      show (y == x) = _
      rw [Bool.eq_iff_iff, beq_iff_eq, decide_eq_true_eq]; exact eq_comm
    rw [e, ih]
    by_cases h : x = y <;> simp [h]
theorem e_inB (x : Int) (xs : List Int) : oInB (.fz (.int x)) (.ls (xs.map fun i => .fz (.int i))) = some (decide (x ∈ xs)) := by
  have e : (xs.map fun i => O.fz (.int i)) = (xs.map D.int).map O.fz := by rw [List.map_map]; rfl
  rw [e]
  unfold oInB
  rw [show O.asS (.ls ((xs.map D.int).map O.fz)) = some ((xs.map D.int).map O.fz) from rfl, show O.d? (.fz (.int x)) = some (.int x) from rfl, Option.bind_some, show D.flat (.int x) = some (V.int x) from rfl, Option.bind_some]
  rw [Option.bind_some, mapM_fz, Option.bind_some, mapM_flatI, Option.bind_some, inV_ints]
theorem e_inI (x : Int) (xs : List Int) : oIn (.fz (.int x)) (.ls (xs.map fun i => .fz (.int i))) = some (.fz (.bl (decide (x ∈ xs)))) := by
  unfold oIn; rw [e_inB]; rfl
theorem e_notinI (x : Int) (xs : List Int) : oNotIn (.fz (.int x)) (.ls (xs.map fun i => .fz (.int i))) = some (.fz (.bl (!decide (x ∈ xs)))) := by
  unfold oNotIn; rw [e_inB]; rfl
/-- naturals as the frame's own list -/
def natsO (xs : List Nat) : List O := xs.map fun (i : Nat) => .fz (.int (i : Int))
theorem natsO_eq (xs : List Nat) : natsO xs = (xs.map fun (i : Nat) => (i : Int)).map fun i => O.fz (.int i) := by unfold natsO; rw [List.map_map]; rfl
theorem mem_cast {x : Nat} {xs : List Nat} : (x : Int) ∈ xs.map (fun (i : Nat) => (i : Int)) ↔ x ∈ xs := by
  rw [List.mem_map]
  constructor
  · rintro ⟨y, hy, e⟩
    have : y = x := by omega
    rwa [this] at hy
  · exact fun h => ⟨x, h, rfl⟩
theorem e_inN (x : Nat) (xs : List Nat) : oIn (.fz (.int (x : Int))) (.ls (natsO xs)) = some (.fz (.bl (decide (x ∈ xs)))) := by
  rw [natsO_eq, e_inI]
  congr 3
  exact decide_eq_decide.mpr mem_cast
theorem e_notinN (x : Nat) (xs : List Nat) : oNotIn (.fz (.int (x : Int))) (.ls (natsO xs)) = some (.fz (.bl (!decide (x ∈ xs)))) := by
  rw [natsO_eq, e_notinI]
  congr 4
  exact decide_eq_decide.mpr mem_cast
theorem natsO_snoc (xs : List Nat) (x : Nat) : natsO xs ++ [.fz (.int (x : Int))] = natsO (xs ++ [x]) := by unfold natsO; simp
theorem natsO_len (xs : List Nat) : (natsO xs).length = xs.length := by unfold natsO; simp
/-! ### lists over a range -/
theorem range_set {α : Type} (g : Nat → α) (n t : Nat) (a : α) : ((List.range n).map g).set t a = (List.range n).map fun i => if i = t then a else g i := by
  apply List.ext_getElem
  · simp
  · intro i h1 h2
    rw [List.getElem_set]
    simp only [List.getElem_map, List.getElem_range]
    by_cases h : t = i
    · subst h; simp
    · rw [if_neg h, if_neg (fun e => h e.symm)]
theorem range_at {g : Nat → O} {n t : Nat} (h : t < n) : atI ((List.range n).map g) (t : Int) = some (g t) := by
  rw [atI_nat' (by simpa using h), List.getElem?_map, List.getElem?_range h]; rfl
/-! ### what is reached -/
inductive Reach (succ : Nat → List Nat) (s : Nat) : Nat → Prop
  | start : Reach succ s s
  | step {x y : Nat} : Reach succ s x → y ∈ succ x → Reach succ s y
theorem Reach.closed {succ : Nat → List Nat} {s : Nat} {P : Nat → Prop} (h0 : P s) (hs : ∀ x, P x → ∀ y ∈ succ x, P y) : ∀ x, Reach succ s x → P x := fun x h => by
  induction h with
  | start => exact h0
  | step _ hy ih => exact hs _ ih _ hy
def updB (f : Nat → Bool) (t : Nat) : Nat → Bool := fun i => if i = t then true else f i
def cntF (f : Nat → Bool) (n : Nat) : Nat := ((List.range n).filter fun i => !f i).length
theorem cntF_succ (f : Nat → Bool) (n : Nat) : cntF f (n + 1) = cntF f n + if f n = true then 0 else 1 := by
  unfold cntF
  rw [List.range_succ, List.filter_append, List.length_append]
  cases h : f n <;> simp [h]
theorem cntF_updO (f : Nat → Bool) (t : Nat) : ∀ n, n ≤ t → cntF (updB f t) n = cntF f n
  | 0, _ => rfl
  | n + 1, h => by
    rw [cntF_succ, cntF_succ, cntF_updO f t n (by omega)]
    have : updB f t n = f n := if_neg (by omega)
    rw [this]
theorem cntF_upd (f : Nat → Bool) (t : Nat) (hf : f t = false) : ∀ n, t < n → cntF (updB f t) n + 1 = cntF f n
  | 0, h => by omega
  | n + 1, h => by
    rw [cntF_succ, cntF_succ]
    by_cases e : t = n
    · subst e
      rw [cntF_updO f t t (Nat.le_refl _), show updB f t t = true from if_pos rfl, hf]
      rfl
    · have := cntF_upd f t hf n (by omega)
      have e2 : updB f t n = f n := if_neg (fun z => e z.symm)
      rw [e2]; omega
theorem cntF_le (f : Nat → Bool) (n : Nat) : cntF f n ≤ n := by
  unfold cntF
  have := List.length_filter_le (fun i => !f i) (List.range n)
  rwa [List.length_range] at this
def visit (st : (Nat → Bool) × List Nat) (t : Nat) : (Nat → Bool) × List Nat := if st.1 t = true then st else (updB st.1 t, st.2 ++ [t])
structure Vis (n : Nat) (f : Nat → Bool) (ws : List Nat) (ts : List Nat) (r : (Nat → Bool) × List Nat) : Prop where
  mem : ∀ i, r.1 i = true ↔ f i = true ∨ i ∈ ts
  ext : ∃ e, r.2 = ws ++ e ∧ ∀ i ∈ e, i ∈ ts
  new : ∀ i, r.1 i = true → f i = false → i ∈ r.2
  pot : r.2.length + cntF r.1 n = ws.length + cntF f n
theorem visit_fold (n : Nat) : ∀ (ts : List Nat) (f : Nat → Bool) (ws : List Nat), (∀ t ∈ ts, t < n) → Vis n f ws ts (ts.foldl visit (f, ws))
  | [], f, ws, _ => ⟨fun i => by simp, ⟨[], by simp, by simp⟩, fun i h1 h2 => by
      have h1 : f i = true := h1
      rw [h2] at h1
      exact absurd h1 Bool.false_ne_true, rfl⟩
  | t :: ts, f, ws, h => by
    rw [List.foldl_cons]
    cases hf : f t
    case true =>
      have e : visit (f, ws) t = (f, ws) := if_pos hf
      rw [e]
      obtain ⟨h1, ⟨ex, h2, h2'⟩, h3, h4⟩ := visit_fold n ts f ws fun x hx => h x (by simp [hx])
      refine ⟨fun i => ?_, ⟨ex, h2, fun i hi => by simp [h2' i hi]⟩, h3, h4⟩
      rw [h1 i, List.mem_cons]
      constructor
      · rintro (h | h)
        · exact .inl h
        · exact .inr (.inr h)
      · rintro (h | rfl | h)
        · exact .inl h
        · exact .inl hf
        · exact .inr h
    case false =>
      have e : visit (f, ws) t = (updB f t, ws ++ [t]) := if_neg (by show ¬ f t = true; rw [hf]; simp)
      rw [e]
      obtain ⟨h1, ⟨ex, h2, h2'⟩, h3, h4⟩ := visit_fold n ts (updB f t) (ws ++ [t]) fun x hx => h x (by simp [hx])
      have hu : ∀ i, updB f t i = true ↔ f i = true ∨ i = t := fun i => by
        unfold updB
        by_cases h : i = t <;> simp [h]
      refine ⟨fun i => ?_, ⟨t :: ex, by rw [h2]; simp, fun i hi => ?_⟩, fun i a b => ?_, ?_⟩
      · rw [h1 i, hu i, List.mem_cons, or_assoc]
      · rcases List.mem_cons.mp hi with rfl | hi
        · simp
        · simp [h2' i hi]
      · by_cases q : i = t
        · subst q
          rw [h2]; simp
        · refine h3 i a ?_
          unfold updB
          rw [if_neg q]; exact b
      · rw [h4, List.length_append, List.length_singleton]
        have := cntF_upd f t hf n (h t (by simp))
        omega
structure Dfs (succ : Nat → List Nat) (s n : Nat) (f : Nat → Bool) (ws : List Nat) : Prop where
  lt : ∀ w ∈ ws, w < n
  fw : ∀ w ∈ ws, f w = true
  re : ∀ x, f x = true → Reach succ s x
  st : f s = true
  cl : ∀ x, f x = true → x ∉ ws → ∀ y ∈ succ x, f y = true
theorem Dfs.step {succ : Nat → List Nat} {s n x : Nat} {f : Nat → Bool} {ws : List Nat} (hs : ∀ x, x < n → ∀ y ∈ succ x, y < n) (I : Dfs succ s n f (ws ++ [x])) :
    let r := (succ x).foldl visit (f, ws)
    Dfs succ s n r.1 r.2 ∧ r.2.length + cntF r.1 n = ws.length + cntF f n := by
  have hx : x < n := I.lt x (by simp)
  obtain ⟨h1, ⟨ex, h2, h2'⟩, h3, h4⟩ := visit_fold n (succ x) f ws (hs x hx)
  have rx : Reach succ s x := I.re x (I.fw x (by simp))
  refine ⟨⟨fun w hw => ?_, fun w hw => ?_, fun y hy => ?_, (h1 s).mpr (.inl I.st), fun y hy hn z hz => (h1 z).mpr ?_⟩, h4⟩
  · rw [h2] at hw
    rcases List.mem_append.mp hw with h | h
    · exact I.lt w (by simp [h])
    · exact hs x hx w (h2' w h)
  · rw [h2] at hw
    rcases List.mem_append.mp hw with h | h
    · exact (h1 w).mpr (.inl (I.fw w (by simp [h])))
    · exact (h1 w).mpr (.inr (h2' w h))
  · rcases (h1 y).mp hy with h | h
    · exact I.re y h
    · exact .step rx h
  · by_cases hyx : y = x
    · subst hyx
      exact .inr hz
    · have hyw : y ∉ ws := fun z => hn (by rw [h2]; simp [z])
      cases hf : f y with
      | true => exact .inl (I.cl y hf (by simp [hyw, hyx]) z hz)
      | false => exact absurd (h3 y hy hf) hn
theorem Dfs.done {succ : Nat → List Nat} {s n : Nat} {f : Nat → Bool} (I : Dfs succ s n f []) (x : Nat) : f x = true ↔ Reach succ s x :=
  ⟨I.re x, fun h => Reach.closed (P := fun x => f x = true) I.st (fun y hy z hz => I.cl y hy (by simp) z hz) x h⟩
/-- the other way: rounds over all that is found -/
structure Rnd (succ : Nat → List Nat) (s n : Nat) (f : Nat → Bool) (R : List Nat) : Prop where
  mem : ∀ i, f i = true ↔ i ∈ R
  lt : ∀ w ∈ R, w < n
  re : ∀ x ∈ R, Reach succ s x
  st : s ∈ R
  pot : R.length + cntF f n = n
theorem Rnd.row {succ : Nat → List Nat} {s n : Nat} (hs : ∀ x, x < n → ∀ y ∈ succ x, y < n) {x : Nat} {f : Nat → Bool} {R : List Nat} (I : Rnd succ s n f R) (hx : x ∈ R) :
    let r := (succ x).foldl visit (f, R)
    Rnd succ s n r.1 r.2 ∧ (∃ e, r.2 = R ++ e) ∧ ∀ y ∈ succ x, y ∈ r.2 := by
  obtain ⟨h1, ⟨ex, h2, h2'⟩, h3, h4⟩ := visit_fold n (succ x) f R (hs x (I.lt x hx))
  have hm : ∀ i, ((succ x).foldl visit (f, R)).1 i = true ↔ i ∈ ((succ x).foldl visit (f, R)).2 := fun i => by
    constructor
    · intro h
      cases hf : f i with
      | true => rw [h2]; simp [(I.mem i).mp hf]
      | false => exact h3 i h hf
    · intro h
      rw [h2] at h
      rcases List.mem_append.mp h with h | h
      · exact (h1 i).mpr (.inl ((I.mem i).mpr h))
      · exact (h1 i).mpr (.inr (h2' i h))
  refine ⟨⟨hm, fun w hw => ?_, fun w hw => ?_, by rw [h2]; simp [I.st], by rw [h4]; exact I.pot⟩, ⟨ex, h2⟩, fun y hy => (hm y).mp ((h1 y).mpr (.inr hy))⟩
  · rw [h2] at hw
    rcases List.mem_append.mp hw with h | h
    · exact I.lt w h
    · exact hs x (I.lt x hx) w (h2' w h)
  · rw [h2] at hw
    rcases List.mem_append.mp hw with h | h
    · exact I.re w h
    · exact .step (I.re x hx) (h2' w h)
theorem Rnd.rows {succ : Nat → List Nat} {s n : Nat} (hs : ∀ x, x < n → ∀ y ∈ succ x, y < n) : ∀ (xs : List Nat) (f : Nat → Bool) (R : List Nat), Rnd succ s n f R → (∀ x ∈ xs, x ∈ R) →
    let r := xs.foldl (fun st x => (succ x).foldl visit st) (f, R)
    Rnd succ s n r.1 r.2 ∧ (∃ e, r.2 = R ++ e) ∧ ∀ x ∈ xs, ∀ y ∈ succ x, y ∈ r.2
  | [], f, R, I, _ => ⟨I, ⟨[], by simp⟩, by simp⟩
  | x :: xs, f, R, I, h => by
    obtain ⟨I1, ⟨e1, q1⟩, c1⟩ := Rnd.row hs I (h x (by simp))
    obtain ⟨I2, ⟨e2, q2⟩, c2⟩ := Rnd.rows hs xs _ _ I1 fun y hy => by rw [q1]; simp [h y (by simp [hy])]
    refine ⟨I2, ⟨e1 ++ e2, ?_⟩, fun y hy z hz => ?_⟩
    · refine q2.trans ?_
      rw [q1, List.append_assoc]
    · rcases List.mem_cons.mp hy with rfl | hy
      · refine (show _ ∈ _ from ?_)
        have : z ∈ ((succ y).foldl visit (f, R)).2 ++ e2 := by simp [c1 z hz]
        rwa [← q2] at this
      · exact c2 y hy z hz
theorem Rnd.done {succ : Nat → List Nat} {s n : Nat} {f : Nat → Bool} {R : List Nat} (I : Rnd succ s n f R) (hc : ∀ x ∈ R, ∀ y ∈ succ x, y ∈ R) (x : Nat) : x ∈ R ↔ Reach succ s x :=
  ⟨I.re x, fun h => Reach.closed (P := fun x => x ∈ R) I.st hc x h⟩
/-! ### sums over a list -/
def sm {α : Type} (f : α → Rat) : List α → Rat
  | [] => 0
  | x :: xs => f x + sm f xs
section
variable {α : Type} {f g : α → Rat} {xs : List α}
theorem sumQ_sm (r : Rat) (f : α → Rat) (xs : List α) : sumQ r (xs.map f) = r + sm f xs := by
  induction xs generalizing r with
  | nil => rw [List.map_nil, sumQ_nil, sm, Rat.add_zero]
  | cons x xs ih => rw [List.map_cons, sumQ_cons, ih, sm, Rat.add_assoc]
theorem sumQ0_sm (f : α → Rat) (xs : List α) : sumQ 0 (xs.map f) = sm f xs := by rw [sumQ_sm, Rat.zero_add]
theorem sm_filter (c : α → Bool) (f : α → Rat) (xs : List α) : sm f (xs.filter c) = sm (fun x => if c x = true then f x else 0) xs := by
  induction xs with
  | nil => rfl
  | cons x xs ih =>
    rw [sm]
    cases h : c x with
    | true => rw [List.filter_cons_of_pos h, sm, ih, if_pos rfl]
    | false => rw [List.filter_cons_of_neg (by rw [h]; simp), ih, if_neg (by simp), Rat.zero_add]
theorem sm_congr (h : ∀ x ∈ xs, f x = g x) : sm f xs = sm g xs := by
  induction xs with
  | nil => rfl
  | cons x xs ih => rw [sm, sm, h x (by simp), ih fun y hy => h y (by simp [hy])]
theorem sm_add (f g : α → Rat) (xs : List α) : sm (fun x => f x + g x) xs = sm f xs + sm g xs := by
  induction xs with
  | nil => rw [sm, sm, sm, Rat.add_zero]
  | cons x xs ih => rw [sm, sm, sm, ih]; grind
theorem sm_sub (f g : α → Rat) (xs : List α) : sm (fun x => f x - g x) xs = sm f xs - sm g xs := by
  induction xs with
  | nil => rw [sm, sm, sm]; grind
  | cons x xs ih => rw [sm, sm, sm, ih]; grind
theorem sm_mul (c : Rat) (f : α → Rat) (xs : List α) : sm (fun x => c * f x) xs = c * sm f xs := by
  induction xs with
  | nil => rw [sm, sm, Rat.mul_zero]
  | cons x xs ih => rw [sm, sm, ih, Rat.mul_add]
theorem sm_zero (h : ∀ x ∈ xs, f x = 0) : sm f xs = 0 := by
  induction xs with
  | nil => rfl
  | cons x xs ih => rw [sm, h x (by simp), ih fun y hy => h y (by simp [hy]), Rat.add_zero]
theorem sm_nonneg (h : ∀ x ∈ xs, 0 ≤ f x) : 0 ≤ sm f xs := by
  induction xs with
  | nil => exact Rat.le_refl
  | cons x xs ih =>
    have h1 := h x (by simp)
    have h2 := ih fun y hy => h y (by simp [hy])
    rw [sm]; grind
theorem sm_pos (h : ∀ x ∈ xs, 0 ≤ f x) {y : α} (hy : y ∈ xs) (h0 : 0 < f y) : 0 < sm f xs := by
  induction xs with
  | nil => simp at hy
  | cons x xs ih =>
    rw [sm]
    have h2 := sm_nonneg (xs := xs) fun y hy => h y (by simp [hy])
    rcases List.mem_cons.mp hy with rfl | hm
    · grind
    · have h3 := ih (fun y hy => h y (by simp [hy])) hm
      have h1 := h x (by simp)
      grind
theorem sz_sm {k : Nat} (h : ∀ x ∈ xs, sz (f x) ≤ k) : sz (sm f xs) ≤ 1 + xs.length * (k + 1) := by
  have h1 := sz_sumQ 0 (xs.map f)
  rw [sumQ0_sm, sz_zero] at h1
  have h2 := szs_le (qs := xs.map f) (k := k) (fun q hq => by
    obtain ⟨x, hx, rfl⟩ := List.mem_map.mp hq
    exact h x hx)
  rw [List.length_map] at h2
  omega
end
/-! ### the last item -/
theorem atI_m1 {α : Type} {xs : List α} (h : xs ≠ []) : atI xs (-1) = some (xs.getLast h) := by
  have hl : xs.length ≠ 0 := fun e => h (List.length_eq_zero_iff.mp e)
  have e : ixN xs.length (-1) = some (xs.length - 1) := by
    unfold ixN
    simp
    omega
  unfold atI
  rw [e, Option.bind_some, ← List.getLast?_eq_getElem?, List.getLast?_eq_getLast h]
theorem atI_lm1 {α : Type} {xs : List α} (h : xs ≠ []) : atI xs ((xs.length : Int) - 1) = some (xs.getLast h) := by
  have hl : xs.length ≠ 0 := fun e => h (List.length_eq_zero_iff.mp e)
  have e : ((xs.length : Int) - 1) = ((xs.length - 1 : Nat) : Int) := by omega
  rw [e, atI_nat' (by omega), ← List.getLast?_eq_getElem?, List.getLast?_eq_getLast h]
end Q

set_option Elab.async false
set_option linter.all false
set_option maxRecDepth 100000
set_option maxHeartbeats 1000000
namespace Q
open PySem L2
/-! ### elimination, over lists of ratios -/
def gz (r : List Rat) (j : Nat) : Rat := (r[j]?).getD 0
theorem gz_out {r : List Rat} {j : Nat} (h : r.length ≤ j) : gz r j = 0 := by
  unfold gz; rw [List.getElem?_eq_none h]; rfl
theorem gz_in {r : List Rat} {j : Nat} (h : j < r.length) : gz r j = r[j] := by
  unfold gz; rw [List.getElem?_eq_getElem h]; rfl
def wo (row other : List Rat) (c : Nat) : List Rat := if gz row c = 0 then row else (row.zip other).map fun p => p.1 - gz row c * p.2
theorem wo_len {row other : List Rat} {c : Nat} (h : row.length = other.length) : (wo row other c).length = row.length := by
  unfold wo
  split
  · rfl
  · simp; omega
theorem gz_wo {row other : List Rat} {c : Nat} (h : row.length = other.length) (j : Nat) : gz (wo row other c) j = gz row j - gz row c * gz other j := by
  unfold wo
  split
  · rename_i h0; rw [h0]; grind
  · by_cases hj : j < row.length
    · have h2 : ((row.zip other).map fun p => p.1 - gz row c * p.2).length = row.length := by simp; omega
      rw [gz_in (by rw [h2]; exact hj), gz_in hj, gz_in (by omega : j < other.length)]
      simp
    · rw [gz_out (by simp; omega), gz_out (r := row) (j := j) (by omega), gz_out (r := other) (j := j) (by omega)]; grind
def sc (row : List Rat) (p : Rat) : List Rat := row.map fun x => x / p
theorem gz_sc (row : List Rat) (p : Rat) (j : Nat) : gz (sc row p) j = gz row j / p := by
  unfold sc
  by_cases hj : j < row.length
  · rw [gz_in (by simpa using hj), gz_in hj]; simp
  · rw [gz_out (by simp; omega), gz_out (by omega)]; grind
theorem sc_len (row : List Rat) (p : Rat) : (sc row p).length = row.length := by simp [sc]
def fnz (row : List Rat) (n : Nat) : Option Nat := (List.range n).find? fun c => decide (gz row c ≠ 0)
theorem fnz_none {row : List Rat} {n : Nat} (h : fnz row n = none) : ∀ c, c < n → gz row c = 0 := fun c hc => by
  unfold fnz at h
  have := List.find?_eq_none.mp h c (List.mem_range.mpr hc)
  simpa using this
theorem fnz_some {row : List Rat} {n c : Nat} (h : fnz row n = some c) : c < n ∧ gz row c ≠ 0 := by
  unfold fnz at h
  have h1 := List.mem_range.mp (List.mem_of_find?_eq_some h)
  have h2 := List.find?_some h
  exact ⟨h1, by simpa using h2⟩
def gRow (rows : List (List Rat)) (cols : List Nat) (row : List Rat) : List Rat := (cols.zip rows).foldl (fun r p => wo r p.2 p.1) row
inductive GR where
  | dep (y : List Rat)
  | sol (rows : List (List Rat)) (cols : List Nat)
def gRun (G : Nat → List Rat) (n : Nat) : Nat → Nat → List (List Rat) → List Nat → GR
  | 0, _, rows, cols => .sol rows cols
  | k + 1, t, rows, cols => match fnz (gRow rows cols (G t)) n with
    | none => .dep ((gRow rows cols (G t)).drop ((gRow rows cols (G t)).length - n))
    | some c => gRun G n k (t + 1) (rows.map (fun o => wo o (sc (gRow rows cols (G t)) (gz (gRow rows cols (G t)) c)) c) ++ [sc (gRow rows cols (G t)) (gz (gRow rows cols (G t)) c)]) (cols ++ [c])
/-! linear combinations -/
def Lin (r : List Rat) (a : Rat) (r1 : List Rat) (b : Rat) (r2 : List Rat) : Prop := ∀ j, gz r j = a * gz r1 j + b * gz r2 j
def dot (φ : Nat → Rat) (L : Nat) (r : List Rat) : Rat := sm (fun j => φ j * gz r j) (List.range L)
theorem dot_lin {φ : Nat → Rat} {L : Nat} {r r1 r2 : List Rat} {a b : Rat} (h : Lin r a r1 b r2) : dot φ L r = a * dot φ L r1 + b * dot φ L r2 := by
  unfold dot
  rw [← sm_mul, ← sm_mul, ← sm_add]
  exact sm_congr fun j _ => by rw [h j]; grind
theorem lin_wo {row other : List Rat} {c : Nat} (h : row.length = other.length) : Lin (wo row other c) 1 row (-(gz row c)) other := fun j => by
  rw [gz_wo h]; grind
theorem lin_sc (row : List Rat) (p : Rat) : Lin (sc row p) (1 / p) row 0 row := fun j => by
  rw [gz_sc]; grind
/-- r is made of the given rows ahead of t, by what it bears behind q -/
structure Comb (G : Nat → List Rat) (q n L t : Nat) (r : List Rat) : Prop where
  eq : ∀ j, j < L → gz r j = sm (fun k => gz r (q + k) * gz (G k) j) (List.range t)
  zero : ∀ k, t ≤ k → k < n → gz r (q + k) = 0
theorem Comb.lin {G : Nat → List Rat} {q n L t : Nat} {r r1 r2 : List Rat} {a b : Rat} (h1 : Comb G q n L t r1) (h2 : Comb G q n L t r2) (h : Lin r a r1 b r2) : Comb G q n L t r where
  eq := fun j hj => by
    rw [h j, h1.eq j hj, h2.eq j hj, ← sm_mul, ← sm_mul, ← sm_add]
    exact sm_congr fun k _ => by rw [h (q + k)]; grind
  zero := fun k hk hn => by rw [h (q + k), h1.zero k hk hn, h2.zero k hk hn]; grind
theorem sm_range_succ (f : Nat → Rat) (t : Nat) : sm f (List.range (t + 1)) = sm f (List.range t) + f t := by
  have key : ∀ (xs : List Nat) (y : Nat), sm f (xs ++ [y]) = sm f xs + f y := by
    intro xs y
    induction xs with
    | nil => show f y + 0 = 0 + f y; grind
    | cons x xs ih => show f x + sm f (xs ++ [y]) = f x + sm f xs + f y; rw [ih]; grind
  rw [List.range_succ, key]
theorem Comb.up {G : Nat → List Rat} {q n L t : Nat} {r : List Rat} (h : Comb G q n L t r) (ht : t < n) : Comb G q n L (t + 1) r where
  eq := fun j hj => by
    rw [sm_range_succ, h.zero t (Nat.le_refl _) ht, h.eq j hj]; grind
  zero := fun k hk hn => h.zero k (by omega) hn
/-- the given rows: what is given and the unit behind q -/
structure Given (G : Nat → List Rat) (q n L : Nat) : Prop where
  hL : L = q + n
  hq : n ≤ q
  len : ∀ k, k < n → (G k).length = L
  unit : ∀ k l, k < n → l < n → gz (G k) (q + l) = if l = k then 1 else 0
theorem sm_one {f : Nat → Rat} {t : Nat} : ∀ {n : Nat}, t < n → (∀ k, k ≠ t → f k = 0) → sm f (List.range n) = f t
  | 0, h, _ => by omega
  | n + 1, h, hz => by
    rw [sm_range_succ]
    by_cases e : t = n
    · subst e
      rw [sm_zero fun k hk => hz k (by have := List.mem_range.mp hk; omega)]; grind
    · rw [sm_one (by omega) hz, hz n (fun z => e z.symm)]; grind
theorem Given.comb {G : Nat → List Rat} {q n L t : Nat} (g : Given G q n L) (ht : t < n) : Comb G q n L (t + 1) (G t) where
  eq := fun j hj => by
    rw [sm_one (t := t) (by omega) (fun k hk => ?_), g.unit t t ht ht, if_pos rfl]
    · grind
    · by_cases hkn : k < n
      · rw [g.unit t k ht hkn, if_neg hk]; grind
      · rw [gz_out (by rw [g.len t ht, g.hL]; omega)]; grind
  zero := fun k hk hn => by rw [g.unit t k ht hn, if_neg (by omega)]
structure GI (G : Nat → List Rat) (q n L t : Nat) (rows : List (List Rat)) (cols : List Nat) : Prop where
  lr : rows.length = t
  lc : cols.length = t
  len : ∀ r ∈ rows, r.length = L
  clt : ∀ c ∈ cols, c < n
  one : ∀ (i j : Nat) (r : List Rat) (c : Nat), rows[i]? = some r → cols[j]? = some c → gz r c = if i = j then 1 else 0
  comb : ∀ r ∈ rows, Comb G q n L t r
  span : ∀ φ : Nat → Rat, (∀ r ∈ rows, dot φ L r = 0) → ∀ k, k < t → dot φ L (G k) = 0
theorem GI.start {G : Nat → List Rat} {q n L : Nat} : GI G q n L 0 [] [] :=
  ⟨rfl, rfl, by simp, by simp, by simp, by simp, fun _ _ k hk => by omega⟩
structure RowI (G : Nat → List Rat) (q n L t : Nat) (rows : List (List Rat)) (cols : List Nat) (i : Nat) (r : List Rat) : Prop where
  len : r.length = L
  zer : ∀ (j : Nat) (c : Nat), j < i → cols[j]? = some c → gz r c = 0
  comb : Comb G q n L (t + 1) r
  unit : gz r (q + t) = 1
  dots : ∀ φ : Nat → Rat, (∀ r ∈ rows, dot φ L r = 0) → dot φ L r = dot φ L (G t)
theorem GI.row {G : Nat → List Rat} {q n L t : Nat} {rows : List (List Rat)} {cols : List Nat} (g : Given G q n L) (I : GI G q n L t rows cols) (ht : t < n) : RowI G q n L t rows cols t (gRow rows cols (G t)) := by
  have key : ∀ (xs : List (Nat × List Rat)) (i : Nat) (r : List Rat), (∀ (k : Nat) (p : Nat × List Rat), xs[k]? = some p → cols[i + k]? = some p.1 ∧ rows[i + k]? = some p.2) → RowI G q n L t rows cols i r → RowI G q n L t rows cols (i + xs.length) (xs.foldl (fun r p => wo r p.2 p.1) r) := by
    intro xs
    induction xs with
    | nil => intro i r _ h; exact h
    | cons p xs ih =>
      intro i r hx h
      obtain ⟨hc, hr⟩ := hx 0 p rfl
      rw [Nat.add_zero] at hc hr
      have hm : p.2 ∈ rows := List.mem_of_getElem? hr
      have hl : r.length = p.2.length := by rw [h.len, I.len _ hm]
      have hL := lin_wo (row := r) (other := p.2) (c := p.1) hl
      have step : RowI G q n L t rows cols (i + 1) (wo r p.2 p.1) := by
        refine ⟨by rw [wo_len hl, h.len], fun j c hj hcj => ?_, h.comb.lin ((I.comb _ hm).up ht) hL, ?_, fun φ hφ => ?_⟩
        · rw [gz_wo hl]
          by_cases hji : j = i
          · subst hji
            rw [hc] at hcj; cases hcj
            rw [I.one j j p.2 p.1 hr hc, if_pos rfl]; grind
          · rw [h.zer j c (by omega) hcj, I.one i j p.2 c hr hcj, if_neg (fun z => hji z.symm)]; grind
        · rw [gz_wo hl, h.unit, (I.comb _ hm).zero t (Nat.le_refl _) ht]; grind
        · rw [dot_lin hL, hφ _ hm, h.dots φ hφ]; grind
      have := ih (i + 1) (wo r p.2 p.1) (fun k p' hk => by
        have := hx (k + 1) p' (by simpa using hk)
        rwa [show i + (k + 1) = i + 1 + k by omega] at this) step
      rw [List.length_cons, show i + (xs.length + 1) = i + 1 + xs.length by omega]
      exact this
  have h0 : RowI G q n L t rows cols 0 (G t) := ⟨g.len t ht, fun j c hj => by omega, g.comb ht, by rw [g.unit t t ht ht, if_pos rfl], fun φ _ => rfl⟩
  have := key (cols.zip rows) 0 (G t) (fun k p hk => by
    rw [List.getElem?_zip_eq_some] at hk
    rw [Nat.zero_add]; exact hk) h0
  have hz : (cols.zip rows).length = t := by simp [I.lr, I.lc]
  rw [hz, Nat.zero_add] at this
  exact this
theorem GI.next {G : Nat → List Rat} {q n L t c : Nat} {rows : List (List Rat)} {cols : List Nat} (g : Given G q n L) (I : GI G q n L t rows cols) (ht : t < n) (hc : c < n) (h0 : gz (gRow rows cols (G t)) c ≠ 0) :
    GI G q n L (t + 1) (rows.map (fun o => wo o (sc (gRow rows cols (G t)) (gz (gRow rows cols (G t)) c)) c) ++ [sc (gRow rows cols (G t)) (gz (gRow rows cols (G t)) c)]) (cols ++ [c]) := by
  have R := GI.row g I ht
  generalize gRow rows cols (G t) = row at *
  generalize hp : gz row c = p at *
  have hs := lin_sc row p
  have slen : (sc row p).length = L := by rw [sc_len, R.len]
  have sone : gz (sc row p) c = 1 := by rw [gz_sc, hp]; grind
  have szer : ∀ (j c' : Nat), cols[j]? = some c' → gz (sc row p) c' = 0 := fun j c' hj => by
    have hj' : j < t := by
      have := (List.getElem?_eq_some_iff.mp hj).1
      rw [I.lc] at this; exact this
    rw [gz_sc, R.zer j c' hj' hj]; grind
  have scomb : Comb G q n L (t + 1) (sc row p) := R.comb.lin R.comb hs
  have wl : ∀ r ∈ rows, r.length = (sc row p).length := fun r hr => by rw [slen, I.len r hr]
  refine ⟨by simp [I.lr], by simp [I.lc], fun r hr => ?_, fun c' hc' => ?_, fun i j r c' hi hj => ?_, fun r hr => ?_, fun φ hφ k hk => ?_⟩
  · rcases List.mem_append.mp hr with h | h
    · obtain ⟨o, ho, rfl⟩ := List.mem_map.mp h
      rw [wo_len (wl o ho), I.len o ho]
    · rw [List.mem_singleton.mp h, slen]
  · rcases List.mem_append.mp hc' with h | h
    · exact I.clt c' h
    · rw [List.mem_singleton.mp h]; exact hc
  · have hlm : (rows.map fun o => wo o (sc row p) c).length = t := by simp [I.lr]
    by_cases hit : i < t
    · rw [List.getElem?_append_left (by rw [hlm]; exact hit), List.getElem?_map] at hi
      obtain ⟨o, ho, rfl⟩ := Option.map_eq_some_iff.mp hi
      have hom : o ∈ rows := List.mem_of_getElem? ho
      rw [gz_wo (wl o hom)]
      by_cases hjt : j < t
      · rw [List.getElem?_append_left (by rw [I.lc]; exact hjt)] at hj
        rw [szer j c' hj, I.one i j o c' ho hj]; grind
      · have hje : j = t := by
          have := (List.getElem?_eq_some_iff.mp hj).1
          rw [List.length_append, List.length_singleton, I.lc] at this; omega
        subst hje
        rw [List.getElem?_append_right (by rw [I.lc]; exact Nat.le_refl _), I.lc, Nat.sub_self] at hj
        cases hj
        rw [sone, if_neg (by omega)]; grind
    · have hie : i = t := by
        have := (List.getElem?_eq_some_iff.mp hi).1
        rw [List.length_append, List.length_singleton, hlm] at this; omega
      subst hie
      rw [List.getElem?_append_right (by rw [hlm]; exact Nat.le_refl _), hlm, Nat.sub_self] at hi
      cases hi
      by_cases hjt : j < i
      · rw [List.getElem?_append_left (by rw [I.lc]; exact hjt)] at hj
        rw [szer j c' hj, if_neg (by omega)]
      · have hje : j = i := by
          have := (List.getElem?_eq_some_iff.mp hj).1
          rw [List.length_append, List.length_singleton, I.lc] at this; omega
        subst hje
        rw [List.getElem?_append_right (by rw [I.lc]; exact Nat.le_refl _), I.lc, Nat.sub_self] at hj
        cases hj
        rw [sone, if_pos rfl]
  · rcases List.mem_append.mp hr with h | h
    · obtain ⟨o, ho, rfl⟩ := List.mem_map.mp h
      exact ((I.comb o ho).up ht).lin scomb (lin_wo (wl o ho))
    · rw [List.mem_singleton.mp h]; exact scomb
  · have hsd : dot φ L (sc row p) = 0 := hφ _ (by simp)
    have hold : ∀ r ∈ rows, dot φ L r = 0 := fun r hr => by
      have h1 := hφ (wo r (sc row p) c) (by simp only [List.mem_append, List.mem_map]; exact .inl ⟨r, hr, rfl⟩)
      rw [dot_lin (lin_wo (wl r hr)), hsd] at h1
      grind
    by_cases hkt : k < t
    · exact I.span φ hold k hkt
    · have : k = t := by omega
      subst this
      rw [← R.dots φ hold]
      rw [dot_lin hs] at hsd
      have hp' : p * (1 / p) = 1 := by grind
      have h2 : p * (1 / p * dot φ L row + 0 * dot φ L row) = 0 := by rw [hsd, Rat.mul_zero]
      have h3 : p * (1 / p * dot φ L row + 0 * dot φ L row) = (p * (1 / p)) * dot φ L row := by grind
      rw [h3, hp', Rat.one_mul] at h2
      exact h2
/-- n different numbers below n are all of them -/
theorem visit_nodup (n : Nat) : ∀ (xs : List Nat) (f : Nat → Bool) (ws : List Nat), xs.Nodup → (∀ x ∈ xs, f x = false) → (xs.foldl visit (f, ws)).2 = ws ++ xs
  | [], f, ws, _, _ => by simp
  | x :: xs, f, ws, h, hf => by
    rw [List.foldl_cons, show visit (f, ws) x = (updB f x, ws ++ [x]) from if_neg (by show ¬ f x = true; rw [hf x (by simp)]; simp)]
    obtain ⟨h1, h2⟩ := List.nodup_cons.mp h
    rw [visit_nodup n xs (updB f x) (ws ++ [x]) h2 fun y hy => ?_]
    · simp
    · unfold updB
      rw [if_neg (fun (e : y = x) => h1 (e ▸ hy)), hf y (by simp [hy])]
theorem nodup_len {n : Nat} {xs : List Nat} (h : xs.Nodup) (hl : ∀ x ∈ xs, x < n) : xs.length ≤ n := by
  have v := (visit_fold n xs (fun _ => false) [] hl).pot
  rw [visit_nodup n xs _ _ h fun _ _ => rfl] at v
  have := cntF_le (fun _ => false) n
  simp at v
  omega
theorem nodup_all {n : Nat} {xs : List Nat} (h : xs.Nodup) (hl : ∀ x ∈ xs, x < n) (hn : xs.length = n) : ∀ j, j < n → j ∈ xs := fun j hj => by
  refine Classical.byContradiction fun hno => ?_
  have h2 := nodup_len (n := n) (xs := j :: xs) (List.nodup_cons.mpr ⟨hno, h⟩) (fun x hx => by
    rcases List.mem_cons.mp hx with rfl | hx
    · exact hj
    · exact hl x hx)
  rw [List.length_cons] at h2
  omega
theorem GI.nodup {G : Nat → List Rat} {q n L t : Nat} {rows : List (List Rat)} {cols : List Nat} (I : GI G q n L t rows cols) : cols.Nodup := by
  rw [List.nodup_iff_pairwise_ne, List.pairwise_iff_getElem]
  intro i j hi hj hij e
  have hr : i < rows.length := by rw [I.lr, ← I.lc]; exact hi
  have h1 := I.one i i rows[i] cols[i] (List.getElem?_eq_getElem hr) (List.getElem?_eq_getElem hi)
  have h2 := I.one i j rows[i] cols[i] (List.getElem?_eq_getElem hr) (by rw [List.getElem?_eq_getElem hj, e])
  rw [if_pos rfl] at h1
  rw [if_neg (by omega), h1] at h2
  exact absurd h2 (by decide)
/-- what elimination tells: a dependency, or rows that give a solution -/
theorem gRun_spec {G : Nat → List Rat} {q n L : Nat} (g : Given G q n L) : ∀ (k t : Nat) (rows : List (List Rat)) (cols : List Nat), k + t = n → GI G q n L t rows cols →
    (∃ y, gRun G n k t rows cols = .dep y ∧ y.length = n ∧ (∃ k, k < n ∧ gz y k ≠ 0) ∧ ∀ j, j < n → sm (fun k => gz y k * gz (G k) j) (List.range n) = 0) ∨
    (∃ rows' cols', gRun G n k t rows cols = .sol rows' cols' ∧ GI G q n L n rows' cols')
  | 0, t, rows, cols, h, I => .inr ⟨rows, cols, rfl, by rw [Nat.zero_add] at h; subst h; exact I⟩
  | k + 1, t, rows, cols, h, I => by
    have ht : t < n := by omega
    have R := GI.row g I ht
    rw [gRun]
    cases hf : fnz (gRow rows cols (G t)) n with
    | some c =>
      obtain ⟨hc, h0⟩ := fnz_some hf
      exact gRun_spec g k (t + 1) _ _ (by omega) (GI.next g I ht hc h0)
    | none =>
      have hz := fnz_none hf
      generalize gRow rows cols (G t) = row at *
      have hq : row.length - n = q := by rw [R.len, g.hL]; omega
      have gy : ∀ k, gz (row.drop (row.length - n)) k = gz row (q + k) := fun k => by
        unfold gz; rw [List.getElem?_drop, hq]
      refine .inl ⟨_, rfl, by rw [List.length_drop, R.len, g.hL]; omega, ⟨t, ht, by rw [gy, R.unit]; decide⟩, fun j hj => ?_⟩
      have h1 := R.comb.eq j (by rw [g.hL]; have := g.hq; omega)
      rw [hz j hj] at h1
      have key : ∀ m, t + 1 + m ≤ n → sm (fun k => gz (row.drop (row.length - n)) k * gz (G k) j) (List.range (t + 1 + m)) = 0 := by
        intro m
        induction m with
        | zero =>
          intro _
          rw [Nat.add_zero, h1]
          exact sm_congr fun k _ => by rw [gy]
        | succ m ih =>
          intro hm
          rw [← Nat.add_assoc, sm_range_succ, ih (by omega), gy, R.comb.zero (t + 1 + m) (by omega) (by omega)]; grind
      have := key (n - (t + 1)) (by omega)
      rwa [show t + 1 + (n - (t + 1)) = n by omega] at this
/-- the row that stands for a column -/
def pick (rows : List (List Rat)) (cols : List Nat) (c : Nat) : List Rat := (rows[cols.idxOf c]?).getD []
theorem GI.pick {G : Nat → List Rat} {q n L : Nat} {rows : List (List Rat)} {cols : List Nat} (I : GI G q n L n rows cols) {c : Nat} (hc : c < n) : ∃ i : Nat, cols[i]? = some c ∧ rows[i]? = some (Q.pick rows cols c) ∧ Q.pick rows cols c ∈ rows := by
  have hm := nodup_all I.nodup I.clt I.lc c hc
  have hi := List.idxOf_lt_length_of_mem hm
  have hr : cols.idxOf c < rows.length := by rw [I.lr, ← I.lc]; exact hi
  have e : Q.pick rows cols c = rows[cols.idxOf c] := by
    unfold Q.pick
    rw [List.getElem?_eq_getElem hr]; rfl
  refine ⟨cols.idxOf c, ?_, ?_, ?_⟩
  · rw [List.getElem?_eq_getElem hi, List.getElem_idxOf hi]
  · rw [e, List.getElem?_eq_getElem hr]
  · rw [e]; exact List.getElem_mem hr
theorem GI.solved {G : Nat → List Rat} {q n L : Nat} {rows : List (List Rat)} {cols : List Nat} (g : Given G q n L) (I : GI G q n L n rows cols) {k j : Nat} (hk : k < n) (hj : n ≤ j) (hjL : j < L) :
    sm (fun c => gz (G k) c * gz (Q.pick rows cols c) j) (List.range n) = gz (G k) j := by
  have hnL : n ≤ L := by rw [g.hL]; have := g.hq; omega
  let φ : Nat → Rat := fun x => if x = j then 1 else if x < n then -(gz (Q.pick rows cols x) j) else 0
  have hdot : ∀ r : List Rat, dot φ L r = gz r j - sm (fun c => gz r c * gz (Q.pick rows cols c) j) (List.range n) := fun r => by
    have key : ∀ m, n ≤ m → sm (fun x => φ x * gz r x) (List.range m) = (if j < m then gz r j else 0) - sm (fun c => gz r c * gz (Q.pick rows cols c) j) (List.range n) := by
      intro m hm
      induction m with
      | zero =>
        have : n = 0 := by omega
        subst this
        show (0 : Rat) = (if j < 0 then _ else 0) - 0
        rw [if_neg (by omega)]; grind
      | succ m ih =>
        by_cases hmn : m + 1 = n
        · rw [if_neg (by omega), hmn]
          have : ∀ x ∈ List.range n, φ x * gz r x = (-1) * (gz r x * gz (Q.pick rows cols x) j) := fun x hx => by
            have hx := List.mem_range.mp hx
            show (if x = j then (1 : Rat) else if x < n then -(gz (Q.pick rows cols x) j) else 0) * gz r x = _
            rw [if_neg (by omega), if_pos hx]; grind
          rw [sm_congr this, sm_mul]; grind
        · rw [sm_range_succ, ih (by omega)]
          have hφ : φ m = if m = j then 1 else 0 := by
            show (if m = j then (1 : Rat) else if m < n then _ else 0) = _
            by_cases e : m = j
            · rw [if_pos e, if_pos e]
            · rw [if_neg e, if_neg e, if_neg (by omega)]
          rw [hφ]
          by_cases e : m = j
          · subst e
            rw [if_pos rfl, if_neg (by omega), if_pos (by omega)]; grind
          · rw [if_neg e]
            by_cases h2 : j < m
            · rw [if_pos h2, if_pos (by omega)]; grind
            · rw [if_neg h2, if_neg (by omega)]; grind
    have := key L hnL
    rw [if_pos hjL] at this
    exact this
  have hkill : ∀ r ∈ rows, dot φ L r = 0 := fun r hr => by
    obtain ⟨i, hi⟩ := List.mem_iff_getElem?.mp hr
    have hil : i < cols.length := by
      have := (List.getElem?_eq_some_iff.mp hi).1
      rw [I.lr, ← I.lc] at this; exact this
    have hci := List.getElem?_eq_getElem hil
    have hcn := I.clt _ (List.getElem_mem hil)
    obtain ⟨i', h1, h2, _⟩ := I.pick hcn
    have hii : i' = i := by
      have hi'l := (List.getElem?_eq_some_iff.mp h1).1
      have o1 := I.one i' i (Q.pick rows cols cols[i]) cols[i] h2 hci
      have o2 := I.one i' i' (Q.pick rows cols cols[i]) cols[i] h2 h1
      rw [if_pos rfl] at o2
      rw [o2] at o1
      by_cases e : i' = i
      · exact e
      · rw [if_neg e] at o1; exact absurd o1 (by decide)
    subst hii
    rw [h2] at hi
    have hrp : Q.pick rows cols cols[i'] = r := Option.some.inj hi
    rw [hdot, sm_one (t := cols[i']) hcn (fun c hc => ?_), hrp]
    · have := I.one i' i' r cols[i'] (by rw [h2, hrp]) hci
      rw [if_pos rfl] at this
      rw [this]; grind
    · by_cases hcn' : c < n
      · obtain ⟨i2, h3, h4, _⟩ := I.pick hcn'
        have := I.one i' i2 r c (by rw [h2, hrp]) h3
        rw [if_neg (fun e => by subst e; rw [hci] at h3; exact hc (Option.some.inj h3).symm)] at this
        rw [this]; grind
      · have : Q.pick rows cols c = [] := by
          unfold Q.pick
          have : c ∉ cols := fun h => hcn' (I.clt c h)
          rw [List.idxOf_eq_length this, List.getElem?_eq_none (by rw [I.lr, I.lc]; exact Nat.le_refl _)]; rfl
        rw [this]
        show _ * gz [] j = 0
        rw [gz_out (r := []) (j := j) (Nat.zero_le _)]; grind
  have := I.span φ hkill k hk
  rw [hdot] at this
  grind
/-! ### how great the entries may get: two bounds, for the first n columns and for the others -/
/-- a row over one denominator: its first n items and the others -/
def Bd (n : Nat) (x : Nat × Nat) (r : List Rat) : Prop := ∃ d : Int, 0 < d ∧ d.natAbs < 2 ^ x.1 ∧ (∀ j, j < n → ∃ z : Int, gz r j * (d : Rat) = (z : Rat) ∧ z.natAbs < 2 ^ x.1) ∧ ∀ j, n ≤ j → ∃ z : Int, gz r j * (d : Rat) = (z : Rat) ∧ z.natAbs < 2 ^ x.2
def bW (p x : Nat × Nat) : Nat × Nat := (x.1 + p.1 + 1, max (x.2 + p.1) (x.1 + p.2) + 1)
def bRow (p x : Nat × Nat) : Nat → Nat × Nat
  | 0 => x
  | k + 1 => bW p (bRow p x k)
def bD (x : Nat × Nat) : Nat × Nat := x
def bSt (x : Nat × Nat) : Nat → Nat × Nat
  | 0 => (1, 1)
  | t + 1 => bW (bD (bRow (bSt x t) x t)) (bSt x t)
def bOk (x : Nat × Nat) : Bool := decide (x.1 ≤ 30000000) && decide (x.2 ≤ 30000000)
def gOk (x : Nat × Nat) (n : Nat) : Bool := (List.range n).all fun t => bOk (bSt x t) && bOk (bD (bRow (bSt x t) x t)) && (List.range (t + 1)).all fun k => bOk (bRow (bSt x t) x k)
theorem pow2_le {a b : Nat} (h : a ≤ b) : 2 ^ a ≤ 2 ^ b := Nat.pow_le_pow_right (by decide) h
theorem Bd.mono {n : Nat} {x y : Nat × Nat} {r : List Rat} (h : Bd n x r) (h1 : x.1 ≤ y.1) (h2 : x.2 ≤ y.2) : Bd n y r := by
  obtain ⟨d, d0, d1, a, b⟩ := h
  refine ⟨d, d0, Nat.lt_of_lt_of_le d1 (pow2_le h1), fun j hj => ?_, fun j hj => ?_⟩
  · obtain ⟨z, e, l⟩ := a j hj
    exact ⟨z, e, Nat.lt_of_lt_of_le l (pow2_le h1)⟩
  · obtain ⟨z, e, l⟩ := b j hj
    exact ⟨z, e, Nat.lt_of_lt_of_le l (pow2_le h2)⟩
theorem bd_abs {a b : Int} {i j k : Nat} (ha : a.natAbs < 2 ^ i) (hb : b.natAbs < 2 ^ j) (h : i + j ≤ k) : (a * b).natAbs < 2 ^ k :=
  Nat.lt_of_lt_of_le (natAbs_mul_lt ha hb) (pow2_le h)
theorem bd_num {a d f g e : Rat} : (a - f * g) * (d * e) = (a * d) * e - (f * d) * (g * e) := by grind
theorem Bd.wo {n c : Nat} {x p : Nat × Nat} {r o : List Rat} (h : Bd n x r) (k : Bd n p o) (hl : r.length = o.length) (hc : c < n) : Bd n (bW p x) (wo r o c) := by
  obtain ⟨d, d0, d1, a1, a2⟩ := h
  obtain ⟨e, e0, e1, b1, b2⟩ := k
  obtain ⟨f, f1, f2⟩ := a1 c hc
  have key : ∀ j (z w : Int), gz r j * (d : Rat) = (z : Rat) → gz o j * (e : Rat) = (w : Rat) → gz (Q.wo r o c) j * ((d * e : Int) : Rat) = ((z * e - f * w : Int) : Rat) := fun j z w h1 h2 => by
    rw [gz_wo hl, Rat.intCast_mul, Rat.intCast_sub, Rat.intCast_mul, Rat.intCast_mul, bd_num, h1, h2, f1]
  refine ⟨d * e, Int.mul_pos d0 e0, bd_abs d1 e1 (by show _ ≤ x.1 + p.1 + 1; omega), fun j hj => ?_, fun j hj => ?_⟩
  · obtain ⟨z, z1, z2⟩ := a1 j hj
    obtain ⟨w, w1, w2⟩ := b1 j hj
    exact ⟨_, key j z w z1 w1, natAbs_sub_lt (k := x.1 + p.1) (bd_abs z2 e1 (Nat.le_refl _)) (bd_abs f2 w2 (Nat.le_refl _))⟩
  · obtain ⟨z, z1, z2⟩ := a2 j hj
    obtain ⟨w, w1, w2⟩ := b2 j hj
    exact ⟨_, key j z w z1 w1, natAbs_sub_lt (k := max (x.2 + p.1) (x.1 + p.2)) (bd_abs z2 e1 (Nat.le_max_left _ _)) (bd_abs f2 w2 (Nat.le_max_right _ _))⟩
theorem bd_quo {a d c : Rat} (hd : d ≠ 0) (hc : c * d ≠ 0) : a / c * (c * d) = a * d := by
  have : c ≠ 0 := fun h => hc (by rw [h, Rat.zero_mul])
  grind
theorem Bd.sc {n c : Nat} {x : Nat × Nat} {r : List Rat} (h : Bd n x r) (hc : c < n) : Bd n (bD x) (sc r (gz r c)) := by
  obtain ⟨d, d0, d1, a1, a2⟩ := h
  obtain ⟨f, f1, f2⟩ := a1 c hc
  have hd : (d : Rat) ≠ 0 := fun z => by have := Rat.intCast_inj.mp (z.trans Rat.intCast_zero.symm); omega
  rcases Int.lt_trichotomy f 0 with hf | hf | hf
  · have key : ∀ j (z : Int), gz r j * (d : Rat) = (z : Rat) → gz (Q.sc r (gz r c)) j * ((-f : Int) : Rat) = ((-z : Int) : Rat) := fun j z h1 => by
      have hfc : gz r c * (d : Rat) ≠ 0 := fun e => by rw [f1] at e; have := Rat.intCast_inj.mp (e.trans Rat.intCast_zero.symm); omega
      rw [gz_sc, Rat.intCast_neg, Rat.intCast_neg, ← f1, ← h1, Rat.mul_neg, bd_quo hd hfc]
    refine ⟨-f, by omega, by rw [Int.natAbs_neg]; exact f2, fun j hj => ?_, fun j hj => ?_⟩
    · obtain ⟨z, z1, z2⟩ := a1 j hj
      exact ⟨-z, key j z z1, by rw [Int.natAbs_neg]; exact z2⟩
    · obtain ⟨z, z1, z2⟩ := a2 j hj
      exact ⟨-z, key j z z1, by rw [Int.natAbs_neg]; exact z2⟩
  · subst hf
    have hz : gz r c = 0 := by
      rw [Rat.intCast_zero] at f1
      rcases Rat.mul_eq_zero.mp f1 with h | h
      · exact h
      · exact absurd h hd
    have key : ∀ j, gz (Q.sc r (gz r c)) j * ((1 : Int) : Rat) = ((0 : Int) : Rat) := fun j => by
      rw [gz_sc, hz, Rat.div_def, Rat.inv_zero, Rat.mul_zero, Rat.zero_mul]; rfl
    have h2 : ∀ k : Nat, Int.natAbs 0 < 2 ^ k := fun k => Nat.pos_of_ne_zero (by simp)
    have h1 : (1 : Int).natAbs < 2 ^ (bD x).1 := Nat.lt_of_le_of_lt (by omega) d1
    exact ⟨1, by decide, h1, fun j _ => ⟨0, key j, h2 _⟩, fun j _ => ⟨0, key j, h2 _⟩⟩
  · have key : ∀ j (z : Int), gz r j * (d : Rat) = (z : Rat) → gz (Q.sc r (gz r c)) j * (f : Rat) = (z : Rat) := fun j z h1 => by
      have hfc : gz r c * (d : Rat) ≠ 0 := fun e => by rw [f1] at e; have := Rat.intCast_inj.mp (e.trans Rat.intCast_zero.symm); omega
      rw [gz_sc, ← f1, ← h1, bd_quo hd hfc]
    refine ⟨f, hf, f2, fun j hj => ?_, fun j hj => ?_⟩
    · obtain ⟨z, z1, z2⟩ := a1 j hj
      exact ⟨z, key j z z1, z2⟩
    · obtain ⟨z, z1, z2⟩ := a2 j hj
      exact ⟨z, key j z z1, z2⟩
theorem bd_sz {q : Rat} {d z : Int} {a b : Nat} (hd : 0 < d) (h1 : d.natAbs < 2 ^ a) (h2 : z.natAbs < 2 ^ b) (e : q * (d : Rat) = (z : Rat)) : sz q ≤ max a b := by
  have hd0 : (d : Rat) ≠ 0 := fun z => by have := Rat.intCast_inj.mp (z.trans Rat.intCast_zero.symm); omega
  have e2 : q = Rat.divInt z d := by rw [divInt_div, ← e]; grind
  have ha : 1 ≤ a := by
    rcases Nat.eq_zero_or_pos a with h | h
    · rw [h] at h1; simp at h1; omega
    · exact h
  rw [e2]
  exact sz_divInt (Nat.lt_of_lt_of_le h2 (pow2_le (Nat.le_max_right _ _))) (Nat.lt_of_lt_of_le h1 (pow2_le (Nat.le_max_left _ _))) (Nat.le_trans ha (Nat.le_max_left _ _))
theorem Bd.at {n : Nat} {x : Nat × Nat} {r : List Rat} (h : Bd n x r) (j : Nat) : sz (gz r j) ≤ max x.1 x.2 := by
  obtain ⟨d, d0, d1, a1, a2⟩ := h
  by_cases hj : j < n
  · obtain ⟨z, z1, z2⟩ := a1 j hj
    have := bd_sz d0 d1 z2 z1
    omega
  · obtain ⟨z, z1, z2⟩ := a2 j (by omega)
    exact bd_sz d0 d1 z2 z1
theorem Bd.item {n : Nat} {x : Nat × Nat} {r : List Rat} (h : Bd n x r) (ok : bOk x = true) : ∀ q ∈ r, sz q ≤ 30000000 := fun q hq => by
  unfold bOk at ok
  rw [Bool.and_eq_true, decide_eq_true_eq, decide_eq_true_eq] at ok
  obtain ⟨j, hj⟩ := List.mem_iff_getElem?.mp hq
  have e : gz r j = q := by unfold gz; rw [hj]; rfl
  rw [← e]
  have := h.at j
  omega
theorem gOk_at {x : Nat × Nat} {n t : Nat} (h : gOk x n = true) (ht : t < n) : bOk (bSt x t) = true ∧ bOk (bD (bRow (bSt x t) x t)) = true ∧ ∀ k, k ≤ t → bOk (bRow (bSt x t) x k) = true := by
  unfold gOk at h
  rw [List.all_eq_true] at h
  have := h t (List.mem_range.mpr ht)
  rw [Bool.and_eq_true, Bool.and_eq_true, List.all_eq_true] at this
  exact ⟨this.1.1, this.1.2, fun k hk => this.2 k (List.mem_range.mpr (by omega))⟩
theorem cut_mid {α : Type} {xs : List α} {a b : Nat} (hb : b ≤ xs.length) (ha : a ≤ b) : cut xs (some (a : Int)) (some (b : Int)) = (xs.drop a).take (b - a) := by
  unfold cut
  rw [HT.sIx_nat, HT.sIx_nat, Nat.min_eq_left hb, Nat.min_eq_left (Nat.le_trans ha hb)]
theorem fold_upd {β : Type} (g : List Rat → β) : ∀ (ps : List (Nat × List Rat)) (f : Nat → β), (ps.map (·.1)).Nodup → ∀ p ∈ ps, (ps.foldl (fun f p => fun i => if i = p.1 then g p.2 else f i) f) p.1 = g p.2
  | [], _, _, _, h => by simp at h
  | q :: ps, f, nd, p, h => by
    rw [List.foldl_cons]
    rw [List.map_cons] at nd
    obtain ⟨n1, n2⟩ := List.nodup_cons.mp nd
    rcases List.mem_cons.mp h with rfl | h
    · have key : ∀ (ps : List (Nat × List Rat)) (f : Nat → β), p.1 ∉ ps.map (·.1) → (ps.foldl (fun f p => fun i => if i = p.1 then g p.2 else f i) f) p.1 = f p.1 := by
        intro ps
        induction ps with
        | nil => intro f _; rfl
        | cons q ps ih =>
          intro f hn
          rw [List.map_cons, List.mem_cons] at hn
          rw [List.foldl_cons, ih _ (fun h => hn (.inr h))]
          exact if_neg (fun e => hn (.inl e))
      rw [key ps _ n1]
      exact if_pos rfl
    · exact fold_upd g ps _ n2 p h
/-- a comprehension whose first turn changes the frame once -/
theorem lc_chg {α : Type} {vs : List Nat} {gs : D → En → Option En} {me : EM O} {env env' : En} (h : α → D) (g : α → O) {xs : List α} (hx : xs ≠ []) (acc : List O) (h0 : okE env vs = true) (h1 : okE env' vs = true) (hz : acc.length + xs.length ≤ sizeLine)
    (s0 : ∀ x ∈ xs, ∃ e1 e2, gs (h x) (wipeE env vs) = some e1 ∧ me e1 = some (g x, e2) ∧ backE env e2 vs = env') (s1 : ∀ x ∈ xs, ∃ e1 e2, gs (h x) (wipeE env' vs) = some e1 ∧ me e1 = some (g x, e2) ∧ backE env' e2 vs = env') :
    lcLoop vs gs mYes me (xs.map h) acc env = some (acc ++ xs.map g, env') := by
  cases xs with
  | nil => exact absurd rfl hx
  | cons x xs =>
    obtain ⟨e1, e2, a1, a2, a3⟩ := s0 x (by simp)
    have hl : acc.length < sizeLine := by rw [List.length_cons] at hz; omega
    rw [List.map_cons, lcLoop, if_pos h0, a1, Option.bind_some, e_mYes, Option.bind_some]
    show (if true = true then (me e1).bind _ else _) = _
    rw [if_pos rfl, a2, Option.bind_some, if_pos hl, a3, lc_mapx h g xs _ h1 (by rw [List.length_append, List.length_singleton]; rw [List.length_cons] at hz; omega) (fun y hy => s1 y (by simp [hy]))]
    simp
end Q

set_option Elab.async false
set_option linter.all false
set_option maxRecDepth 100000
set_option maxHeartbeats 1000000
namespace Q
open PySem L2 PyProof.Rows
/-! ### own things given to a def -/
def mGive (i : Nat) : EM O := fun env => match env[i]? with
  | some (.has o) => some (o, env.set i .un)
  | _ => none
@[simp] theorem e_mGive {i : Nat} {env : En} : mGive i env = match env[i]? with
  | some (.has o) => some (o, env.set i .un)
  | _ => none := rfl
def mCallO (f : List O → Option D) (a : EM (List O)) : EM O := fun env => (a env).bind fun p => (f p.1).bind fun d => some (.fz d, p.2)
@[simp] theorem e_mCallO {f : List O → Option D} {a : EM (List O)} {env : En} : mCallO f a env = (a env).bind fun p => (f p.1).bind fun d => some (.fz d, p.2) := rfl
section
variable {K : PySem.W.Frag} {H0 B0 B H : Hp} {ln : Nat → Option V} {Γ : List (O × V)} {σ : L2.St} {env : En} {o : O}
theorem Stt.give (s : Stt K H0 B0 ln Γ B H σ env) {i : Nat} (e : env[i]? = some (.has o)) : ∃ v, σ[i]? = some (some v) ∧ Vw K B H o v ∧ Stt K H0 B0 ln ((o, v) :: Γ) B H σ (env.set i .un) := by
  obtain ⟨v, hv, w⟩ := s.slot e
  refine ⟨v, hv, w, s.w, ?_, ?_⟩
  · have u := (s.un i (some v)).sg
    rwa [show σ.set i (some v) = σ from by
      obtain ⟨h1, h2⟩ := List.getElem?_eq_some_iff.mp hv
      rw [← h2]; simp] at u
  · obtain ⟨R, p, q⟩ := roots_at e hv
    have q1 := q .un (some v)
    rw [show σ.set i (some v) = σ from by
      obtain ⟨h1, h2⟩ := List.getElem?_eq_some_iff.mp hv
      rw [← h2]; simp] at q1
    have ow : Own K H0 B H [] (((o, v) :: R) ++ Γ) := s.own.perm (p.append_right Γ)
    have e0 : rt .un (some v) = ([] : List (O × V)) := rfl
    rw [e0, List.nil_append] at q1
    refine ow.perm ?_
    show ((o, v) :: (R ++ Γ)).Perm (roots (env.set i .un) σ ++ (o, v) :: Γ)
    exact (((q1.append_right Γ).symm).cons _).trans List.perm_middle.symm
end
section
variable {X : Cx} {pos : Pos}
theorem qe_give (i : Nat) {x : Str} (hN : X.N[i]? = some x := by rfl) (hv : L2.Vis X.env.scope x := by first | exact Or.inl rfl | exact Or.inr (Or.inl rfl) | exact Or.inr (Or.inr rfl)) (hd : (x == ("__debug__" : Str)) = false := by decide)
    (hcd : (x == ("__classdict__" : Str)) = false := by decide) : QE X (.Name x pos) (mGive i) := by
  refine ⟨_, pe_var hN hv hd hcd, fun H0 B0 ln Γ B H σ env s o env' em Q q => ?_⟩
  have em : (match env[i]? with | some (.has o) => some (o, env.set i .un) | _ => none) = some (o, env') := em
  split at em
  · rename_i p hp
    cases em
    obtain ⟨v, hv, w, s'⟩ := s.give hp
    exact ⟨v, hv, q v B H (Ex.refl _) (Ex.refl _) s'⟩
  · cases em
end
def spO (K : PySem.W.Frag) (n : Nat) (mf : List O → Option D) : Sp := fun vs H Q _ => ∃ H0 B os d, Wd H0 B B H ∧ Own K H0 B H [] (os.zip vs) ∧ os.length = vs.length ∧ os.length = n ∧ mf os = some d ∧ ∀ v B' H', Wd H0 B B' H' → Rp K B' d v → Q v H'
structure DefOkO (P : Program) (w : World) (K : PySem.W.Frag) (mg : Str → Option Value) (base : Heap) (k : Nat) (x : Str) (n : Nat) (mf : List O → Option D) : Prop where
  len : ∀ ds d, mf ds = some d → ds.length = n
  ex : ∃ (f : Addr) (fd : FuncData) (ps : List Str), FnOk P w K mg base CX0 k f fd ps (spO K n mf) ∧ mg x = some (.ref f) ∧ PySem.W.keepIn K (.ref f) = true ∧ Binds K fd ps []
section
variable {X : Cx} {k n : Nat} {x : Str} {mf : List O → Option D} {e : Expr} {es : List Expr} {mA : EM (List O)} {p pos : Pos}
theorem qew_callO (G : DefOkO X.prog X.w X.K X.mg X.base k x n mf) (hr : Room k X.A) (ha : QA X (e :: es) mA) (hg : Gl X x := by rfl) (hdb : (x == ("__debug__" : Str)) = false := by decide)
    (he : starEach (e :: es) X.env = (false, eval e X.env) :: starEach es X.env := by rfl) (hpl : (backTo pos (starEach es X.env)).any (·.1) = false := by rfl) : QEw X (.Call (.Name x p) (e :: es) [] pos) (mCallO mf mA) := by
  obtain ⟨f, fd, ps, F, hm, hk, hb⟩ := G.ex
  obtain ⟨t, h1, h2⟩ := ha
  refine ⟨_, pe_call F hr hg hm hk hb .nil pass0 h1 hdb he hpl, fun H0 B0 ln Γ B H σ env s o env' em Q q => ?_⟩
  obtain ⟨p, em1, em⟩ := bind_some em
  obtain ⟨d, em2, em⟩ := bind_some em
  cases em
  refine h2 H0 B0 ln Γ B H σ env s _ _ em1 _ fun vs B1 H1 e1 e2 hl s1 => ?_
  rw [List.append_nil]
  have ow : Own X.K H0 B1 H1 [] (p.1.zip vs ++ (roots p.2 σ ++ Γ)) := by
    refine s1.own.perm ?_
    rw [← List.append_assoc, ← List.append_assoc]
    exact List.perm_append_comm.append_right _
  generalize hR : roots p.2 σ ++ Γ = R at ow
  obtain ⟨fp, r1, nd, r3⟩ := ow
  rw [List.map_append, List.map_append, zip_fst hl, zip_snd hl] at r1
  obtain ⟨f1, f2, rfl, r4, r5⟩ := Ros.split hl r1
  have nd' := List.nodup_append.mp nd
  refine ⟨fun a => open Classical in if a ∈ f1 then none else H1 a, B1, p.1, d, ⟨Ex.refl _, s1.w.bh, fun a u h => ?_, fun a h _ => h⟩, ⟨f1, by rw [zip_fst hl, zip_snd hl]; exact r4, nd'.1, fun a ha => ⟨(r3 a (List.mem_append_left _ ha)).1, if_pos ha, by simp⟩⟩, hl, G.len _ _ em2, em2, fun v B' H' w r' => ?_⟩
  · split at h
    · cases h
    · exact h
  · have out : ∀ a, a ∉ f1 → ∀ u, H1 a = some u → H' a = some u := fun a ha u h => w.h0 a u (by
      show (if a ∈ f1 then none else H1 a) = _
      rw [if_neg ha]; exact h)
    have none' : ∀ a, a ∉ f1 → H1 a ≠ none → B1 a = none → B' a = none := fun a ha h h' => w.nw a h' (by
      show (if a ∈ f1 then none else H1 a) ≠ _
      rw [if_neg ha]; exact h)
    have h0f : ∀ a, H0 a ≠ none → a ∉ f1 := fun a h ha => h (r3 a (List.mem_append_left _ ha)).2.1
    have th := Ros.there _ _ _ r5
    have f21 : ∀ a ∈ f2, a ∉ f1 := fun a ha hb => nd'.2.2 a hb a ha rfl
    have ow2 : Own X.K H0 B' H' [] R := ⟨f2, Ros.mono w.b0 _ _ f2 (fun a ha => by
      cases q : H1 a with
      | none => exact absurd q (th a ha)
      | some u => exact out a (f21 a ha) u q) r5, nd'.2.1, fun a ha => ⟨none' a (f21 a ha) (th a ha) (r3 a (List.mem_append_right _ ha)).1, (r3 a (List.mem_append_right _ ha)).2⟩⟩
    rw [← hR] at ow2
    have st : Stt X.K H0 B0 ln Γ B' H' σ p.2 := by
      refine ⟨⟨s1.w.b0.trans w.b0, w.bh, fun a u h => ?_, fun a h1 h2 => ?_⟩, s1.sg, ow2⟩
      · exact out a (h0f a (by rw [h]; simp)) u (s1.w.h0 a u h)
      · have hh : H1 a ≠ none := fun z => h2 (s1.w.h0.none z)
        exact none' a (h0f a h2) hh (s1.w.nw a h1 h2)
    exact q v B' H' (e1.trans w.b0) (st.push r')
def startO (N : Nat) (os : List O) : En := os.map Sl.has ++ List.replicate (N - os.length) Sl.un
def runO (n N : Nat) (m : SM) (os : List O) : Option D := if os.length = n then (m (startO N os)).bind outD else none
theorem roots_startO : ∀ {os : List O} {vs : List V} (r : Nat), os.length = vs.length → roots (os.map Sl.has ++ List.replicate r Sl.un) (vs.map some ++ List.replicate r none) = os.zip vs
  | [], [], r, _ => by
    show roots (List.replicate r Sl.un) (List.replicate r none) = []
    induction r with
    | zero => rfl
    | succ r ih => exact ih
  | o :: os, v :: vs, r, h => by
    show rt (.has o) (some v) ++ roots (os.map Sl.has ++ List.replicate r Sl.un) (vs.map some ++ List.replicate r none) = _
    rw [roots_startO r (by simpa using h)]; rfl
theorem sg_startO {ln : Nat → Option V} {os : List O} {vs : List V} (r : Nat) (h : os.length = vs.length) : Sg ln (os.map Sl.has ++ List.replicate r Sl.un) (vs.map some ++ List.replicate r none) := by
  refine ⟨by simp [h], fun i o e => ?_, fun i e => ?_, fun i a e => ?_⟩
  · by_cases hi : i < os.length
    · have hv : i < vs.length := by omega
      exact ⟨vs[i], by rw [List.getElem?_append_left (by simpa using hv)]; simp [hv]⟩
    · rw [List.getElem?_append_right (by simpa using hi)] at e
      rw [List.getElem?_replicate] at e
      split at e <;> cases e
  · by_cases hi : i < os.length
    · rw [List.getElem?_append_left (by simpa using hi)] at e
      rw [List.getElem?_map, List.getElem?_eq_getElem hi] at e
      cases e
    · rw [List.getElem?_append_right (by simpa using hi)] at e
      rw [List.getElem?_replicate] at e
      split at e <;> cases e
  · by_cases hi : i < os.length
    · rw [List.getElem?_append_left (by simpa using hi)] at e
      rw [List.getElem?_map, List.getElem?_eq_getElem hi] at e
      cases e
    · rw [List.getElem?_append_right (by simpa using hi)] at e
      rw [List.getElem?_replicate] at e
      split at e <;> cases e
theorem runO_len {n N : Nat} {m : SM} : ∀ ds d, runO n N m ds = some d → ds.length = n := fun ds d h => by
  unfold runO at h
  split at h
  · assumption
  · cases h
theorem def_okO {P : Program} {w : World} {K : PySem.W.Frag} {mg : Str → Option Value} {base : Heap} {qual : Str} {st : Stmt} {f : Addr} {fd : FuncData} {N ps : List Str} {k : Nat} {m : SM} (F : Fun K x qual st f fd) (S : FnScope N ps (defScope st)) (hm : mg x = some (.ref f)) (hb : Binds K fd ps [])
    (hbody : ∀ (cdv : Value) (A : Around) (outer : List Env) (s : Shared) (H : Hp) (E : XK), Room k (A.deeper (envOfC qual (defScope st) s.heap.objs.size f cdv)) → QSs (cxOf CX0 P w K mg base N qual (defScope st) f cdv A outer s H E).nox (defBody st) m) :
    DefOkO P w K mg base (k + 1) x ps.length (runO ps.length N.length m) := by
  refine ⟨runO_len, f, fd, ps, F.ok S (fun vs H Q E h => ?_) (fun cdv A outer s H vs Q E hr h => ?_), hm, F.kp, hb⟩
  · obtain ⟨H0, B, os, d, _, _, hl, hn, _⟩ := h
    rw [← hl]; exact hn
  · obtain ⟨H0, B, os, d, wd, ow, hl, hn, em, q⟩ := h
    obtain ⟨t, h1, h2⟩ := hbody cdv A outer s H E hr
    refine ⟨t, h1, ?_⟩
    unfold runO at em
    rw [if_pos hn] at em
    obtain ⟨out, em1, em⟩ := bind_some em
    refine h2 H0 B (fun _ => none) [] B H _ (startO N.length os) ⟨wd, ?_, ?_⟩ out em1 _ ?_
    · unfold startO L2.start
      rw [hl]
      exact sg_startO _ hl
    · unfold startO L2.start
      rw [hl, List.append_nil, roots_startO _ hl]
      exact ow
    · cases out with
      | nx e' => cases em; exact fun B' H' σ' e2 s' => q .non B' H' s'.w (by rw [Rp])
      | rt d' => cases em; exact fun v B' H' e2 w' r' => q v B' H' w' r'
      | bk e' => cases em
      | ct e' => cases em
theorem runO_eq {n N : Nat} {m : SM} {ds : List O} (h : ds.length = n) : runO n N m ds = (m (startO N ds)).bind outD := by
  unfold runO; rw [if_pos h]
end
end Q

set_option Elab.async false
set_option linter.all false
set_option maxRecDepth 100000
set_option maxHeartbeats 1000000
namespace Q
open PySem L2 PyProof.Rows
/-! ### code that may raise an own error -/
inductive RX where
  | ret (d : D)
  | exc (x : Str) (p : Option (Str × D))
inductive OutX where
  | ok (o : Out)
  | ex (x : Str) (p : Option (Str × D)) (env : En)
abbrev SMX := En → Option OutX
inductive ResX where
  | ok (o : O) (env : En)
  | ex (x : Str) (p : Option (Str × D)) (env : En)
abbrev EMX := En → Option ResX
inductive ResA where
  | ok (os : List O) (env : En)
  | ex (x : Str) (p : Option (Str × D)) (env : En)
abbrev AMX := En → Option ResA
def Pay (K : PySem.W.Frag) (B H : Hp) : Option (Str × D) → Option Addr → Prop
  | none, d => d = none
  | some (f, dd), d => ∃ a v, d = some a ∧ H a = some (.xd [(f, v)]) ∧ Rp K B dd v
def WishE (K : PySem.W.Frag) (mg : Str → Option Value) (H0 B0 : Hp) (ln : Nat → Option V) (Γ : List (O × V)) (B : Hp) (σ : L2.St) (W : WX) (x : Str) (p : Option (Str × D)) (env' : En) : Prop :=
  ∀ C d B' H', mg x = some (.ref C) → Ex B B' → Pay K B' H' p d → Stt K H0 B0 ln Γ B' H' σ env' → W (.ref C) d σ H'
def tEX (K : PySem.W.Frag) (mg : Str → Option Value) (m : EMX) (W : WX) : TE := fun σ H Q => ∃ H0 B0 ln Γ B env out, Stt K H0 B0 ln Γ B H σ env ∧ m env = some out ∧ match out with
  | .ok o env' => ∀ v B' H', Ex B B' → Ex H H' → Stt K H0 B0 ln ((o, v) :: Γ) B' H' σ env' → Q v H'
  | .ex x p env' => WishE K mg H0 B0 ln Γ B σ W x p env'
def tAX (K : PySem.W.Frag) (mg : Str → Option Value) (m : AMX) (W : WX) : TA := fun σ H Q => ∃ H0 B0 ln Γ B env out, Stt K H0 B0 ln Γ B H σ env ∧ m env = some out ∧ match out with
  | .ok os env' => ∀ vs B' H', Ex B B' → Ex H H' → os.length = vs.length → Stt K H0 B0 ln (os.zip vs ++ Γ) B' H' σ env' → Q vs H'
  | .ex x p env' => WishE K mg H0 B0 ln Γ B σ W x p env'
def tSX (K : PySem.W.Frag) (mg : Str → Option Value) (m : SMX) (W : WX) : TS := fun E σ H => ∃ H0 B0 ln Γ B env out, Stt K H0 B0 ln Γ B H σ env ∧ m env = some out ∧ match out with
  | .ok o => Post K H0 B0 ln Γ B E o
  | .ex x p env' => ∀ C d B' H' σ', mg x = some (.ref C) → Ex B B' → Pay K B' H' p d → Stt K H0 B0 ln Γ B' H' σ' env' → W (.ref C) d σ' H'
/-- no exception leaves -/
abbrev trN (X : Cx) (pn : List (Addr × Obj)) : Cx := X.tr pn fun _ _ => False
def QEX (X : Cx) (e : Expr) (m : EMX) : Prop := ∀ W pn xe, L2N.Takes (X.tr pn xe) W → PE (X.tr pn xe) e (tEX X.K X.mg m W)
def QAX (X : Cx) (es : List Expr) (m : AMX) : Prop := ∀ W pn xe, L2N.Takes (X.tr pn xe) W → PA (X.tr pn xe) es (tAX X.K X.mg m W)
def QSX (X : Cx) (st : Stmt) (m : SMX) : Prop := ∀ W pn xe, L2N.Takes (X.tr pn xe) W → PassesOwn (model X.prog X.w) X.A X.env xe → PS (X.tr pn xe) st (tSX X.K X.mg m W)
def QSsX (X : Cx) (sts : List Stmt) (m : SMX) : Prop := ∀ W pn xe, L2N.Takes (X.tr pn xe) W → PassesOwn (model X.prog X.w) X.A X.env xe → PSs (X.tr pn xe) sts (tSX X.K X.mg m W)
theorem _root_.L2.PE.impT {X : Cx} {e : Expr} {t t' : TE} (h : PE X e t) (i : ∀ σ H Q, t' σ H Q → t σ H Q) : PE X e t' := ⟨fun pins s σ H Q I q => h.run pins s σ H Q I (i _ _ _ q)⟩
theorem _root_.L2.PA.impT {X : Cx} {e : List Expr} {t t' : TA} (h : PA X e t) (i : ∀ σ H Q, t' σ H Q → t σ H Q) : PA X e t' := ⟨fun ps pins s σ H Q I q => h.run ps pins s σ H Q I (i _ _ _ q)⟩
theorem _root_.L2.PS.impT {X : Cx} {e : Stmt} {t t' : TS} (h : PS X e t) (i : ∀ E σ H, t' E σ H → t E σ H) : PS X e t' := ⟨fun pins s σ H Q I q => h.run pins s σ H Q I (i _ _ _ q)⟩
theorem _root_.L2.PSs.impT {X : Cx} {e : List Stmt} {t t' : TS} (h : PSs X e t) (i : ∀ E σ H, t' E σ H → t E σ H) : PSs X e t' := ⟨fun pins s σ H Q I q => h.run pins s σ H Q I (i _ _ _ q)⟩
theorem _root_.L2.PS.nox {X : Cx} {st : Stmt} {t : TS} (h : PS X.nox st t) : PS X st t := ⟨fun pins s σ H D I hw =>
  wpAny_mono (h.run pins s σ H D (I.wish _) hw) (fun _ _ q => q.unwish) fun _ _ z => False.elim z⟩
theorem WishE.up {K : PySem.W.Frag} {mg : Str → Option Value} {H0 B0 : Hp} {ln : Nat → Option V} {Γ : List (O × V)} {B B1 : Hp} {σ : L2.St} {W : WX} {x : Str} {p : Option (Str × D)} {env' : En} (h : WishE K mg H0 B0 ln Γ B σ W x p env') (e : Ex B B1) : WishE K mg H0 B0 ln Γ B1 σ W x p env' :=
  fun C d B' H' hc e' hp s => h C d B' H' hc (e.trans e') hp s
/-! expressions -/
def mOk (m : EM O) : EMX := fun env => (m env).map fun p => .ok p.1 p.2
def aNil : AMX := fun env => some (.ok [] env)
def aCons (a : EMX) (r : AMX) : AMX := fun env => (a env).bind fun p => match p with
  | .ok o e => (r e).map fun q => match q with
    | .ok os e2 => .ok (o :: os) e2
    | .ex x p e2 => .ex x p e2
  | .ex x p e => some (.ex x p e)
def mTupX (m : AMX) : EMX := fun env => (m env).bind fun p => match p with
  | .ok os e => if os.length ≤ sizeLine then some (.ok (.fz (.tup (O.frzs os))) e) else none
  | .ex x p e => some (.ex x p e)
def mCallX (f : List D → Option RX) (mA : EM (List O)) : EMX := fun env => (mA env).bind fun p => (f (O.frzs p.1)).map fun r => match r with
  | .ret d => .ok (.fz d) p.2
  | .exc x pl => .ex x pl p.2
section
variable {X : Cx} {e : Expr} {es : List Expr} {pos : Pos}
theorem qex_lift {m : EM O} (h : ∀ pn, QE (trN X pn) e m) : QEX X e (mOk m) := fun W pn xe tk => by
  obtain ⟨t, h1, h2⟩ := h pn
  refine (PE.nox (X := X.tr pn xe) h1).impT ?_
  rintro σ H Q ⟨H0, B0, ln, Γ, B, env, out, s, em, q⟩
  obtain ⟨p, em1, rfl⟩ := Option.map_eq_some_iff.mp em
  exact h2 H0 B0 ln Γ B H σ env s _ _ em1 _ q
theorem qax_nil : QAX X [] aNil := fun W pn xe tk => by
  refine pa_nil.impT ?_
  rintro σ H Q ⟨H0, B0, ln, Γ, B, env, out, s, em, q⟩
  cases em
  exact q [] B H (Ex.refl _) (Ex.refl _) rfl s
theorem qax_cons {m : EMX} {mr : AMX} (h : QEX X e m) (hr : QAX X es mr) (hs : starEach (e :: es) X.env = (false, eval e X.env) :: starEach es X.env := by rfl) : QAX X (e :: es) (aCons m mr) := fun W pn xe tk => by
  refine (pa_cons (h W pn xe tk) (hr W pn xe tk) hs).impT ?_
  rintro σ H Q ⟨H0, B0, ln, Γ, B, env, out, s, em, q⟩
  obtain ⟨r1, em1, em⟩ := bind_some em
  refine ⟨H0, B0, ln, Γ, B, env, r1, s, em1, ?_⟩
  cases r1 with
  | ex x p e1 => cases em; exact q
  | ok o e1 =>
    intro v B1 H1 x1 x2 s1
    obtain ⟨r2, em2, em⟩ := Option.map_eq_some_iff.mp em
    refine ⟨H0, B0, ln, (o, v) :: Γ, B1, e1, r2, s1, em2, ?_⟩
    cases r2 with
    | ex x p e2 =>
      cases em
      exact fun C d B' H' hc e' hp s' => q C d B' H' hc (x1.trans e') hp s'.pop
    | ok os e2 =>
      cases em
      intro vs B2 H2 x3 x4 hl s2
      refine q (v :: vs) B2 H2 (x1.trans x3) (x2.trans x4) (by simp [hl]) (s2.perm ?_)
      exact List.perm_middle
theorem qex_tup {x1} {m : AMX} (h : QAX X es m) : QEX X (.Tuple es x1 pos) (mTupX m) := fun W pn xe tk => by
  refine (pe_tup (h W pn xe tk)).impT ?_
  rintro σ H Q ⟨H0, B0, ln, Γ, B, env, out, s, em, q⟩
  obtain ⟨r1, em1, em⟩ := bind_some em
  refine ⟨H0, B0, ln, Γ, B, env, r1, s, em1, ?_⟩
  cases r1 with
  | ex x p e1 => cases em; exact q
  | ok os e1 =>
    have em : (if os.length ≤ sizeLine then some (ResX.ok (.fz (.tup (O.frzs os))) e1) else none) = some out := em
    intro vs B1 H1 x1 x2 hl s1
    split at em
    · rename_i hz
      cases em
      refine ⟨hl ▸ hz, fun a ha => ?_⟩
      obtain ⟨B2, e3, r, s2⟩ := Stt.frzs hl s1
      obtain ⟨e4, e5, s3⟩ := s2.newTup r ha
      exact q _ _ _ ((x1.trans e3).trans e4) (x2.trans e5) s3
    · cases em
end
/-! defs -/
def spX (K : PySem.W.Frag) (mg : Str → Option Value) (n : Nat) (mf : List D → Option RX) : Sp := fun vs H Q E => ∃ B ds out, Ex B H ∧ Rps K B ds vs ∧ ds.length = n ∧ mf ds = some out ∧ match out with
  | .ret d => ∀ v B' H', Wd H B B' H' → Rp K B' d v → Q v H'
  | .exc x p => ∀ C d B' H', mg x = some (.ref C) → Wd H B B' H' → Pay K B' H' p d → E (.ref C) d H'
structure DefOkX (P : Program) (w : World) (K : PySem.W.Frag) (mg : Str → Option Value) (base : Heap) (k : Nat) (x : Str) (n : Nat) (mf : List D → Option RX) : Prop where
  len : ∀ ds d, mf ds = some d → ds.length = n
  ex : ∃ (f : Addr) (fd : FuncData) (ps : List Str), FnOk P w K mg base (L2N.CX P w) k f fd ps (spX K mg n mf) ∧ mg x = some (.ref f) ∧ PySem.W.keepIn K (.ref f) = true ∧ Binds K fd ps []
section
variable {X : Cx} {k n : Nat} {x : Str} {mf : List D → Option RX} {e : Expr} {es : List Expr} {mA : EM (List O)} {p pos : Pos}
theorem QA.nox {t : TA} (h : PA X.nox es t) : PA X es t := ⟨fun ps pins s σ H Q I hw =>
  wpAny_mono (h.run ps pins s σ H Q (I.wish _) hw) (fun _ _ ⟨v, H', I', r, q⟩ => ⟨v, H', I'.unwish, r, q⟩) fun _ _ z => False.elim z⟩
theorem qex_call (G : DefOkX X.prog X.w X.K X.mg X.base k x n mf) (hr : Room k X.A) (ha : ∀ pn, QA (trN X pn) (e :: es) mA) (hg : Gl X x := by rfl) (hdb : (x == ("__debug__" : Str)) = false := by decide)
    (he : starEach (e :: es) X.env = (false, eval e X.env) :: starEach es X.env := by rfl) (hpl : (backTo pos (starEach es X.env)).any (·.1) = false := by rfl) : QEX X (.Call (.Name x p) (e :: es) [] pos) (mCallX mf mA) := fun W pn xe tk => by
  obtain ⟨f, fd, ps, F, hm, hk, hb⟩ := G.ex
  obtain ⟨t, h1, h2⟩ := ha pn
  refine (pe_callS (X := X.tr pn xe) F hr hg hm hk hb (fun σ => L2N.passAt tk σ) (QA.nox (X := X.tr pn xe) h1) hdb he hpl).impT ?_
  rintro σ H Q ⟨H0, B0, ln, Γ, B, env, out, s, em, q⟩
  obtain ⟨p, em1, em⟩ := bind_some em
  obtain ⟨r, em2, em⟩ := Option.map_eq_some_iff.mp em
  refine h2 H0 B0 ln Γ B H σ env s _ _ em1 _ fun vs B1 H1 e1 e2 hl s1 => ?_
  obtain ⟨B2, e3, rr, s2⟩ := Stt.frzs hl s1
  refine ⟨B2, O.frzs p.1, r, s2.w.bh, rr, G.len _ _ em2, em2, ?_⟩
  cases r with
  | ret d =>
    cases em
    exact fun v B' H' w r' => q v B' H' ((e1.trans e3).trans w.b0) (e2.trans w.h0) ((s2.step w).push r')
  | exc x pl =>
    cases em
    exact fun C d B' H' hc w hp => q C d B' H' hc ((e1.trans e3).trans w.b0) hp (s2.step w)
end
/-! statements -/
def sOkX (m : SM) : SMX := fun env => (m env).map OutX.ok
def sSeqX (a b : SMX) : SMX := fun env => (a env).bind fun out => match out with
  | .ok (.nx e) => b e
  | .ok (.rt d) => some (.ok (.rt d))
  | .ok (.bk e) => some (.ok (.bk e))
  | .ok (.ct e) => some (.ok (.ct e))
  | .ex x p e => some (.ex x p e)
def sIfX (c : EM Bool) (a b : SMX) : SMX := fun env => (c env).bind fun p => if p.1 = true then a p.2 else b p.2
def sRaiseX (x : Str) : SMX := fun env => some (.ex x none env)
def sDropX (m : EMX) : SMX := fun env => (m env).map fun r => match r with
  | .ok _ e => .ok (.nx e)
  | .ex x p e => .ex x p e
def sRetX (m : EMX) : SMX := fun env => (m env).map fun r => match r with
  | .ok o _ => .ok (.rt o.frz)
  | .ex x p e => .ex x p e
def sAsgX (i : Nat) (m : EMX) : SMX := fun env => (m env).bind fun r => match r with
  | .ok o e => if i < e.length then some (.ok (.nx (e.set i (.has o)))) else none
  | .ex x p e => some (.ex x p e)
/-- what the module says of an own error class without __init__ -/
structure XcOk (K : PySem.W.Frag) (mg : Str → Option Value) (x : Str) : Prop where
  ex : ∃ C, mg x = some (.ref C) ∧ PySem.W.excIn K C [.type "ValueError", .type "Exception", .type "BaseException", .type "object"] "ValueError.__new__" = true ∧ PySem.W.keepIn K (.ref C) = true ∧
    PySem.W.subIn K (.ref C) (.type "BaseException") = some true ∧ PySem.W.typeIn K (.ref C) = some (.type "type")
section
variable {X : Cx} {st : Stmt} {rest : List Stmt} {a b : SMX} {e c : Expr} {m : EMX} {n : EM Bool} {pos : Pos}
theorem qsx_lift {m : SM} (h : ∀ pn, QS (trN X pn) st m) : QSX X st (sOkX m) := fun W pn xe tk hp => by
  obtain ⟨t, h1, h2⟩ := h pn
  refine (PS.nox (X := X.tr pn xe) h1).impT ?_
  rintro E σ H ⟨H0, B0, ln, Γ, B, env, out, s, em, q⟩
  obtain ⟨o, em1, rfl⟩ := Option.map_eq_some_iff.mp em
  exact h2 H0 B0 ln Γ B H σ env s _ em1 _ q
theorem qssx_lift {m : SM} (h : ∀ pn, QSs (trN X pn) rest m) : QSsX X rest (sOkX m) := fun W pn xe tk hp => by
  obtain ⟨t, h1, h2⟩ := h pn
  refine (PSs.nox (X := X.tr pn xe) h1).impT ?_
  rintro E σ H ⟨H0, B0, ln, Γ, B, env, out, s, em, q⟩
  obtain ⟨o, em1, rfl⟩ := Option.map_eq_some_iff.mp em
  exact h2 H0 B0 ln Γ B H σ env s _ em1 _ q
theorem qssx_one (h : QSX X st a) : QSsX X [st] a := fun W pn xe tk hp => pss_one (h W pn xe tk hp)
theorem qssx_cons (h1 : QSX X st a) (h2 : QSsX X rest b) : QSsX X (st :: rest) (sSeqX a b) := fun W pn xe tk hp => by
  refine (pss_cons (h1 W pn xe tk hp) (h2 W pn xe tk hp)).impT ?_
  rintro E σ H ⟨H0, B0, ln, Γ, B, env, out, s, em, q⟩
  obtain ⟨o, em1, em⟩ := bind_some em
  refine ⟨H0, B0, ln, Γ, B, env, o, s, em1, ?_⟩
  cases o with
  | ex x p e1 => cases em; exact q
  | ok o =>
    cases o with
    | nx e1 =>
      intro B' H' σ' e' s'
      refine ⟨H0, B0, ln, Γ, B', e1, out, s', em, ?_⟩
      cases out with
      | ok o2 => exact Post.up q e'
      | ex x p e2 => exact fun C d B2 H2 σ2 hc e2 hp s2 => q C d B2 H2 σ2 hc (e'.trans e2) hp s2
    | rt d => cases em; exact q
    | bk e1 => cases em; exact q
    | ct e1 => cases em; exact q
theorem qsx_if {xs ys : List Stmt} (hc : ∀ pn, QT (trN X pn) c n) (ha : QSsX X xs a) (hb : QSsX X ys b) : QSX X (.If c xs ys pos) (sIfX n a b) := fun W pn xe tk hp => by
  obtain ⟨t, t1, t2⟩ := hc pn
  refine (ps_if (PT.nox (X := X.tr pn xe) t1) (ha W pn xe tk hp) (hb W pn xe tk hp)).impT ?_
  rintro E σ H ⟨H0, B0, ln, Γ, B, env, out, s, em, q⟩
  obtain ⟨p, em1, em⟩ := bind_some em
  obtain ⟨d, env1⟩ := p
  refine t2 H0 B0 ln Γ B H σ env s _ _ em1 _ fun B' H' e1 e2 s' => ?_
  cases d with
  | true =>
    refine ⟨H0, B0, ln, Γ, B', env1, out, s', em, ?_⟩
    cases out with
    | ok o2 => exact Post.up q e1
    | ex x p e2 => exact fun C d B2 H2 σ2 hc e2 hp s2 => q C d B2 H2 σ2 hc (e1.trans e2) hp s2
  | false =>
    refine ⟨H0, B0, ln, Γ, B', env1, out, s', em, ?_⟩
    cases out with
    | ok o2 => exact Post.up q e1
    | ex x p e2 => exact fun C d B2 H2 σ2 hc e2 hp s2 => q C d B2 H2 σ2 hc (e1.trans e2) hp s2
theorem qsx_raise {x t : Str} {j : Nat} {p p2 p3 : Pos} (hc : X.calm = true) (C : XcOk X.K X.mg x) (hg : Gl X x := by rfl) (hdb : (x == ("__debug__" : Str)) = false := by decide) : QSX X (.Raise (some (.Call (.Name x p) [.Constant (.str t) j p2] [] p3)) none pos) (sRaiseX x) := fun W pn xe tk hp => by
  obtain ⟨C, gC, q, kC, b, ty⟩ := C.ex
  refine (L2N.ps_raise (X := X.tr pn xe) hc tk (L2N.pmk_own (X := X.tr pn xe) PySem.F.excBase_ValueError q gC kC (raises_own b ty) hg hdb)).impT ?_
  rintro E σ H ⟨H0, B0, ln, Γ, B, env, out, s, em, q⟩
  cases em
  exact q C none B H σ gC (Ex.refl _) rfl s
theorem qsx_expr (he : QEX X e m) (hs : swapsWith e none pos.line X.env = pure false := by rfl) : QSX X (.Expr e pos) (sDropX m) := fun W pn xe tk hp => by
  refine (ps_expr (X := X.tr pn xe) (he W pn xe tk) hs).impT ?_
  rintro E σ H ⟨H0, B0, ln, Γ, B, env, out, s, em, q⟩
  obtain ⟨r, em1, em⟩ := Option.map_eq_some_iff.mp em
  refine ⟨H0, B0, ln, Γ, B, env, r, s, em1, ?_⟩
  cases r with
  | ok o e1 => cases em; exact fun v B' H' x1 x2 s' => q B' H' σ x1 s'.pop
  | ex x p e1 => cases em; exact fun C d B' H' hc x1 hp s' => q C d B' H' σ hc x1 hp s'
theorem qsx_ret (he : QEX X e m) : QSX X (.Return (some e) pos) (sRetX m) := fun W pn xe tk hp => by
  refine (ps_ret (X := X.tr pn xe) (he W pn xe tk)).impT ?_
  rintro E σ H ⟨H0, B0, ln, Γ, B, env, out, s, em, q⟩
  obtain ⟨r, em1, em⟩ := Option.map_eq_some_iff.mp em
  refine ⟨H0, B0, ln, Γ, B, env, r, s, em1, ?_⟩
  cases r with
  | ok o e1 =>
    cases em
    intro v B' H' x1 x2 s'
    obtain ⟨B2, e3, s2⟩ := s'.frz
    exact q v B2 H' (x1.trans e3) s2.w s2.rp
  | ex x p e1 => cases em; exact fun C d B' H' hc x1 hp s' => q C d B' H' σ hc x1 hp s'
theorem qsx_set {i : Nat} {x : Str} {pos' : Pos} (hN : X.N.Nodup) (hi : X.N[i]? = some x) (he : QEX X e m) (hx : Loc X.env.scope x := by first | exact Or.inl rfl | exact Or.inr rfl) (hs : swapsWith e (some (.Name x pos')) pos.line X.env = pure false := by rfl)
    (hf : X.fn x = true ∨ X.env.scope.names.lookup x = some .local := by first | exact .inl rfl | exact .inr rfl | assumption) : QSX X (.Assign [.Name x pos'] e pos) (sAsgX i m) := fun W pn xe tk hp => by
  refine (ps_set (X := X.tr pn xe) hN hi hx (he W pn xe tk) hs hf).impT ?_
  rintro E σ H ⟨H0, B0, ln, Γ, B, env, out, s, em, q⟩
  obtain ⟨r, em1, em⟩ := bind_some em
  refine ⟨H0, B0, ln, Γ, B, env, r, s, em1, ?_⟩
  cases r with
  | ok o e1 =>
    have em : (if i < e1.length then some (OutX.ok (.nx (e1.set i (.has o)))) else none) = some out := em
    split at em
    · rename_i hi
      cases em
      exact fun v B' H' x1 x2 s' => q B' H' _ x1 (s'.store hi)
    · cases em
  | ex x p e1 => cases em; exact fun C d B' H' hc x1 hp s' => q C d B' H' σ hc x1 hp s'
end
def outDX : OutX → Option RX
  | .ok o => (outD o).map .ret
  | .ex x p _ => some (.exc x p)
def runX (n N : Nat) (m : SMX) (ds : List D) : Option RX := if ds.length = n then (m (startE N ds)).bind outDX else none
theorem runX_eq {n N : Nat} {m : SMX} {ds : List D} (h : ds.length = n) : runX n N m ds = (m (startE N ds)).bind outDX := by
  unfold runX; rw [if_pos h]
theorem runX_len {n N : Nat} {m : SMX} : ∀ ds d, runX n N m ds = some d → ds.length = n := fun ds d h => by
  unfold runX at h
  split at h
  · assumption
  · cases h
theorem takes0N {X : Cx} : L2N.Takes X (fun _ _ _ _ => False) := fun _ _ x => by
  obtain ⟨_, _, _, _, _, _, _, _, _, _, _, _, _, _, _, _, z⟩ := x
  exact z.elim
theorem fun_okN {P : Program} {w : World} {K : PySem.W.Frag} {mg : Str → Option Value} {base : Heap} {x qual : Str} {st : Stmt} {f : Addr} {fd : FuncData} {N ps : List Str} {k : Nat} {sp : Sp} (F : Fun K x qual st f fd) (S : FnScope N ps (defScope st)) (len : ∀ vs H Q E, sp vs H Q E → vs.length = ps.length)
    (hbody : ∀ (cdv : Value) (A : Around) (outer : List Env) (s : Shared) (H : Hp) (vs : List V) (Q : VK) (E : XK), Room k (A.deeper (envOfC qual (defScope st) s.heap.objs.size f cdv)) → sp vs H Q E →
      ∃ t, PSs (cxOf (L2N.CX P w) P w K mg base N qual (defScope st) f cdv A outer s H E) (defBody st) t ∧ t { nx := fun _ H' => Q .non H', rt := Q } (start N vs) H) : FnOk P w K mg base (L2N.CX P w) (k + 1) f fd ps sp := by
  obtain ⟨oc, od, kV, doc, pm, an, cdv, ct, osl, rfl, lk, hcd⟩ := F.ex
  exact fn_of lk hcd S len fun A outer s H vs Q E hr hsp => hbody cdv A outer s H vs Q E hr hsp
theorem def_okX {P : Program} {w : World} {K : PySem.W.Frag} {mg : Str → Option Value} {base : Heap} {x qual : Str} {st : Stmt} {f : Addr} {fd : FuncData} {N ps : List Str} {k : Nat} {m : SMX} (F : Fun K x qual st f fd) (S : FnScope N ps (defScope st)) (hm : mg x = some (.ref f)) (hb : Binds K fd ps [])
    (hbody : ∀ (cdv : Value) (A : Around) (outer : List Env) (s : Shared) (H : Hp) (E : XK), Room k (A.deeper (envOfC qual (defScope st) s.heap.objs.size f cdv)) → QSsX (cxOf (L2N.CX P w) P w K mg base N qual (defScope st) f cdv A outer s H E) (defBody st) m) :
    DefOkX P w K mg base (k + 1) x ps.length (runX ps.length N.length m) := by
  refine ⟨runX_len, f, fd, ps, fun_okN F S (fun vs H Q E h => ?_) (fun cdv A outer s H vs Q E hr h => ?_), hm, F.kp, hb⟩
  · obtain ⟨B, ds, d, _, r, hn, _⟩ := h
    rw [← r.len]; exact hn
  · obtain ⟨B, ds, d, e, r, hn, em, q⟩ := h
    refine ⟨_, hbody cdv A outer s H E hr (fun cls d _ H => E cls d H) [] _ (L2N.takes_of rfl rfl rfl rfl) (passes_of rfl), ?_⟩
    unfold runX at em
    rw [if_pos hn] at em
    obtain ⟨out, em1, em⟩ := bind_some em
    refine ⟨H, B, fun _ => none, [], B, startE N.length ds, out, ⟨Wd.refl e, ?_, ?_⟩, em1, ?_⟩
    · unfold startE L2.start
      rw [r.len]
      exact sg_start _ r.len
    · unfold startE L2.start
      rw [r.len, List.append_nil]
      exact roots_start _ r
    · cases out with
      | ok o =>
        cases o with
        | nx e' => cases em; exact fun B' H' σ' e2 s' => q .non B' H' s'.w (by rw [Rp])
        | rt d' => cases em; exact fun v B' H' e2 w' r' => q v B' H' w' r'
        | bk e' => cases em
        | ct e' => cases em
      | ex x p e' => cases em; exact fun C d B' H' σ' hc e2 hp s' => q C d B' H' hc s'.w hp
end Q

set_option Elab.async false
set_option linter.all false
set_option maxRecDepth 100000
set_option maxHeartbeats 1000000
namespace Q
open PySem L2 PyProof.Rows
/-! ### try: body, except x as n: suite (one own error, y, can come) -/
def clrO (i : Nat) : Out → Out
  | .nx e => .nx (e.set i .un)
  | .bk e => .bk (e.set i .un)
  | .ct e => .ct (e.set i .un)
  | .rt d => .rt d
open Classical in
noncomputable def sTry (mb : SMX) (i : Nat) (y : Str) (ms : Addr → Option (Str × D) → SM) : SM := fun env => (mb env).bind fun r => match r with
  | .ok o => some o
  | .ex x p e => if h : x = y ∧ ∃ out, ∀ a, ms a p (e.set i (.adr a)) = some out then some (clrO i (Classical.choose h.2)) else none
theorem sTry_ok {mb : SMX} {i : Nat} {y : Str} {ms : Addr → Option (Str × D) → SM} {env : En} {o : Out} (h : mb env = some (.ok o)) : sTry mb i y ms env = some o := by
  unfold sTry; rw [h]; rfl
open Classical in
theorem sTry_ex {mb : SMX} {i : Nat} {y : Str} {ms : Addr → Option (Str × D) → SM} {env e : En} {p : Option (Str × D)} {out : Out} (h : mb env = some (.ex y p e)) (hs : ∀ a, ms a p (e.set i (.adr a)) = some out) : sTry mb i y ms env = some (clrO i out) := by
  unfold sTry
  rw [h, Option.bind_some]
  have hx : y = y ∧ ∃ out, ∀ a, ms a p (e.set i (.adr a)) = some out := ⟨rfl, out, hs⟩
  show (if h : y = y ∧ ∃ out, ∀ a, ms a p (e.set i (.adr a)) = some out then some (clrO i (Classical.choose h.2)) else none) = _
  rw [dif_pos hx]
  have h2 := Classical.choose_spec hx.2 0
  rw [hs 0] at h2
  rw [← Option.some.inj h2]
section
variable {K : PySem.W.Frag} {H0 B0 B H : Hp} {ln : Nat → Option V} {Γ : List (O × V)} {σ : L2.St} {env : En}
theorem Stt.setAdr (s : Stt K H0 B0 ln Γ B H σ env) (i : Nat) (a : Addr) : Stt K H0 B0 ln Γ B H (σ.set i (some (.ref a))) (env.set i (.adr a)) := by
  by_cases hi : i < env.length
  · have hs : i < σ.length := by rw [← s.sg.len]; exact hi
    obtain ⟨R, p, q⟩ := roots_at (List.getElem?_eq_getElem hi) (List.getElem?_eq_getElem hs)
    refine ⟨s.w, ⟨by rw [List.length_set, List.length_set]; exact s.sg.len, fun j o e => ?_, fun j e => ?_, fun j b e => ?_⟩, ?_⟩
    · by_cases h : i = j
      · subst h
        rw [List.getElem?_set_self hi] at e; cases e
      · rw [List.getElem?_set_ne h] at e
        obtain ⟨v, hv⟩ := s.sg.has j o e
        exact ⟨v, by rw [List.getElem?_set_ne h]; exact hv⟩
    · by_cases h : i = j
      · subst h
        rw [List.getElem?_set_self hi] at e; cases e
      · rw [List.getElem?_set_ne h] at e
        obtain ⟨v, hv, hv2⟩ := s.sg.lent j e
        exact ⟨v, hv, by rw [List.getElem?_set_ne h]; exact hv2⟩
    · by_cases h : i = j
      · subst h
        rw [List.getElem?_set_self hi] at e; cases e
        rw [List.getElem?_set_self hs]
      · rw [List.getElem?_set_ne h] at e
        rw [List.getElem?_set_ne h]
        exact s.sg.adr j b e
    · have q1 := q (.adr a) (some (.ref a))
      have e0 : rt (.adr a) (some (V.ref a)) = ([] : List (O × V)) := rfl
      rw [e0, List.nil_append] at q1
      have ow : Own K H0 B H [] (rt env[i] σ[i] ++ (R ++ Γ)) := by
        rw [← List.append_assoc]
        exact s.own.perm (p.append_right _)
      exact ow.drop.perm (q1.symm.append_right _)
  · rw [set_out hi, set_out (by rw [← s.sg.len]; exact hi)]
    exact s
end
/-- the error y is caught where the clause names x -/
def CaughtBy (X : Cx) (y x : Str) : Prop := ∃ c, Names X x c ∧ ∀ C, X.mg y = some (.ref C) → PySem.W.exmOne X.K (.ref C) c = some true
open Classical in
theorem qs_try {X : Cx} {x n y : Str} {i : Nat} {body suite : List Stmt} {b₀ : Stmt} {np pos pos' : Pos} {mb : SMX} {ms : Addr → Option (Str × D) → SM} (hs : X.stack = X.env :: X.outer) (hf : X.env.frame = some X.env.locals) (hN : X.N.Nodup) (hi : X.N[i]? = some n) (hln : X.env.kindOf n = some .local)
    (hc : CaughtBy X y x) (hb : QSsX X body mb)
    (hsu : ∀ (a : Addr) (oe : Obj) (C : Addr) (d : Option Addr) (pn : List (Addr × Obj)) (p : Option (Str × D)), X.mg y = some (.ref C) → L2N.Zn (.ref C) d oe → (∃ vs, oe.data = .fields vs) → (p = none → d = none) → QSs (X.suite a ((a, oe) :: pn)) (b₀ :: suite) (ms a p)) :
    QS X (.Try body [.ExceptHandler (some (.Name x np)) (some n) (b₀ :: suite) pos'] [] [] pos) (sTry mb i y ms) := by
  obtain ⟨c, hnm, hcc⟩ := hc
  refine ⟨_, L2N.ps_try_as (i := i) (tb := tSX X.K X.mg mb)
    (ts := fun a cls d E σ H => ∃ C p H0 B0 ln Γ B env out, cls = .ref C ∧ X.mg y = some (.ref C) ∧ Pay X.K B H p d ∧ Stt X.K H0 B0 ln Γ B H σ env ∧ ms a p env = some out ∧ Post X.K H0 B0 ln Γ B E out)
    hs hf hN hi hln hnm takes0N hb (fun a oe cls d pn hz hfl => ⟨fun pins s σ H D I h => ?_⟩), ?_⟩
  · obtain ⟨C, p, H0, B0, ln, Γ, B, env, out, rfl, hC, hp, st, em, q⟩ := h
    obtain ⟨t, h1, h2⟩ := hsu a oe C d pn p hC hz hfl (fun e => by subst e; exact hp)
    exact h1.run pins s σ H D I (h2 H0 B0 ln Γ B H σ env st out em D q)
  · intro H0 B0 ln Γ B H σ env s out em E q
    obtain ⟨r, em1, em⟩ := bind_some em
    refine ⟨H0, B0, ln, Γ, B, env, r, s, em1, ?_⟩
    cases r with
    | ok o => cases em; exact q
    | ex z p e =>
      have em : (if h : z = y ∧ ∃ out, ∀ a, ms a p (e.set i (.adr a)) = some out then some (clrO i (Classical.choose h.2)) else none) = some out := em
      split at em
      · rename_i hx
        obtain ⟨rfl, hx2⟩ := hx
        have hch := Classical.choose_spec hx2
        generalize Classical.choose hx2 = o at *
        cases em
        intro C d B' H' σ' hC e1 hp s'
        refine ⟨true, hcc C hC, fun _ a ha => ⟨C, p, H0, B0, ln, Γ, B', e.set i (.adr a), o, rfl, hC, hp, s'.setAdr i a, hch a, ?_⟩, fun h => nomatch h⟩
        cases o with
        | nx e2 => exact fun B2 H2 σ2 e3 s2 => q B2 H2 _ (e1.trans e3) (s2.un i none)
        | bk e2 => exact fun B2 H2 σ2 e3 s2 => q B2 H2 _ (e1.trans e3) (s2.un i none)
        | ct e2 => exact fun B2 H2 σ2 e3 s2 => q B2 H2 _ (e1.trans e3) (s2.un i none)
        | rt d2 => exact fun v B2 H2 e3 w2 r2 => q v B2 H2 (e1.trans e3) w2 r2
      · cases em
/-! ### in the suite: isinstance of the error -/
def mAdrB (a : Addr) (i : Nat) (b : Bool) : EM O := fun env => match env[i]? with
  | some (.adr a') => if a' = a then some (.fz (.bl b), env) else none
  | _ => none
@[simp] theorem e_mAdrB {a : Addr} {i : Nat} {b : Bool} {env : En} : mAdrB a i b env = match env[i]? with
  | some (.adr a') => if a' = a then some (.fz (.bl b), env) else none
  | _ => none := rfl
theorem qe_isE {X : Cx} {a D : Addr} {oe : Obj} {pn : List (Addr × Obj)} {i : Nat} {n x : Str} {b : Bool} {p px py pos : Pos} {c : V} {cv : Value} (C : ExcC X.K D) (hz : L2N.Zn (.ref D) none oe) (hf : ∃ vs, oe.data = .fields vs) (hg : Gl X "isinstance") (hm : X.mg "isinstance" = none)
    (hN : X.N[i]? = some n) (hx : PE (X.suite a ((a, oe) :: pn)) (.Name x py) (tC c)) (hc : ∀ u, RelV c u → u = cv) (hk : PySem.W.kitOne X.K (.ref D) cv = some b)
    (hv : L2.Vis X.env.scope n := by first | exact Or.inl rfl | exact Or.inr (Or.inl rfl) | exact Or.inr (Or.inr rfl)) (hd : (n == ("__debug__" : Str)) = false := by decide) (hcd : (n == ("__classdict__" : Str)) = false := by decide)
    (he1 : starEach [.Name n px, .Name x py] X.env = (false, eval (.Name n px) X.env) :: starEach [.Name x py] X.env := by rfl) (he2 : starEach [.Name x py] X.env = (false, eval (.Name x py) X.env) :: starEach [] X.env := by rfl) (hpl : (backTo pos (starEach [.Name x py] X.env)).any (·.1) = false := by rfl) :
    QE (X.suite a ((a, oe) :: pn)) (.Call (.Name "isinstance" p) [.Name n px, .Name x py] [] pos) (mAdrB a i b) := by
  refine ⟨_, pe_callB (X := X.suite a ((a, oe) :: pn)) (call_isE C hz.zc hf) hg hm (by decide +kernel) (pa_cons (pe_var (X := X.suite a ((a, oe) :: pn)) hN hv hd hcd) (pa_cons hx pa_nil he2) he1) (by decide) (by decide) he1 hpl, fun H0 B0 ln Γ B H σ env s o env' em Q q => ?_⟩
  replace em : (match env[i]? with | some (.adr a') => if a' = a then some (O.fz (.bl b), env) else none | _ => none) = some (o, env') := em
  cases ha : env[i]? with
  | none => rw [ha] at em; cases em
  | some sl =>
    rw [ha] at em
    cases sl with
    | adr a' =>
      replace em : (if a' = a then some (O.fz (.bl b), env) else none) = some (o, env') := em
      by_cases h : a' = a
      · rw [if_pos h] at em
        cases em
        subst h
        exact ⟨.ref a', s.sg.adr i a' ha, c, cv, b, rfl, hc, hk, q _ B H (Ex.refl _) (Ex.refl _) (s.push (by rw [Rp]))⟩
      · rw [if_neg h] at em; cases em
    | _ => cases em
/-! facts about own error classes, as the generator asks them -/
def CbOk (K : PySem.W.Frag) (mg : Str → Option Value) (y x : Str) : Prop := ∃ c, mg x = some c ∧ ∀ C, mg y = some (.ref C) → PySem.W.exmOne K (.ref C) c = some true
theorem caught_of {X : Cx} {y x : Str} (h : CbOk X.K X.mg y x) (hg : Gl X x := by rfl) (hdb : (x == ("__debug__" : Str)) = false := by decide) : CaughtBy X y x := by
  obtain ⟨c, hm, h2⟩ := h
  exact ⟨c, ⟨hg, hdb, .inl hm⟩, h2⟩
def IsOk (K : PySem.W.Frag) (mg : Str → Option Value) (y x : Str) (b : Bool) : Prop := ∀ C, mg y = some (.ref C) → ExcC K C ∧ ∃ (cv : Value) (c : V), RelV c cv ∧ (∀ u, RelV c u → u = cv) ∧ (mg x = some cv ∨ (mg x = none ∧ bootBuiltins x = some cv ∧ x ≠ "__name__")) ∧ PySem.W.kitOne K (.ref C) cv = some b
theorem isOk_own {K : PySem.W.Frag} {mg : Str → Option Value} {y x : Str} {b : Bool} {C c : Addr} (hy : mg y = some (.ref C)) (hx : mg x = some (.ref c)) (e : ExcC K C) (k : PySem.W.kitOne K (.ref C) (.ref c) = some b) : IsOk K mg y x b := fun C' h => by
  rw [hy] at h
  cases h
  exact ⟨e, .ref c, .ref c, rfl, fun u r => r, .inl hx, k⟩
theorem isOk_typ {K : PySem.W.Frag} {mg : Str → Option Value} {y x : Str} {b : Bool} {C : Addr} {t : String} (hy : mg y = some (.ref C)) (hx : mg x = none) (hb : bootBuiltins x = some (.type t)) (hn : x ≠ "__name__") (e : ExcC K C) (k : PySem.W.kitOne K (.ref C) (.type t) = some b) : IsOk K mg y x b := fun C' h => by
  rw [hy] at h
  cases h
  exact ⟨e, .type t, .ty t, rfl, fun u r => r, .inr ⟨hx, hb, hn⟩, k⟩
theorem cbOk_own {K : PySem.W.Frag} {mg : Str → Option Value} {y x : Str} {C c : Addr} (hy : mg y = some (.ref C)) (hx : mg x = some (.ref c)) (k : PySem.W.exmOne K (.ref C) (.ref c) = some true) : CbOk K mg y x := ⟨.ref c, hx, fun C' h => by
  rw [hy] at h
  cases h
  exact k⟩
theorem qe_isOwn {X : Cx} {a C : Addr} {oe : Obj} {pn : List (Addr × Obj)} {i : Nat} {n x y : Str} {b : Bool} {p px py pos : Pos} (F : IsOk X.K X.mg y x b) (hC : X.mg y = some (.ref C)) (hz : L2N.Zn (.ref C) none oe) (hf : ∃ vs, oe.data = .fields vs) (hg : Gl X "isinstance") (hm : X.mg "isinstance" = none)
    (hN : X.N[i]? = some n) (hgx : Gl X x := by rfl) (hdx : (x == ("__debug__" : Str)) = false := by decide)
    (hv : L2.Vis X.env.scope n := by first | exact Or.inl rfl | exact Or.inr (Or.inl rfl) | exact Or.inr (Or.inr rfl)) (hd : (n == ("__debug__" : Str)) = false := by decide) (hcd : (n == ("__classdict__" : Str)) = false := by decide)
    (he1 : starEach [.Name n px, .Name x py] X.env = (false, eval (.Name n px) X.env) :: starEach [.Name x py] X.env := by rfl) (he2 : starEach [.Name x py] X.env = (false, eval (.Name x py) X.env) :: starEach [] X.env := by rfl) (hpl : (backTo pos (starEach [.Name x py] X.env)).any (·.1) = false := by rfl) :
    QE (X.suite a ((a, oe) :: pn)) (.Call (.Name "isinstance" p) [.Name n px, .Name x py] [] pos) (mAdrB a i b) := by
  obtain ⟨e, cv, c, r, h, hx, k⟩ := F C hC
  refine qe_isE e hz hf hg hm hN (c := c) (cv := cv) ?_ h k hv hd hcd he1 he2 hpl
  rcases hx with hx | ⟨hx, hb, hn⟩
  · exact pe_glob (X := X.suite a ((a, oe) :: pn)) hgx hx r hdx
  · exact pe_bltn (X := X.suite a ((a, oe) :: pn)) hgx hx hb r hn hdx
def msN (m : SM) : Option (Str × D) → SM
  | none => m
  | some _ => fun _ => none
theorem qss_msN {X : Cx} {sts : List Stmt} {m : SM} {p : Option (Str × D)} (h : p = none → QSs X sts m) : QSs X sts (msN m p) := by
  cases p with
  | none => exact h rfl
  | some q => exact ⟨fun _ _ _ => False, ⟨fun _ _ _ _ _ _ h => h.elim⟩, fun H0 B0 ln Γ B H σ env s out em => by cases em⟩
theorem e_neS {x y : Str} (hx : PyData.strOk x = true) (hy : PyData.strOk y = true) : oNe (.fz (.str x)) (.fz (.str y)) = some (.fz (.bl (!(x == y)))) := by
  simp -implicitDefEqProofs [oNe, oEqB, D.py, O.frz, SeqAt.shaped, PyData.canLay0, PyData.depth, PyData.eqv, hx, hy]
@[simp] theorem e_sOkX {m : SM} {env : En} : sOkX m env = (m env).map OutX.ok := rfl
@[simp] theorem e_sSeqX {a b : SMX} {env : En} : sSeqX a b env = (a env).bind fun out => match out with
  | .ok (.nx e) => b e
  | .ok (.rt d) => some (.ok (.rt d))
  | .ok (.bk e) => some (.ok (.bk e))
  | .ok (.ct e) => some (.ok (.ct e))
  | .ex x p e => some (.ex x p e) := rfl
@[simp] theorem e_sIfX {c : EM Bool} {a b : SMX} {env : En} : sIfX c a b env = (c env).bind fun p => if p.1 = true then a p.2 else b p.2 := rfl
@[simp] theorem e_sRaiseX {x : Str} {env : En} : sRaiseX x env = some (.ex x none env) := rfl
@[simp] theorem e_sDropX {m : EMX} {env : En} : sDropX m env = (m env).map fun r => match r with
  | .ok _ e => .ok (.nx e)
  | .ex x p e => .ex x p e := rfl
@[simp] theorem e_sRetX {m : EMX} {env : En} : sRetX m env = (m env).map fun r => match r with
  | .ok o _ => .ok (.rt o.frz)
  | .ex x p e => .ex x p e := rfl
@[simp] theorem e_sAsgX {i : Nat} {m : EMX} {env : En} : sAsgX i m env = (m env).bind fun r => match r with
  | .ok o e => if i < e.length then some (.ok (.nx (e.set i (.has o)))) else none
  | .ex x p e => some (.ex x p e) := rfl
@[simp] theorem e_mOk {m : EM O} {env : En} : mOk m env = (m env).map fun p => .ok p.1 p.2 := rfl
@[simp] theorem e_aNil {env : En} : aNil env = some (.ok [] env) := rfl
@[simp] theorem e_aCons {a : EMX} {r : AMX} {env : En} : aCons a r env = (a env).bind fun p => match p with
  | .ok o e => (r e).map fun q => match q with
    | .ok os e2 => .ok (o :: os) e2
    | .ex x p e2 => .ex x p e2
  | .ex x p e => some (.ex x p e) := rfl
@[simp] theorem e_mTupX {m : AMX} {env : En} : mTupX m env = (m env).bind fun p => match p with
  | .ok os e => if os.length ≤ sizeLine then some (.ok (.fz (.tup (O.frzs os))) e) else none
  | .ex x p e => some (.ex x p e) := rfl
@[simp] theorem e_mCallX {f : List D → Option RX} {mA : EM (List O)} {env : En} : mCallX f mA env = (mA env).bind fun p => (f (O.frzs p.1)).map fun r => match r with
  | .ret d => .ok (.fz d) p.2
  | .exc x pl => .ex x pl p.2 := rfl
@[simp] theorem e_outDXo {o : Out} : outDX (.ok o) = (outD o).map .ret := rfl
@[simp] theorem e_outDXe {x : Str} {p : Option (Str × D)} {e : En} : outDX (.ex x p e) = some (.exc x p) := rfl
@[simp] theorem e_msN {m : SM} : msN m none = m := rfl
end Q

set_option Elab.async false
set_option linter.all false
set_option maxRecDepth 100000
set_option maxHeartbeats 1000000
namespace Q
open PySem L2 L2H PyProof.Rows
/-! ### defs that are called in an except suite with the error in hand -/
abbrev PinT := Addr × Obj
structure FnHp (P : Program) (w : World) (K : PySem.W.Frag) (mg : Str → Option Value) (base : Heap) (CX : CXT) (k : Nat) (f : Addr) (fd : FuncData) (ps : List Str) (sp : PinT → Sp) : Prop where
  len : ∀ p vs H Q E, sp p vs H Q E → vs.length = ps.length
  run : ∀ (A : Around) (outer : List Env) (s : Shared) (H : Hp) (args : Args) (us : List Value) (vs : List V) (Q : VK) (E : XK) (p : PinT), RoomH k A → Hot1 A p → PinOk outer H s p → Env0 P w K mg base A outer s H → BindsTo s fd args (ps.zip us) → Vals vs us → sp p vs H Q E →
    codeAny (model P w) A (.call (.ref f) args) (CR CX outer P w H s Q E) s
theorem fn_ofHp {CX : CXT} {P : Program} {w : World} {K : PySem.W.Frag} {mg : Str → Option Value} {base : Heap} {k : Nat} {f : Addr} {name qual : Str} {params : Arguments} {body : List Stmt} {scope : Scope} {dV kV doc pm cdv ct oc : Value} {an od : Option Addr}
    {osl : Array (Option Value)} {N ps : List Str} {sp : PinT → Sp} (lk : K.lookup f = some ⟨oc, od, .func (PySem.W.fnOf name qual params body scope dV kV doc pm an cdv ct), osl⟩) (hcd : PySem.W.codeIn K cdv qual = true) (S : FnScope N ps scope)
    (len : ∀ p vs H Q E, sp p vs H Q E → vs.length = ps.length)
    (hbody : ∀ (A : Around) (outer : List Env) (s : Shared) (H : Hp) (vs : List V) (Q : VK) (E : XK) (p : PinT), Hot1 A p → RoomH k (A.deeper (envOfC qual scope s.heap.objs.size f cdv)) → sp p vs H Q E →
      ∃ t, PSs (cxH CX P w K mg base N qual scope f cdv A outer s H E p) body t ∧ t { nx := fun _ H' => Q .non H', rt := Q } (L2.start N vs) H) :
    FnHp P w K mg base CX (k + 1) f (PySem.W.fnOf name qual params body scope dV kV doc pm an cdv ct) ps sp := by
  refine ⟨len, fun A outer s H args us vs Q E p hr hot hpin e0 hb r hsp => ?_⟩
  have hl := len _ _ _ _ _ hsp
  have KX : K.In s.heap := e0.mod.kin.keeps fun b o e => (e0.bs b o e).1
  have lim : s.heap.NoLimit := e0.mod.nolimit.keeps fun b o e => (e0.bs b o e).1
  have hkind : ∀ y ∈ ps.zip us, scope.names.lookup y.1 = some .local ∨ (scope.names.lookup y.1 = some .cell ∧ ((cellsFrom (s.heap.objs.size + 1) scope.names []).lookup y.1).isSome = true) := fun ⟨n, v⟩ hy => by
    rcases S.par n (List.of_mem_zip hy).1 with q | q
    · exact .inl q
    · exact .inr ⟨q, PySem.W.cellsFrom_some _ _ _ (.inl q)⟩
  refine codeAny_call_function hr.depth (KX _ _ lk) rfl S.co S.gen rfl (PySem.W.codeRec_of KX hcd) (hb _ _ _ _ ?_)
  refine wpAny_newFunctionEnv_cells S.kind hkind fun env he s1 x => ?_
  subst he
  refine ⟨lim.keeps x.toInCall.keep, codeAny_func ?_⟩
  obtain ⟨t, ht, hq⟩ := hbody A outer s H vs Q E p hot (hr.deeper _) hsp
  have I : Inv (cxH CX P w K mg base N qual scope f cdv A outer s H E p) [] (L2.start N vs) H s1 := inv_startH S hpin e0 hl r x
  refine wpAny_mono (ht.run [] s1 (L2.start N vs) H _ I hq) (fun fl s' hs => ?_) fun e s' hs => hs
  have fin : ∀ {σ' : L2.St} {H' : Hp} {v : V} {u : Value}, Inv (cxH CX P w K mg base N qual scope f cdv A outer s H E p) [] σ' H' s' → RelV v u → Q v H' → CE outer P w H s Q u s' :=
    fun {σ' H' v u} J rv q => ⟨v, H', J.os, J.bare, J.base, J.hok, rv, q⟩
  cases fl with
  | ret u =>
    obtain ⟨v, σ', H', J, rv, q⟩ := hs
    exact fin J rv q
  | next =>
    obtain ⟨σ', H', J, q⟩ := hs
    exact fin (v := V.non) (u := Value.none) J rfl q
  | brk =>
    obtain ⟨_, _, _, q⟩ := hs
    exact False.elim q
  | cont =>
    obtain ⟨_, _, _, q⟩ := hs
    exact False.elim q
/-- what such a def tells of the error y (it is handed the error alone) -/
def spH (K : PySem.W.Frag) (mg : Str → Option Value) (y : Str) (r : Option D) : PinT → Sp := fun p vs H Q _ => ∃ C d B, mg y = some (.ref C) ∧ vs = [.ref p.1] ∧ L2N.Zn (.ref C) none p.2 ∧ (∃ xs, p.2.data = .fields xs) ∧ Ex B H ∧ r = some d ∧ ∀ v B' H', Wd H B B' H' → Rp K B' d v → Q v H'
structure DefOkH (P : Program) (w : World) (K : PySem.W.Frag) (mg : Str → Option Value) (base : Heap) (k : Nat) (x y : Str) (r : Option D) : Prop where
  ex : ∃ (f : Addr) (fd : FuncData) (ps : List Str), FnHp P w K mg base CX0 k f fd ps (spH K mg y r) ∧ mg x = some (.ref f) ∧ PySem.W.keepIn K (.ref f) = true ∧ Binds K fd ps []
def startH (N : Nat) (a : Addr) : En := .adr a :: List.replicate (N - 1) Sl.un
def runH (N : Nat) (m : Addr → SM) (d : D) : Prop := ∀ a, (m a (startH N a)).bind outD = some d
open Classical in
noncomputable def valH (N : Nat) (m : Addr → SM) : Option D := if h : ∃ d, runH N m d then some (Classical.choose h) else none
open Classical in
theorem valH_some {N : Nat} {m : Addr → SM} {d : D} (h : valH N m = some d) : runH N m d := by
  unfold valH at h
  split at h
  · rename_i hx
    have := Classical.choose_spec hx
    cases h
    exact this
  · cases h
open Classical in
theorem valH_of {N : Nat} {m : Addr → SM} {d : D} (h : runH N m d) : valH N m = some d := by
  have hx : ∃ d, runH N m d := ⟨d, h⟩
  unfold valH
  rw [dif_pos hx]
  have h2 := Classical.choose_spec hx 0
  rw [h 0] at h2
  exact h2.symm
theorem cxH_nox {CX : CXT} {P : Program} {w : World} {K : PySem.W.Frag} {mg : Str → Option Value} {base : Heap} {N : List Str} {qual : Str} {scope : Scope} {f : Addr} {cd : Value} {A : Around} {outer : List Env} {s : Shared} {H : Hp} {E : XK} {p : PinT} : True := trivial
theorem def_okH {P : Program} {w : World} {K : PySem.W.Frag} {mg : Str → Option Value} {base : Heap} {x y qual : Str} {st : Stmt} {f : Addr} {fd : FuncData} {N : List Str} {e : Str} {k : Nat} {m : Addr → SM} (F : Fun K x qual st f fd) (S : FnScope N [e] (defScope st)) (hm : mg x = some (.ref f)) (hb : Binds K fd [e] [])
    (hbody : ∀ (cdv : Value) (A : Around) (outer : List Env) (s : Shared) (H : Hp) (E : XK) (p : PinT) (C : Addr), Hot1 A p → RoomH k (A.deeper (envOfC qual (defScope st) s.heap.objs.size f cdv)) → mg y = some (.ref C) → L2N.Zn (.ref C) none p.2 → (∃ xs, p.2.data = .fields xs) →
      QSs (cxH CX0 P w K mg base N qual (defScope st) f cdv A outer s H E p).nox (defBody st) (m p.1)) :
    DefOkH P w K mg base (k + 1) x y (valH N.length m) := by
  obtain ⟨oc, od, kV, doc, pm, an, cdv, ct, osl, rfl, lk, hcd⟩ := F.ex
  refine ⟨f, _, [e], fn_ofHp lk hcd S (fun p vs H Q E h => ?_) (fun A outer s H vs Q E p hot hr h => ?_), hm, F.kp, hb⟩
  · obtain ⟨C, d, B, _, rfl, _⟩ := h
    rfl
  · obtain ⟨C, d, B, hy, rfl, hz, hf, e1, hr1, q⟩ := h
    obtain ⟨t, h1, h2⟩ := hbody cdv A outer s H E p C hot hr hy hz hf
    refine ⟨t, h1.nox, ?_⟩
    have hv := valH_some hr1 p.1
    obtain ⟨out, em1, em⟩ := bind_some hv
    have st0 : Stt K H B (fun _ => none) [] B H (L2.start N [.ref p.1]) (startH N.length p.1) := by
      have hN : 1 ≤ N.length := by
        have := S.pre
        have h3 := congrArg List.length this
        rw [List.length_take] at h3
        simp only [List.length_singleton] at h3
        omega
      refine ⟨Wd.refl e1, ⟨?_, fun i o h => ?_, fun i h => ?_, fun i a h => ?_⟩, ?_⟩
      · unfold startH L2.start; simp <;> omega
      · unfold startH at h
        cases i with
        | zero => cases h
        | succ i =>
          rw [List.getElem?_cons_succ, List.getElem?_replicate] at h
          split at h <;> cases h
      · unfold startH at h
        cases i with
        | zero => cases h
        | succ i =>
          rw [List.getElem?_cons_succ, List.getElem?_replicate] at h
          split at h <;> cases h
      · unfold startH at h
        cases i with
        | zero => cases h; rfl
        | succ i =>
          rw [List.getElem?_cons_succ, List.getElem?_replicate] at h
          split at h <;> cases h
      · have er : ∀ n : Nat, roots (List.replicate n Sl.un) (List.replicate n none) = [] := fun n => by
          induction n with
          | zero => rfl
          | succ n ih => exact ih
        unfold startH L2.start
        rw [List.append_nil]
        show Own K H B H [] (rt (.adr p.1) (some (.ref p.1)) ++ roots (List.replicate (N.length - 1) Sl.un) (List.replicate (N.length - 1) none))
        rw [er]
        exact Own.nil
    refine h2 H B (fun _ => none) [] B H _ (startH N.length p.1) st0 out em1 _ ?_
    cases out with
    | nx e' => cases em; exact fun B' H' σ' e2 s' => q .non B' H' s'.w (by rw [Rp])
    | rt d' => cases em; exact fun v B' H' e2 w' r' => q v B' H' w' r'
    | bk e' => cases em
    | ct e' => cases em
/-- such a call in the suite -/
def mCallH (a : Addr) (i : Nat) (r : Option D) : EM O := fun env => match env[i]? with
  | some (.adr a') => if a' = a then r.map fun d => (.fz d, env) else none
  | _ => none
@[simp] theorem e_mCallH {a : Addr} {i : Nat} {r : Option D} {env : En} : mCallH a i r env = match env[i]? with
  | some (.adr a') => if a' = a then r.map fun d => (.fz d, env) else none
  | _ => none := rfl
theorem run_fnHp {X : Cx} {k : Nat} {f : Addr} {fd : FuncData} {ps : List Str} {sp : PinT → Sp} {pins : List (Addr × Obj)} {σ : L2.St} {H : Hp} {s : Shared} {Q : VK} {us : List Value} {vs : List V} {p : PinT} (F : FnHp X.prog X.w X.K X.mg X.base CX0 k f fd ps sp) (hr : RoomH k X.A) (hot : Hot1 X.A p) (hp : p ∈ X.pn) (hb : Binds X.K fd ps [])
    (I : Inv X pins σ H s) (r : Vals vs us) (h : sp p vs H Q E0) : wpAny (model X.prog X.w) X.A (call (.ref f) us) (EP X pins σ Q) X.xe s := by
  have hl : us.length = ps.length := by rw [← r.length]; exact F.len _ _ _ _ _ h
  have b := hb s us I.kIn (by rw [List.append_nil]; exact hl)
  rw [List.append_nil] at b
  have P1 := I.pin p (List.mem_append_left _ hp)
  have hpin : PinOk X.stack H s p := ⟨P1.1, P1.2.1, fun hm => (List.mem_cons.mp (I.stkSub p.1 hm)).elim P1.2.2.1 P1.2.2.2.1, P1.2.2.2.2⟩
  refine wpAny_call (codeAny_mono (F.run X.A X.stack s H ⟨us, []⟩ us vs Q E0 p hr hot hpin I.env0 b r h) fun r s' hq => ?_)
  cases r with
  | error e => exact hq.elim
  | ok fl =>
    cases fl with
    | ret u => exact I.after hq
    | next => exact False.elim hq
    | brk => exact False.elim hq
    | cont => exact False.elim hq
theorem qe_callH {X : Cx} {a C : Addr} {oe : Obj} {pn : List (Addr × Obj)} {i k : Nat} {n x y : Str} {r : Option D} {p px pos : Pos} (G : DefOkH X.prog X.w X.K X.mg X.base k x y r) (hr : Room k X.A) (hC : X.mg y = some (.ref C)) (hz : L2N.Zn (.ref C) none oe) (hf : ∃ vs, oe.data = .fields vs)
    (hN : X.N[i]? = some n) (hgx : Gl X x := by rfl) (hdx : (x == ("__debug__" : Str)) = false := by decide)
    (hv : L2.Vis X.env.scope n := by first | exact Or.inl rfl | exact Or.inr (Or.inl rfl) | exact Or.inr (Or.inr rfl)) (hd : (n == ("__debug__" : Str)) = false := by decide) (hcd : (n == ("__classdict__" : Str)) = false := by decide)
    (he1 : starEach [.Name n px] X.env = (false, eval (.Name n px) X.env) :: starEach [] X.env := by rfl) (hpl : (backTo pos (starEach [] X.env)).any (·.1) = false := by rfl) :
    QE (X.suite a ((a, oe) :: pn)) (.Call (.Name x p) [.Name n px] [] pos) (mCallH a i r) := by
  obtain ⟨f, fd, ps, F, hm, hk, hb⟩ := G.ex
  have hot : Hot1 (X.suite a ((a, oe) :: pn)).A (a, oe) := ⟨rfl, by
    obtain ⟨xs, hx⟩ := hf
    exact ⟨xs, hx, hz.2.2 xs hx⟩⟩
  refine ⟨fun σ H Q => ∃ v, σ[i]? = some (some v) ∧ spH X.K X.mg y r (a, oe) [v] H Q E0, ⟨fun pins s σ H Q I ⟨v, hs, h⟩ => ?_⟩, fun H0 B0 ln Γ B H σ env s o env' em Q q => ?_⟩
  · refine wpAny_Call_Name_kw (ld_glob (X := X.suite a ((a, oe) :: pn)) I hgx hm ?_ hdx)
    have pa : PA (X.suite a ((a, oe) :: pn)) [.Name n px] (tCons (tVar i) tNil) := pa_cons (pe_var (X := X.suite a ((a, oe) :: pn)) hN hv hd hcd) pa_nil he1
    refine PySem.W.callWith_K (h₀ := X.base) I.ok.mod.kin hk (thn (pa.run pos pins s σ H (fun vs H1 => vs = [v] ∧ H1 = H) I ⟨v, hs, rfl, rfl⟩) fun us s1 ⟨vs, H1, I1, rr, ev, eH⟩ => ⟨I1.kIn, ?_⟩) he1 hpl
    subst ev eH
    exact run_fnHp (X := X.suite a ((a, oe) :: pn)) F ⟨hr.dp, hr.un⟩ hot List.mem_cons_self hb I1 rr h
  · replace em : (match env[i]? with | some (.adr a') => if a' = a then r.map fun d => (O.fz d, env) else none | _ => none) = some (o, env') := em
    cases ha : env[i]? with
    | none => rw [ha] at em; cases em
    | some sl =>
      rw [ha] at em
      cases sl with
      | adr a' =>
        replace em : (if a' = a then r.map fun d => (O.fz d, env) else none) = some (o, env') := em
        by_cases h : a' = a
        · rw [if_pos h] at em
          subst h
          obtain ⟨d, hd', em⟩ := Option.map_eq_some_iff.mp em
          cases em
          exact ⟨.ref a', s.sg.adr i a' ha, C, d, B, hC, rfl, hz, hf, s.w.bh, hd', fun v B' H' w r' => q v B' H' w.b0 w.h0 ((s.step w).push r')⟩
        · rw [if_neg h] at em; cases em
      | _ => cases em
/-! isinstance of the error in such a def -/
theorem call_isP {X : Cx} {a D : Addr} {oe : Obj} (C : ExcC X.K D) (hz : Zc (.ref D) none oe) (hf : ∃ vs, oe.data = .fields vs) (hp : (a, oe) ∈ X.pn) : CallR X (.builtin "isinstance") (rIsE X.K D a) := by
  intro pins s σ H xs us Q I r h
  obtain ⟨c, cv, b, rfl, hcv, e, q⟩ := h
  cases r with
  | cons rx rr =>
    cases rr with
    | cons rt rr =>
      cases rr
      cases rx
      have ec := hcv _ rt
      subst ec
      obtain ⟨hget, _⟩ := I.pin (a, oe) (List.mem_append.mpr (.inl hp))
      obtain ⟨vs, hv⟩ := hf
      have J : PySem.W.InstAt s.heap a oe D none := by
        obtain ⟨oc, od, oda, osl⟩ := oe
        obtain ⟨h1, h2⟩ := hz
        dsimp only at h1 h2 hv
        subst h1 h2 hv
        exact ⟨hget, rfl, rfl, trivial⟩
      exact PySem.W.kia_one (PySem.W.handS_kitx_exc C.hg C.hk C.hs C.hd C.ha C.hn C.ht C.hm) I.kIn J e (fun z => nomatch z) fun tk => ⟨.bl b, H, I.kept (t' := tk) fun _ _ z => z, rfl, q⟩
theorem qe_isPin {X : Cx} {a C : Addr} {oe : Obj} {i : Nat} {n x y : Str} {b : Bool} {p px py pos : Pos} (F : IsOk X.K X.mg y x b) (hC : X.mg y = some (.ref C)) (hz : L2N.Zn (.ref C) none oe) (hf : ∃ vs, oe.data = .fields vs) (hp : (a, oe) ∈ X.pn) (hg : Gl X "isinstance") (hm : X.mg "isinstance" = none)
    (hN : X.N[i]? = some n) (hgx : Gl X x := by rfl) (hdx : (x == ("__debug__" : Str)) = false := by decide)
    (hv : L2.Vis X.env.scope n := by first | exact Or.inl rfl | exact Or.inr (Or.inl rfl) | exact Or.inr (Or.inr rfl)) (hd : (n == ("__debug__" : Str)) = false := by decide) (hcd : (n == ("__classdict__" : Str)) = false := by decide)
    (he1 : starEach [.Name n px, .Name x py] X.env = (false, eval (.Name n px) X.env) :: starEach [.Name x py] X.env := by rfl) (he2 : starEach [.Name x py] X.env = (false, eval (.Name x py) X.env) :: starEach [] X.env := by rfl) (hpl : (backTo pos (starEach [.Name x py] X.env)).any (·.1) = false := by rfl) :
    QE X (.Call (.Name "isinstance" p) [.Name n px, .Name x py] [] pos) (mAdrB a i b) := by
  obtain ⟨e, cv, c, r, h, hx, k⟩ := F C hC
  have hx : PE X (.Name x py) (tC c) := by
    rcases hx with hx | ⟨hx, hb, hn⟩
    · exact pe_glob hgx hx r hdx
    · exact pe_bltn hgx hx hb r hn hdx
  refine ⟨_, pe_callB (call_isP e hz.zc hf hp) hg hm (by decide +kernel) (pa_cons (pe_var hN hv hd hcd) (pa_cons hx pa_nil he2) he1) (by decide) (by decide) he1 hpl, fun H0 B0 ln Γ B H σ env s o env' em Q q => ?_⟩
  replace em : (match env[i]? with | some (.adr a') => if a' = a then some (O.fz (.bl b), env) else none | _ => none) = some (o, env') := em
  cases ha : env[i]? with
  | none => rw [ha] at em; cases em
  | some sl =>
    rw [ha] at em
    cases sl with
    | adr a' =>
      replace em : (if a' = a then some (O.fz (.bl b), env) else none) = some (o, env') := em
      by_cases h' : a' = a
      · rw [if_pos h'] at em
        cases em
        subst h'
        exact ⟨.ref a', s.sg.adr i a' ha, c, cv, b, rfl, h, k, q _ B H (Ex.refl _) (Ex.refl _) (s.push (by rw [Rp]))⟩
      · rw [if_neg h'] at em; cases em
    | _ => cases em
/-! ### xs.count(b) over truth values -/
theorem eqs_bool {k : Bool} {bs : List Bool} {its : List Value} (r : Vals (bs.map V.bl) its) : (∀ y, y ∈ its → ∀ (A : Around) (s : Shared), PySem.SeqAt.EqAt A s y (.bool k) (isBoolOf k y)) ∧ its.countP (isBoolOf k) = bs.countP (· == k) := by
  induction bs generalizing its with
  | nil => cases r; exact ⟨fun y h => by simp at h, rfl⟩
  | cons b bs ih =>
    cases r with
    | cons r1 r2 =>
      obtain ⟨h1, h2⟩ := ih r2
      cases r1
      refine ⟨fun y hy A s => ?_, ?_⟩
      · rcases List.mem_cons.mp hy with rfl | hy
        · exact PySem.SeqAt.EqAt.bool_bool b k
        · exact h1 y hy A s
      · rw [List.countP_cons, List.countP_cons, h2]; rfl
def rCntB : V → List V → Hp → VK → Prop := fun x vs H Q => ∃ (l : Addr) (bs : List Bool) (b : Bool), x = .ref l ∧ vs = [.bl b] ∧ H l = some (.lst (bs.map V.bl)) ∧ Q (.int ((bs.countP (· == b) : Nat) : Int)) H
theorem mt_countB {X : Cx} : MtM X "list.count" rCntB := by
  intro pins s σ H x vs v us Q I rx rv h
  obtain ⟨l, bs, b, rfl, rfl, hH, q⟩ := h
  cases rx
  obtain ⟨u, rfl, ru⟩ := rv.one
  cases ru
  obtain ⟨z, its, n, r, hl, e⟩ := I.lstM hH
  obtain ⟨h1, h2⟩ := eqs_bool (k := b) r
  refine call_meets PySem.F.slot_list_count ⟨_, e, rfl⟩ PySem.F.entry_list_count (PySem.F.args_list_count_2 _ _) (PySem.SeqAt.list_countAt l its.toArray n none #[] (.bool b) (isBoolOf b)) ⟨e, fun y hy => h1 y (by simpa using hy) _ _, ?_⟩
  rw [show its.toArray.toList = its from rfl, h2]
  exact ⟨.int ((bs.countP (· == b) : Nat) : Int), H, I.kept (t' := s.toks + 1) fun _ _ z => z, ⟨s.toks, rfl⟩, q⟩
def boolsO : List O → Option (List Bool)
  | [] => some []
  | .fz (.bl b) :: os => (boolsO os).map (b :: ·)
  | _ => none
theorem boolsO_vws {K : PySem.W.Frag} {B H : Hp} : ∀ {os : List O} {bs : List Bool} {vs : List V}, boolsO os = some bs → Vws K B H os vs → vs = bs.map V.bl
  | [], bs, vs, h, w => by
    cases h
    rw [Vws] at w
    exact w
  | o :: os, bs, vs, h, w => by
    rw [Vws] at w
    obtain ⟨v, r, rfl, w1, w2⟩ := w
    unfold boolsO at h
    split at h
    · rename_i heq; cases heq
    · rename_i b os' heq
      cases heq
      obtain ⟨bs', h', rfl⟩ := Option.map_eq_some_iff.mp h
      rw [vw_bl w1, boolsO_vws h' w2]; rfl
    · cases h
def mCnt (i : Nat) (m : EM O) : EM O := fun env => (lsAt i env).bind fun _ => (m env).bind fun p => (lsAt i p.2).bind fun os => (boolsO os).bind fun bs => match p.1 with
  | .fz (.bl b) => some (.fz (.int ((bs.countP (· == b) : Nat) : Int)), p.2)
  | _ => none
@[simp] theorem e_mCnt {i : Nat} {m : EM O} {env : En} : mCnt i m env = (lsAt i env).bind fun _ => (m env).bind fun p => (lsAt i p.2).bind fun os => (boolsO os).bind fun bs => match p.1 with
  | .fz (.bl b) => some (.fz (.int ((bs.countP (· == b) : Nat) : Int)), p.2)
  | _ => none := rfl
section
variable {X : Cx} {e : Expr} {m : EM O} {x : Str} {p0 p1 cpos : Pos} {i : Nat}
theorem qe_count (hN : X.N[i]? = some x) (he : QE X e m) (hv : L2.Vis X.env.scope x := by first | exact Or.inl rfl | exact Or.inr (Or.inl rfl) | exact Or.inr (Or.inr rfl)) (hd : (x == ("__debug__" : Str)) = false := by decide)
    (hcd : (x == ("__classdict__" : Str)) = false := by decide)
    (hbase : attributeBase (.Name x p0) "count" X.env (eval (.Name x p0) X.env) = eval (.Name x p0) X.env := by rfl)
    (hfew : ((backTo cpos (starEach [e] X.env)).all (fun x => !x.1) && (backToKw cpos (keywordEach [] X.env)).all (fun x => x.1.isSome) && decide ([e].length + ([] : List Keyword).length + (if ([] : List Keyword).isEmpty then 0 else 1) < 30)) = true := by rfl)
    (hline : (p1.endLine == cpos.line) = true := by rfl) (hst : starEach [e] X.env = (false, eval e X.env) :: starEach [] X.env := by rfl) (hplain : (backTo cpos (starEach [] X.env)).any (·.1) = false := by rfl) :
    QE X (.Call (.Attribute (.Name x p0) "count" p1) [e] [] cpos) (mCnt i m) := by
  obtain ⟨t, h1, h2⟩ := he
  refine ⟨_, pe_bm PySem.F.plainAttrs_list PySem.F.slot_list_count PySem.F.type_list_count mt_countB (pe_var hN hv hd hcd) (pa_cons h1 pa_nil hst) hbase hfew hline hst hplain, fun H0 B0 ln Γ B H σ env s o env' em Q q => ?_⟩
  obtain ⟨os0, l0, em⟩ := bind_some em
  obtain ⟨p, em1, em⟩ := bind_some em
  obtain ⟨os, l1, em⟩ := bind_some em
  obtain ⟨bs, l2, em⟩ := bind_some em
  obtain ⟨o1, env1⟩ := p
  cases o1 with
  | fz d =>
    cases d with
    | bl b =>
      cases em
      obtain ⟨v, hv0, w⟩ := s.slot (lsAt_ok l0)
      obtain ⟨a0, vs0, rfl, g0, _⟩ := asO_ok w
      refine ⟨_, hv0, .inl ⟨rfl, vs0, SqL.of g0⟩, h2 H0 B0 ln Γ B H σ env s _ _ em1 _ fun u B1 H1 e1 e2 s1 => ?_⟩
      have r1 := s1.rp
      rw [Rp] at r1
      subst r1
      obtain ⟨v1, hv1, w1⟩ := s1.slot (lsAt_ok l1)
      rw [hv0] at hv1
      cases hv1
      rw [Vw] at w1
      obtain ⟨a1, vs1, ea, g1, g2⟩ := w1
      cases ea
      have hb := boolsO_vws l2 g2
      subst hb
      exact ⟨a0, bs, b, rfl, rfl, g1, q _ B1 H1 e1 e2 (s1.pop.push (by rw [Rp]))⟩
    | _ => cases em
  | _ => cases em
end
theorem roomH64 {k : Nat} {A : Around} (h : RoomH k A) : A.units + 64 < cLine := by have := h.un; omega
end Q

set_option Elab.async false
set_option linter.all false
set_option maxRecDepth 100000
set_option maxHeartbeats 1000000
namespace Q
open PySem L2 PyProof.Rows
/-! ### defs with keyword-only parameters and constant defaults -/
structure CallK (K : PySem.W.Frag) (fd : FuncData) (ps : List Str) (n : Nat) (ks : List Str) (gD : List D → List D → List D) : Prop where
  ex : ∃ g gV, KBn K fd ps n ks g gV ∧ ∀ (B : Hp) (as zs : List D) (vs us : List V), Rps K B as vs → Rps K B zs us → Rps K B (gD as zs) (gV vs us)
structure DefOkK (P : Program) (w : World) (K : PySem.W.Frag) (mg : Str → Option Value) (base : Heap) (k : Nat) (x : Str) (n : Nat) (mf : List D → Option D) (Sh : FuncData → List Str → Prop) : Prop where
  len : ∀ ds d, mf ds = some d → ds.length = n
  ex : ∃ (f : Addr) (fd : FuncData) (ps : List Str), FnOk P w K mg base CX0 k f fd ps (spM K n mf) ∧ mg x = some (.ref f) ∧ PySem.W.keepIn K (.ref f) = true ∧ Sh fd ps
def QK (X : Cx) (kws : List Keyword) (m : EM (List O)) : Prop := ∃ t, PK X kws t ∧ SA X.K t m
section
variable {X : Cx} {e : Expr} {m : EM O} {kws : List Keyword} {nm : Option Str} {kpos : Pos}
theorem qk_nil : QK X [] mNil := ⟨tNil, pk_nil, fun H0 B0 ln Γ B H σ env s o env' em Q q => by
  cases em
  exact q [] B H (Ex.refl _) (Ex.refl _) rfl s⟩
theorem qk_cons {mr : EM (List O)} (h : QE X e m) (hr : QK X kws mr) : QK X (⟨nm, e, kpos⟩ :: kws) (mCons m mr) := by
  obtain ⟨t, h1, h2⟩ := h
  obtain ⟨u, h3, h4⟩ := hr
  refine ⟨_, pk_cons h1 h3, fun H0 B0 ln Γ B H σ env s o env' em Q q => ?_⟩
  obtain ⟨p, em1, em⟩ := bind_some em
  obtain ⟨p2, em2, em⟩ := bind_some em
  cases em
  refine h2 H0 B0 ln Γ B H σ env s _ _ em1 _ fun v B1 H1 e1 e2 s1 => ?_
  refine h4 H0 B0 ln _ B1 H1 σ _ s1 _ _ em2 _ fun vs B2 H2 e3 e4 hl s2 => ?_
  exact q (v :: vs) B2 H2 (e1.trans e3) (e2.trans e4) (by simp [hl]) (s2.perm List.perm_middle)
end
def mCallK (f : List D → Option D) (na nk : Nat) (gD : List D → List D → List D) (mA mK : EM (List O)) : EM O := fun env => (mA env).bind fun p => (mK p.2).bind fun q => if p.1.length = na ∧ q.1.length = nk then (f (gD (O.frzs p.1) (O.frzs q.1))).bind fun d => some (.fz d, q.2) else none
@[simp] theorem e_mCallK {f : List D → Option D} {na nk : Nat} {gD : List D → List D → List D} {mA mK : EM (List O)} {env : En} : mCallK f na nk gD mA mK env = (mA env).bind fun p => (mK p.2).bind fun q => if p.1.length = na ∧ q.1.length = nk then (f (gD (O.frzs p.1) (O.frzs q.1))).bind fun d => some (.fz d, q.2) else none := rfl
section
variable {X : Cx} {k n na nk : Nat} {x : Str} {ks : List Str} {mf : List D → Option D} {gD : List D → List D → List D} {Sh : FuncData → List Str → Prop} {e : Expr} {es : List Expr} {kws : List Keyword} {mA mK : EM (List O)} {p pos : Pos}
theorem qe_callK (G : DefOkK X.prog X.w X.K X.mg X.base k x n mf Sh) (hSh : ∀ fd ps, Sh fd ps → CallK X.K fd ps na ks gD) (hr : Room k X.A) (ha : QA X (e :: es) mA) (hkw : QK X kws mK) (hnk : ks.length = nk := by rfl) (hg : Gl X x := by rfl)
    (hall : (backToKw pos (keywordEach kws X.env)).all (·.1.isSome) = true := by rfl) (hks : (backToKw pos (keywordEach kws X.env)).filterMap (·.1) = ks := by rfl)
    (hdb : (x == ("__debug__" : Str)) = false := by decide) (he : starEach (e :: es) X.env = (false, eval e X.env) :: starEach es X.env := by rfl)
    (hpl : ((backTo pos (starEach (e :: es) X.env)).any (·.1) || (backToKw pos (keywordEach kws X.env)).any (·.1.isNone)) = false := by rfl) :
    QE X (.Call (.Name x p) (e :: es) kws pos) (mCallK mf na nk gD mA mK) := by
  subst hnk
  obtain ⟨f, fd, ps, F, hm, hk, hsh⟩ := G.ex
  obtain ⟨g, gV, kb, rel⟩ := (hSh fd ps hsh).ex
  obtain ⟨t, h1, h2⟩ := ha
  obtain ⟨u, k1, k2⟩ := hkw
  refine ⟨_, pe_callN F hr hg hm hk kb pass0 h1 k1 hall hks hdb he hpl, fun H0 B0 ln Γ B H σ env s o env' em Q q => ?_⟩
  obtain ⟨p1, em1, em⟩ := bind_some em
  obtain ⟨p2, em2, em⟩ := bind_some em
  split at em
  · rename_i hlen
    obtain ⟨d, em3, em⟩ := bind_some em
    cases em
    refine h2 H0 B0 ln Γ B H σ env s _ _ em1 _ fun vs B1 H1 e1 e2 hl s1 => ?_
    refine k2 H0 B0 ln _ B1 H1 σ _ s1 _ _ em2 _ fun zs B2 H2 e3 e4 hl2 s2 => ?_
    obtain ⟨B3, e5, r1, s3⟩ := Stt.frzs hl2 s2
    obtain ⟨B4, e6, r2, s4⟩ := Stt.frzs hl s3
    refine ⟨hl.symm.trans hlen.1, hl2.symm.trans hlen.2, B4, _, d, s4.w.bh, rel B4 _ _ _ _ r2 (Rps.mono e6 _ _ r1), G.len _ _ em3, em3, fun v B' H' w r' => ?_⟩
    exact q v B' H' ((((e1.trans e3).trans e5).trans e6).trans w.b0) ((e2.trans e4).trans w.h0) ((s4.step w).push r')
  · cases em
theorem def_okK {P : Program} {w : World} {K : PySem.W.Frag} {mg : Str → Option Value} {base : Heap} {qual : Str} {st : Stmt} {f : Addr} {fd : FuncData} {N ps : List Str} {k : Nat} {m : SM} {kv : List (Str × V)} (F : FunD K x qual (defArgs st) (defBody st) (defScope st) [] kv f fd) (S : FnScope N ps (defScope st)) (hm : mg x = some (.ref f)) (hs : Sh fd ps)
    (hbody : ∀ (cdv : Value) (A : Around) (outer : List Env) (s : Shared) (H : Hp) (E : XK), Room k (A.deeper (envOfC qual (defScope st) s.heap.objs.size f cdv)) → QSs (cxOf CX0 P w K mg base N qual (defScope st) f cdv A outer s H E).nox (defBody st) m) :
    DefOkK P w K mg base (k + 1) x ps.length (runD ps.length N.length m) Sh := by
  refine ⟨runD_len, f, fd, ps, F.ok S (fun vs H Q E h => ?_) (fun cdv A outer s H vs Q E hr h => ?_), hm, F.kp, hs⟩
  · obtain ⟨B, ds, d, _, r, hn, _⟩ := h
    rw [← r.len]; exact hn
  · obtain ⟨B, ds, d, e, r, hn, em, q⟩ := h
    obtain ⟨t, h1, h2⟩ := hbody cdv A outer s H E hr
    refine ⟨t, h1.nox, ?_⟩
    unfold runD at em
    rw [if_pos hn] at em
    obtain ⟨out, em1, em⟩ := bind_some em
    refine h2 H B (fun _ => none) [] B H _ (startE N.length ds) ⟨Wd.refl e, ?_, ?_⟩ out em1 _ ?_
    · unfold startE L2.start
      rw [r.len]
      exact sg_start _ r.len
    · unfold startE L2.start
      rw [r.len, List.append_nil]
      exact roots_start _ r
    · cases out with
      | nx e' => cases em; exact fun B' H' σ' e2 s' => q .non B' H' s'.w (by rw [Rp])
      | rt d' => cases em; exact fun v B' H' e2 w' r' => q v B' H' w' r'
      | bk e' => cases em
      | ct e' => cases em
end
/-! the defaults as they stand -/
theorem kwd_nilK {K : PySem.W.Frag} {D : Addr} : ∀ q ∈ ([] : List (Str × V)), ∃ u, PySem.W.nsIn K D q.1 = some (some u) ∧ RelV q.2 u := fun q h => by simp at h
theorem kwd_consK {K : PySem.W.Frag} {D : Addr} {x : Str} {v : V} {u : Value} {l : List (Str × V)} (h : PySem.W.nsIn K D x = some (some u)) (r : RelV v u) (hl : ∀ q ∈ l, ∃ u, PySem.W.nsIn K D q.1 = some (some u) ∧ RelV q.2 u) : ∀ q ∈ (x, v) :: l, ∃ u, PySem.W.nsIn K D q.1 = some (some u) ∧ RelV q.2 u := fun q hq => by
  rcases List.mem_cons.mp hq with rfl | hq
  · exact ⟨u, h, r⟩
  · exact hl q hq
theorem tup_rp {K : PySem.W.Frag} {a : Addr} {od : Option Addr} {its : Array Value} {n : Nat} {sl : Array (Option Value)} {is : List Int} (l : K.lookup a = some ⟨.type "tuple", od, .seq its n, sl⟩) (hi : intsIn its.toList = some is) (hz : its.size ≤ sizeLine) : ∀ B, Rp K B (.tup (is.map D.int)) (.ref a) := fun B => by
  rw [Rp]
  exact ⟨a, is.map V.int, rfl, .inr ⟨_, its, n, l, rfl, rfl, hz, (intsIn_ok (K := K) (B := B) hi).1⟩, (intsIn_ok hi).2⟩
theorem rp_cons1 {K : PySem.W.Frag} {B : Hp} {d : D} {v : V} (h : ∀ B, Rp K B d v) {ds : List D} {vs : List V} (r : Rps K B ds vs) : Rps K B (d :: ds) (v :: vs) := by
  rw [Rps]
  exact ⟨v, vs, rfl, h B, r⟩
theorem rp_nil {K : PySem.W.Frag} {B : Hp} : Rps K B [] [] := by rw [Rps]
end Q

set_option Elab.async false
set_option linter.all false
set_option maxRecDepth 100000
set_option maxHeartbeats 1000000
namespace Q
open PySem L2 PyProof.Rows
/-! ### dicts whose keys are ints and texts -/
def D.key : D → Option Key
  | .int i => some (.inl i)
  | .str s => some (.inr s)
  | _ => none
def O.key : O → Option Key
  | .fz d => d.key
  | _ => none
def O.asD : O → Option (List Key × List D)
  | .fz (.dk ks ds) => some (ks, ds)
  | .ok ks ds => some (ks, ds)
  | _ => none
def lookD : List Key → List D → Key → Option D
  | j :: ks, d :: ds, k => if j = k then some d else lookD ks ds k
  | _, _, _ => none
section
variable {K : PySem.W.Frag} {H0 B0 B H : Hp} {ln : Nat → Option V} {Γ : List (O × V)} {σ : L2.St} {env : En} {ks : List Key} {ds : List D} {a : Addr} {o : O} {v : V}
theorem key_ok {d : D} {k : Key} (r : Rp K B d v) (h : d.key = some k) : v = kV k := by
  cases d <;> simp [D.key] at h <;> (rw [Rp] at r; subst r h; rfl)
theorem okey_ok {k : Key} (w : Vw K B H o v) (h : o.key = some k) : v = kV k := by
  cases o with
  | fz d => rw [Vw] at w; exact key_ok w h
  | _ => cases h
theorem asD_ok {p : List Key × List D} (e : Ex B H) (w : Vw K B H o v) (h : o.asD = some p) : ∃ a kvs, v = .ref a ∧ H a = some (.dK kvs) ∧ kvs.map Prod.fst = p.1 ∧ Rps K B p.2 (kvs.map Prod.snd) := by
  unfold O.asD at h
  split at h
  · cases h; rw [Vw, Rp] at w
    obtain ⟨a, kvs, rfl, h1, h2, h3⟩ := w
    exact ⟨a, kvs, rfl, e _ _ h1, h2, h3⟩
  · cases h; rw [Vw] at w
    exact w
  · cases h
theorem lookD_ok (k : Key) : ∀ {kvs : List (Key × V)} {ds : List D}, Rps K B ds (kvs.map Prod.snd) → match lookD (kvs.map Prod.fst) ds k with
    | some d => ∃ v, valV kvs k = some v ∧ Rp K B d v
    | none => valV kvs k = none
  | [], ds, r => by
    cases ds <;> exact valV_nil
  | p :: kvs, ds, r => by
    cases ds with
    | nil => rw [Rps] at r; cases r
    | cons d ds =>
      rw [Rps] at r
      obtain ⟨v, rr, e, r1, r2⟩ := r
      cases e
      show match (if p.1 = k then some d else lookD (kvs.map Prod.fst) ds k) with
        | some d => ∃ v, valV (p :: kvs) k = some v ∧ Rp K B d v
        | none => valV (p :: kvs) k = none
      by_cases h : p.1 = k
      · rw [if_pos h]
        exact ⟨p.2, valV_pos h, r1⟩
      · rw [if_neg h, valV_neg h]
        exact lookD_ok k r2
theorem lookD_some {k : Key} {d : D} {kvs : List (Key × V)} (r : Rps K B ds (kvs.map Prod.snd)) (h : lookD (kvs.map Prod.fst) ds k = some d) : ∃ v, valV kvs k = some v ∧ Rp K B d v := by
  have := lookD_ok k r
  rw [h] at this
  exact this
theorem lookD_none {k : Key} {kvs : List (Key × V)} (r : Rps K B ds (kvs.map Prod.snd)) (h : lookD (kvs.map Prod.fst) ds k = none) : valV kvs k = none := by
  have := lookD_ok k r
  rw [h] at this
  exact this
/-- a new dict, empty -/
theorem Stt.newDk (h : Stt K H0 B0 ln Γ B H σ env) {p : Addr} (hp : H p = none) : Ex H (upd H p (.dK [])) ∧ Stt K H0 B0 ln ((.ok [] [], .ref p) :: Γ) B (upd H p (.dK [])) σ env := by
  have w := Wd.newH (x := .dK []) h.w.bh hp
  refine ⟨w.h0, h.w.trans w, h.sg, ?_⟩
  have o2 := (h.own.more hp).upd (x := .dK [])
  exact (o2.shutK (ks := []) (ds := []) (kvs := []) upd_same rfl (by rw [List.map_nil, Rps]) (h.w.bh.none hp) (h.w.h0.none hp) (by simp)).perm List.perm_middle.symm
/-- an owned dict, a temp, gets another content -/
theorem Stt.mutTempK (s : Stt K H0 B0 ln ((.ok ks ds, .ref a) :: Γ) B H σ env) : ∃ kvs, H a = some (.dK kvs) ∧ kvs.map Prod.fst = ks ∧ Rps K B ds (kvs.map Prod.snd) ∧ B a = none ∧
    ∀ kvs' ks' ds', kvs'.map Prod.fst = ks' → Rps K B ds' (kvs'.map Prod.snd) → Stt K H0 B0 ln ((.ok ks' ds', .ref a) :: Γ) B (upd H a (.dK kvs')) σ env := by
  obtain ⟨kvs, h1, h2, h3, h4, h5, h6, h7⟩ := (s.own.perm List.perm_middle).openK
  refine ⟨kvs, h1, h2, h3, h4, fun kvs' ks' ds' e1 e2 => ⟨wd_upd s.w h4 h5, s.sg, ?_⟩⟩
  exact ((h7.upd (x := .dK kvs')).shutK upd_same e1 e2 h4 h5 h6).perm List.perm_middle.symm
/-- an owned dict in a slot gets another content -/
theorem Stt.mutSlotK {i : Nat} (s : Stt K H0 B0 ln Γ B H σ env) (e : env[i]? = some (.has (.ok ks ds))) : ∃ a kvs, σ[i]? = some (some (.ref a)) ∧ H a = some (.dK kvs) ∧ kvs.map Prod.fst = ks ∧ Rps K B ds (kvs.map Prod.snd) ∧
    ∀ kvs' ks' ds', kvs'.map Prod.fst = ks' → Rps K B ds' (kvs'.map Prod.snd) → Stt K H0 B0 ln Γ B (upd H a (.dK kvs')) σ (env.set i (.has (.ok ks' ds'))) := by
  obtain ⟨v, R, hv, ow, back⟩ := s.slotOut e
  have hw := ow.vw
  rw [Vw] at hw
  obtain ⟨a, _, rfl, _⟩ := hw
  obtain ⟨kvs, h1, h2, h3, h4, h5, h6, h7⟩ := ow.openK
  refine ⟨a, kvs, hv, h1, h2, h3, fun kvs' ks' ds' e1 e2 => back _ _ _ ((h7.upd (x := .dK kvs')).shutK upd_same e1 e2 h4 h5 h6) (wd_upd s.w h4 h5)⟩
end
/-! lookups -/
def oDIx (a b : O) : Option O := (a.asD).bind fun p => (b.key).bind fun k => (lookD p.1 p.2 k).map .fz
def oDIn (b a : O) : Option O := (a.asD).bind fun p => (b.key).bind fun k => some (.fz (.bl (lookD p.1 p.2 k).isSome))
def oDNotIn (b a : O) : Option O := (a.asD).bind fun p => (b.key).bind fun k => some (.fz (.bl (!(lookD p.1 p.2 k).isSome)))
section
variable {X : Cx} {a b c e : Expr} {ma mb mc m : EM O} {pos : Pos}
theorem hu1 {A : Around} (h : A.units + 64 < cLine) : A.units + 1 < cLine := by omega
theorem qv_dix (hu : X.A.units + 64 < cLine) (ha : QV X a ma) (hb : QV X b mb) (hs : NoSl b := by exact fun _ _ => rfl) : QV X (.Subscript a b pos) (m2 oDIx ma mb) := by
  obtain ⟨t, h1, h2⟩ := ha
  obtain ⟨u, h3, h4⟩ := hb
  refine ⟨_, pe_dget (hu1 hu) h1 h3 hs, fun H0 B0 ln Γ B H σ env s o env' em Q q => ?_⟩
  obtain ⟨p, em1, em⟩ := bind_some em
  obtain ⟨p2, em2, em⟩ := bind_some em
  obtain ⟨z, em3, em⟩ := bind_some em
  cases em
  refine h2 H0 B0 ln Γ B H σ env s _ _ em1 _ fun v B1 H1 e1 e2 s1 w1 => ?_
  refine h4 H0 B0 ln Γ B1 H1 σ _ s1 _ _ em2 _ fun u B2 H2 e3 e4 s2 w2 => ?_
  have w1 := Vw.mono e3 e4 _ _ w1
  obtain ⟨kd, k1, em3⟩ := bind_some em3
  obtain ⟨k, k2, em3⟩ := bind_some em3
  obtain ⟨d, k3, rfl⟩ := Option.map_eq_some_iff.mp em3
  obtain ⟨x, kvs, rfl, g1, g2, g3⟩ := asD_ok s2.w.bh w1 k1
  have := okey_ok w2 k2
  subst this
  rw [← g2] at k3
  obtain ⟨y, y1, y2⟩ := lookD_some g3 k3
  refine ⟨x, y, rfl, ?_, q y B2 H2 (e1.trans e3) (e2.trans e4) s2 (by rw [Vw]; exact y2)⟩
  rw [← y1]
  exact DGet.k g1
theorem se_din {t u : TE} (h2 : SV X.K t mb) (h4 : SV X.K u ma) : SE X.K (tDIn t u) (m2 oDIn mb ma) := by
  intro H0 B0 ln Γ B H σ env s o env' em Q q
  obtain ⟨p, em1, em⟩ := bind_some em
  obtain ⟨p2, em2, em⟩ := bind_some em
  obtain ⟨z, em3, em⟩ := bind_some em
  cases em
  refine h2 H0 B0 ln Γ B H σ env s _ _ em1 _ fun v B1 H1 e1 e2 s1 w1 => ?_
  refine h4 H0 B0 ln Γ B1 H1 σ _ s1 _ _ em2 _ fun u B2 H2 e3 e4 s2 w2 => ?_
  have w1 := Vw.mono e3 e4 _ _ w1
  obtain ⟨kd, k1, em3⟩ := bind_some em3
  obtain ⟨k, k2, em3⟩ := bind_some em3
  cases em3
  obtain ⟨x, kvs, rfl, g1, g2, g3⟩ := asD_ok s2.w.bh w2 k1
  have := okey_ok w1 k2
  subst this
  refine ⟨x, valV kvs k, rfl, DGet.k g1, ?_⟩
  have hk : (valV kvs k).isSome = (lookD kd.1 kd.2 k).isSome := by
    have := lookD_ok k g3
    rw [g2] at this
    cases hl : lookD kd.1 kd.2 k with
    | none => rw [hl] at this; rw [show valV kvs k = none from this]; rfl
    | some d => rw [hl] at this; obtain ⟨v, h, _⟩ := this; rw [h]; rfl
  exact q _ B2 H2 (e1.trans e3) (e2.trans e4) (s2.push (by rw [Rp, hk]))
theorem se_dnin {t u : TE} (h2 : SV X.K t mb) (h4 : SV X.K u ma) : SE X.K (tDNotIn t u) (m2 oDNotIn mb ma) := by
  intro H0 B0 ln Γ B H σ env s o env' em Q q
  obtain ⟨p, em1, em⟩ := bind_some em
  obtain ⟨p2, em2, em⟩ := bind_some em
  obtain ⟨z, em3, em⟩ := bind_some em
  cases em
  refine h2 H0 B0 ln Γ B H σ env s _ _ em1 _ fun v B1 H1 e1 e2 s1 w1 => ?_
  refine h4 H0 B0 ln Γ B1 H1 σ _ s1 _ _ em2 _ fun u B2 H2 e3 e4 s2 w2 => ?_
  have w1 := Vw.mono e3 e4 _ _ w1
  obtain ⟨kd, k1, em3⟩ := bind_some em3
  obtain ⟨k, k2, em3⟩ := bind_some em3
  cases em3
  obtain ⟨x, kvs, rfl, g1, g2, g3⟩ := asD_ok s2.w.bh w2 k1
  have := okey_ok w1 k2
  subst this
  refine ⟨x, valV kvs k, rfl, DGet.k g1, ?_⟩
  have hk : (valV kvs k).isSome = (lookD kd.1 kd.2 k).isSome := by
    have := lookD_ok k g3
    rw [g2] at this
    cases hl : lookD kd.1 kd.2 k with
    | none => rw [hl] at this; rw [show valV kvs k = none from this]; rfl
    | some d => rw [hl] at this; obtain ⟨v, h, _⟩ := this; rw [h]; rfl
  exact q _ B2 H2 (e1.trans e3) (e2.trans e4) (s2.push (by rw [Rp, hk]))
theorem qe_din (hu : X.A.units + 64 < cLine) (hb : QV X b mb) (ha : QV X a ma) (hm : behindInMarks .In a = false := by rfl) : QE X (.Compare b [.In] [a] pos) (m2 oDIn mb ma) := by
  obtain ⟨t, h1, h2⟩ := ha
  obtain ⟨u, h3, h4⟩ := hb
  exact ⟨_, pe_cmp (pc_din (hu1 hu) h3 h1) hm, se_din h4 h2⟩
theorem qt_din (hu : X.A.units + 64 < cLine) (hb : QV X b mb) (ha : QV X a ma) (hm : behindInMarks .In a = false := by rfl) : QT X (.Compare b [.In] [a] pos) (mTst (m2 oDIn mb ma)) := by
  obtain ⟨t, h1, h2⟩ := ha
  obtain ⟨u, h3, h4⟩ := hb
  exact ⟨_, pt_cmp (pc_din (hu1 hu) h3 h1) hm, st_of_se (se_din h4 h2)⟩
theorem qe_dnin (hu : X.A.units + 64 < cLine) (hb : QV X b mb) (ha : QV X a ma) (hm : behindInMarks .NotIn a = false := by rfl) : QE X (.Compare b [.NotIn] [a] pos) (m2 oDNotIn mb ma) := by
  obtain ⟨t, h1, h2⟩ := ha
  obtain ⟨u, h3, h4⟩ := hb
  exact ⟨_, pe_cmp (pc_dnotin (hu1 hu) h3 h1) hm, se_dnin h4 h2⟩
theorem qt_dnin (hu : X.A.units + 64 < cLine) (hb : QV X b mb) (ha : QV X a ma) (hm : behindInMarks .NotIn a = false := by rfl) : QT X (.Compare b [.NotIn] [a] pos) (mTst (m2 oDNotIn mb ma)) := by
  obtain ⟨t, h1, h2⟩ := ha
  obtain ⟨u, h3, h4⟩ := hb
  exact ⟨_, pt_cmp (pc_dnotin (hu1 hu) h3 h1) hm, st_of_se (se_dnin h4 h2)⟩
/-- d.get(k, x) -/
def mGet (ma mb mc : EM O) : EM O := fun env => (ma env).bind fun p => (mb p.2).bind fun q => (mc q.2).bind fun r => (p.1.asD).bind fun d => (q.1.key).bind fun k => some (.fz ((lookD d.1 d.2 k).getD r.1.frz), r.2)
@[simp] theorem e_mGet {ma mb mc : EM O} {env : En} : mGet ma mb mc env = (ma env).bind fun p => (mb p.2).bind fun q => (mc q.2).bind fun r => (p.1.asD).bind fun d => (q.1.key).bind fun k => some (.fz ((lookD d.1 d.2 k).getD r.1.frz), r.2) := rfl
theorem qe_get {apos cpos : Pos} (hu : X.A.units + 64 < cLine) (ha : QV X a ma) (hb : QV X b mb) (hc : QE X c mc) (hbase : attributeBase a "get" X.env (eval a X.env) = eval a X.env := by rfl)
    (few : ((backTo cpos (starEach [b, c] X.env)).all (fun x => !x.1) && (backToKw cpos (keywordEach [] X.env)).all (fun x => x.1.isSome) && decide (([b, c] : List Expr).length + ([] : List Keyword).length + (if ([] : List Keyword).isEmpty then 0 else 1) < 30)) = true := by rfl)
    (line : (apos.endLine == cpos.line) = true := by rfl) (trees : backTo cpos (starEach [b, c] X.env) = [(false, eval b X.env), (false, eval c X.env)] := by rfl) :
    QE X (.Call (.Attribute a "get" apos) [b, c] [] cpos) (mGet ma mb mc) := by
  obtain ⟨t, h1, h2⟩ := ha
  obtain ⟨u, h3, h4⟩ := hb
  obtain ⟨w, h5, h6⟩ := hc
  refine ⟨_, pe_dget2 (hu1 hu) h1 h3 h5 ⟨hbase, few, line, trees⟩, fun H0 B0 ln Γ B H σ env s o env' em Q q => ?_⟩
  obtain ⟨p, em1, em⟩ := bind_some em
  obtain ⟨p2, em2, em⟩ := bind_some em
  obtain ⟨p3, em3, em⟩ := bind_some em
  obtain ⟨kd, k1, em⟩ := bind_some em
  obtain ⟨k, k2, em⟩ := bind_some em
  cases em
  refine h2 H0 B0 ln Γ B H σ env s _ _ em1 _ fun v B1 H1 e1 e2 s1 w1 => ?_
  obtain ⟨x, kvs, rfl, g1, g2, g3⟩ := asD_ok s1.w.bh w1 k1
  refine ⟨x, rfl, .inl ⟨kvs, .inl g1⟩, h4 H0 B0 ln Γ B1 H1 σ _ s1 _ _ em2 _ fun u B2 H2 e3 e4 s2 w2 => ?_⟩
  have := okey_ok w2 k2
  subst this
  refine h6 H0 B0 ln Γ B2 H2 σ _ s2 _ _ em3 _ fun z B3 H3 e5 e6 s3 => ?_
  refine ⟨valV kvs k, DGet.k (e6 _ _ (e4 _ _ g1)), ?_⟩
  obtain ⟨B4, e7, s4⟩ := s3.frz
  have r4 := s4.rp
  refine q _ B4 H3 (((e1.trans e3).trans e5).trans e7) ((e2.trans e4).trans e6) (s4.pop.push ?_)
  have g4 := Rps.mono ((e3.trans e5).trans e7) _ _ g3
  cases hl : lookD kd.1 kd.2 k with
  | none =>
    rw [← g2] at hl
    rw [lookD_none g4 hl]
    exact r4
  | some d =>
    rw [← g2] at hl
    obtain ⟨v, y1, y2⟩ := lookD_some g4 hl
    rw [y1]
    exact y2
/-- {} -/
def mDNew : EM O := fun env => some (.ok [] [], env)
@[simp] theorem e_mDNew {env : En} : mDNew env = some (.ok [] [], env) := rfl
theorem qe_dnew : QE X (.Dict [] [] pos) mDNew := by
  refine ⟨_, pe_dnewK, fun H0 B0 ln Γ B H σ env s o env' em Q q => ?_⟩
  cases em
  intro p hp
  obtain ⟨e1, s1⟩ := s.newDk hp
  exact q _ B _ (Ex.refl _) e1 s1
end
/-! d[k] = v, k new -/
def dkAt (i : Nat) (env : En) : Option (List Key × List D) := match env[i]? with
  | some (.has (.ok ks ds)) => some (ks, ds)
  | _ => none
theorem dkAt_ok {i : Nat} {env : En} {p : List Key × List D} (h : dkAt i env = some p) : env[i]? = some (.has (.ok p.1 p.2)) := by
  unfold dkAt at h
  split at h
  · cases h; assumption
  · cases h
def sDSet (i : Nat) (m mk : EM O) : SM := fun env => (m env).bind fun p => (dkAt i p.2).bind fun _ => (mk p.2).bind fun q => (dkAt i q.2).bind fun d => (q.1.key).bind fun k =>
  if d.1.length < sizeLine ∧ lookD d.1 d.2 k = none then some (.nx (q.2.set i (.has (.ok (d.1 ++ [k]) (d.2 ++ [p.1.frz]))))) else none
@[simp] theorem e_sDSet {i : Nat} {m mk : EM O} {env : En} : sDSet i m mk env = (m env).bind fun p => (dkAt i p.2).bind fun _ => (mk p.2).bind fun q => (dkAt i q.2).bind fun d => (q.1.key).bind fun k =>
  if d.1.length < sizeLine ∧ lookD d.1 d.2 k = none then some (.nx (q.2.set i (.has (.ok (d.1 ++ [k]) (d.2 ++ [p.1.frz]))))) else none := rfl
theorem put_new {K : PySem.W.Frag} {B : Hp} {ks : List Key} {ds : List D} {kvs : List (Key × V)} {k : Key} {d : D} {v : V} (hk : kvs.map Prod.fst = ks) (hd : Rps K B ds (kvs.map Prod.snd)) (hn : lookD ks ds k = none) (r : Rp K B d v) :
    (putK kvs k v).map Prod.fst = ks ++ [k] ∧ Rps K B (ds ++ [d]) ((putK kvs k v).map Prod.snd) := by
  subst hk
  rw [putK_new v (lookD_none hd hn)]
  refine ⟨by simp, ?_⟩
  rw [List.map_append]
  exact hd.append (Rps.one r)
section
variable {X : Cx} {e e' : Expr} {m mk : EM O} {x : Str} {p0 p1 pos : Pos} {i : Nat}
theorem qs_dset (hu : X.A.units + 64 < cLine) (hN : X.N[i]? = some x) (he : QE X e m) (hi : QV X e' mk) (hv : L2.Vis X.env.scope x := by first | exact Or.inl rfl | exact Or.inr (Or.inl rfl) | exact Or.inr (Or.inr rfl)) (hd : (x == ("__debug__" : Str)) = false := by decide)
    (hcd : (x == ("__classdict__" : Str)) = false := by decide)
    (hs : swapsWith e (some (.Subscript (.Name x p0) e' p1)) pos.line X.env = pure false := by rfl) : QS X (.Assign [.Subscript (.Name x p0) e' p1] e pos) (sDSet i m mk) := by
  obtain ⟨t, t1, t2⟩ := he
  obtain ⟨u, u1, u2⟩ := hi
  refine ⟨_, ps_dput (hu1 hu) (pe_var hN hv hd hcd) u1 t1 hs, fun H0 B0 ln Γ B H σ env s out em E q => ?_⟩
  obtain ⟨p, em1, em⟩ := bind_some em
  obtain ⟨os0, l0, em⟩ := bind_some em
  obtain ⟨r, em2, em⟩ := bind_some em
  obtain ⟨d, l1, em⟩ := bind_some em
  obtain ⟨k, k1, em⟩ := bind_some em
  split at em
  · rename_i hz
    cases em
    refine t2 H0 B0 ln Γ B H σ env s _ _ em1 _ fun y B1 H1 e1 e2 s1 => ?_
    obtain ⟨v, hv0, w⟩ := s1.slot (dkAt_ok l0)
    refine ⟨_, hv0, u2 H0 B0 ln _ B1 H1 σ _ s1 _ _ em2 _ fun z B2 H2 e3 e4 s2 w2 => ?_⟩
    have := okey_ok w2 k1
    subst this
    obtain ⟨B3, e5, s3⟩ := s2.frz
    have r3 := s3.rp
    obtain ⟨a, kvs, hv1, g1, g2, g3, g4⟩ := s3.pop.mutSlotK (dkAt_ok l1)
    rw [hv0] at hv1
    cases hv1
    obtain ⟨n1, n2⟩ := put_new g2 g3 hz.2 r3
    have hl : kvs.length < sizeLine := by
      have h9 : d.1.length < sizeLine := hz.1
      rw [← g2, List.length_map] at h9
      exact h9
    exact ⟨a, _, rfl, DPut.k g1 hl, q B3 _ σ ((e1.trans e3).trans e5) (g4 _ _ _ n1 n2)⟩
  · cases em
end
/-! dict comprehensions -/
def dcLoop (vs : List Nat) (gs : D → En → Option En) (mt : EM Bool) (mk mv : EM O) : List D → List Key → List D → En → Option ((List Key × List D) × En)
  | [], ks, acc, env => some ((ks, acc), env)
  | d :: ds, ks, acc, env => if okE env vs = true then (gs d (wipeE env vs)).bind fun e1 => (mt e1).bind fun b =>
      if b.1 = true then (mk b.2).bind fun r => (mv r.2).bind fun z => (r.1.key).bind fun k => if ks.length < sizeLine ∧ lookD ks acc k = none then dcLoop vs gs mt mk mv ds (ks ++ [k]) (acc ++ [z.1.frz]) (backE env z.2 vs) else none
      else dcLoop vs gs mt mk mv ds ks acc (backE env b.2 vs) else none
def mDc (vs : List Nat) (mi : EM (List D)) (gs : D → En → Option En) (mt : EM Bool) (mk mv : EM O) : EM O := fun env => (mi env).bind fun p => (dcLoop vs gs mt mk mv p.1 [] [] p.2).bind fun q => some (.ok q.1.1 q.1.2, q.2)
@[simp] theorem e_mDc {vs : List Nat} {mi : EM (List D)} {gs : D → En → Option En} {mt : EM Bool} {mk mv : EM O} {env : En} : mDc vs mi gs mt mk mv env = (mi env).bind fun p => (dcLoop vs gs mt mk mv p.1 [] [] p.2).bind fun q => some (.ok q.1.1 q.1.2, q.2) := rfl
theorem se_dc {K : PySem.W.Frag} {wi : TI} {mi : EM (List D)} {g : TG} {ws vs : List Nat} {gs : D → En → Option En} {tt : TT} {mt : EM Bool} {tk tv : TE} {mk mv : EM O} (hi : SI K false wi mi) (hg : SG K g ws gs) (hw : ∀ j ∈ ws, j ∈ vs) (ht : STst K tt mt) (hk : SE K tk mk) (he : SE K tv mv) :
    SE K (tDc wi g tt tk tv vs) (mDc vs mi gs mt mk mv) := by
  intro H0 B0 ln Γ B H σ env s o env' em Q q
  obtain ⟨p, em1, em⟩ := bind_some em
  obtain ⟨r, em2, em⟩ := bind_some em
  cases em
  obtain ⟨ds, env1⟩ := p
  refine hi H0 B0 ln Γ B H σ env s _ _ em1 _ fun J B1 H1 e1 e2 s1 w => ?_
  have w : WalkD K J (fun H2 => Ex H1 H2) B1 ds := w.mono fun H2 h => by simpa using h
  intro Dl hD
  obtain ⟨e0, s0⟩ := s1.newDk hD
  refine ⟨fun i k H' => k = ds.length - i ∧ i ≤ ds.length ∧ ∃ ks acc B' env', Ex B1 B' ∧ Ex H1 H' ∧ Stt K H0 B0 ln ((.ok ks acc, .ref Dl) :: Γ) B' H' σ env' ∧ dcLoop vs gs mt mk mv (ds.drop i) ks acc env' = some r,
    ⟨ds.length, by simp, Nat.zero_le _, [], [], B1, env1, Ex.refl _, e0, s0, em2⟩, ?_⟩
  rintro i k H2 ⟨rfl, hi, ks, acc, B2, env2, e3, e4, s2, em2⟩
  by_cases hlt : i < ds.length
  · refine .inr ⟨w.go i H2 hlt e4, fun H' => ∃ ks acc B' env', Ex B1 B' ∧ Ex H1 H' ∧ Stt K H0 B0 ln ((.ok ks acc, .ref Dl) :: Γ) B' H' σ env' ∧ dcLoop vs gs mt mk mv (ds.drop (i + 1)) ks acc env' = some r, fun H' h => ⟨ds.length - (i + 1), by omega, rfl, hlt, h⟩, fun x H3 y => ?_⟩
    obtain ⟨B3, w3, r3⟩ := w.yld i ds[i] H2 x H3 B2 (List.getElem?_eq_getElem hlt) e4 e3 s2.w.bh y
    have s3 := s2.step w3
    rw [List.drop_eq_getElem_cons hlt, dcLoop] at em2
    split at em2
    · rename_i hok
      obtain ⟨env3, em3, em2⟩ := bind_some em2
      obtain ⟨b, em4, em2⟩ := bind_some em2
      obtain ⟨b, env4⟩ := b
      refine hg H0 B0 ln _ B3 H3 (wipe σ vs) (wipeE env2 vs) (s3.wipe vs) _ x _ r3 em3 _ fun σ4 s4 l4 k4 => ?_
      have l4' : σ4.length = σ.length := by rw [l4, wipe_length]
      have k4' : ∀ j, j ∉ vs → σ4[j]? = σ[j]? := fun j hj => by rw [k4 j (fun z => hj (hw j z)), wipe_at, if_neg hj]
      have le4 : env3.length = env2.length := by rw [s4.sg.len, l4', ← s2.sg.len]
      refine ⟨wipe_eq l4' k4', ht H0 B0 ln _ B3 H3 σ4 env3 s4 _ _ em4 _ fun B5 H5 e5 e6 s5 => ?_⟩
      cases b with
      | true =>
        rw [if_pos rfl]
        obtain ⟨kr, em5, em6⟩ := bind_some (show (mk env4).bind _ = some r from em2)
        obtain ⟨z, em7, em6⟩ := bind_some em6
        obtain ⟨k, hk1, em6⟩ := bind_some em6
        split at em6
        · rename_i hz
          refine hk H0 B0 ln _ B5 H5 σ4 env4 s5 _ _ em5 _ fun yk B6 H6 e7 e8 s6 => ?_
          have hyk : yk = kV k := okey_ok s6.vw hk1
          refine he H0 B0 ln _ B6 H6 σ4 _ s6 _ _ em7 _ fun y B7 H7 e9 e10 s7 => ?_
          obtain ⟨B8, e11, s8⟩ := s7.frz
          have r8 := s8.rp
          obtain ⟨kvs, g1, g2, g3, _, g4⟩ := s8.pop.pop.mutTempK
          obtain ⟨n1, n2⟩ := put_new g2 g3 hz.2 r8
          have hl : kvs.length < sizeLine := by
            have h9 : ks.length < sizeLine := hz.1
            rw [← g2, List.length_map] at h9
            exact h9
          have s9 := g4 (putK kvs k y) _ _ n1 n2
          refine ⟨kvs, k, hyk, g1, hl, ks ++ [k], acc ++ [z.1.frz], B8, backE env2 z.2 vs, ((((e3.trans w3.b0).trans e5).trans e7).trans e9).trans e11, fun c u h => ?_, ?_, em6⟩
          · rw [upd_ne (ne_of_none h hD)]
            exact e10 c u (e8 c u (e6 c u (w3.h0 c u (e4 c u h))))
          · have le6 : z.2.length = env2.length := by rw [s7.sg.len, l4', ← s2.sg.len]
            have s10 := Stt.back s2 ((((w3.b0.trans e5).trans e7).trans e9).trans e11) s9 le6 vs hok
            rw [restS_eq l4' k4'] at s10
            exact s10
        · cases em6
      | false =>
        rw [if_neg Bool.false_ne_true]
        refine ⟨ks, acc, B5, backE env2 env4 vs, (e3.trans w3.b0).trans e5, fun c u h => e6 c u (w3.h0 c u (e4 c u h)), ?_, em2⟩
        have le6 : env4.length = env2.length := by rw [s5.sg.len, l4', ← s2.sg.len]
        have s8 := Stt.back s2 (w3.b0.trans e5) s5 le6 vs hok
        rw [restS_eq l4' k4'] at s8
        exact s8
    · cases em2
  · have hi' : i = ds.length := by omega
    subst hi'
    rw [List.drop_length, dcLoop] at em2
    cases em2
    exact .inl ⟨w.stop H2 e4, q _ B2 H2 (e1.trans e3) (e2.trans e4) s2⟩
section
variable {X : Cx} {kx vx tg iter : Expr} {ifs : List Expr} {scope : Scope} {pos : Pos} {mi : EM (List D)} {ws : List Nat} {gs : D → En → Option En} {mt : EM Bool} {mk mv : EM O}
theorem qe_dc (own : List (Str × Nat)) (hc : X.calm = true) (hN : X.N.Nodup) (hi : QI X false tg iter mi) (hk : blkC X.N X.env.scope scope own = true)
    (hg : ∀ (s : Shared) (H : Hp) (C : Addr) (cl : List (Str × Addr)) (fp : List Addr), QG (X.blk s H scope (compEnvC scope cl C X.env) fp) tg ws gs)
    (ht : ∀ (s : Shared) (H : Hp) (C : Addr) (cl : List (Str × Addr)) (fp : List Addr), QTs (X.blk s H scope (compEnvC scope cl C X.env) fp) ifs mt)
    (hkx : ∀ (s : Shared) (H : Hp) (C : Addr) (cl : List (Str × Addr)) (fp : List Addr), QE (X.blk s H scope (compEnvC scope cl C X.env) fp) kx mk)
    (he : ∀ (s : Shared) (H : Hp) (C : Addr) (cl : List (Str × Addr)) (fp : List Addr), QE (X.blk s H scope (compEnvC scope cl C X.env) fp) vx mv)
    (hw : ∀ j ∈ ws, j ∈ own.map (·.2) := by decide) (hs : ∀ x, foldedSetIterable iter X.env x = pure x := by intro _; rfl) :
    QE X (.DictComp kx vx [⟨tg, iter, ifs, 0⟩] scope pos) (mDc (own.map (·.2)) mi gs mt mk mv) :=
  ⟨_, pe_dc (wi := tCI X.K false mi) (g := tCG X.K ws gs) (tt := tCT X.K mt) (tk := tCE X.K mk) (tv := tCE X.K mv) hc hN hi.c (blkOk_by hk) (fun s H C cl fp => (hg s H C cl fp).c) (fun s H C cl fp => (ht s H C cl fp).c) (fun s H C cl fp => (hkx s H C cl fp).c) (fun s H C cl fp => (he s H C cl fp).c) hs, se_dc siC sgC hw stC seC seC⟩
/-- d = {..} on one line, d a local -/
theorem sw_dict {X : Cx} {gens : List Comprehension} {y : Str} {py : Pos} {l : Nat} (k0 : X.env.scope.kind = .function) (k1 : X.env.scope.names.lookup y = some .local) (k2 : (py.line == pos.line) = true)
    (k3 : (scope.names.any fun (n, k) => n == y && (k == .local || k == .cell)) = false) : swapsWith (.DictComp kx vx gens scope pos) (some (.Name y py)) l X.env = pure true := by
  have a1 : X.env.kindOf y = some .local := k1
  have a2 : X.env.blockKind = .function := by unfold Env.blockKind; rw [k0]; rfl
  unfold swapsWith
  simp only [a2, a1, k3, Expr.pos, k2]; rfl
theorem ps_dcset {i : Nat} {y : Str} {py spos : Pos} {own : List (Str × Nat)} {wi : TI} {g : TG} {tt : TT} {tk tv : TE} (hc : X.calm = true) (hN : X.N.Nodup) (k1 : X.N[i]? = some y) (k2 : X.env.scope.names.lookup y = some .local)
    (k3 : swapsWith (.DictComp kx vx [⟨tg, iter, ifs, 0⟩] scope pos) (some (.Name y py)) spos.line X.env = pure true) (hi : PI X tg iter wi) (bo : BlkOk X.N X.env.scope scope own)
    (pg : ∀ (s : Shared) (H : Hp) (C : Addr) (cl : List (Str × Addr)) (fp : List Addr), PG (X.blk s H scope (compEnvC scope cl C X.env) fp) tg g)
    (pt : ∀ (s : Shared) (H : Hp) (C : Addr) (cl : List (Str × Addr)) (fp : List Addr), PTs (X.blk s H scope (compEnvC scope cl C X.env) fp) ifs tt)
    (pk : ∀ (s : Shared) (H : Hp) (C : Addr) (cl : List (Str × Addr)) (fp : List Addr), PE (X.blk s H scope (compEnvC scope cl C X.env) fp) kx tk)
    (pv : ∀ (s : Shared) (H : Hp) (C : Addr) (cl : List (Str × Addr)) (fp : List Addr), PE (X.blk s H scope (compEnvC scope cl C X.env) fp) vx tv) (hs : ∀ x, foldedSetIterable iter X.env x = pure x) :
    PS X (.Assign [.Name y py] (.DictComp kx vx [⟨tg, iter, ifs, 0⟩] scope pos) spos) (tAsg (tDc wi g tt tk tv (own.map (·.2))) (gName i)) := by
  constructor
  intro pins s σ H D I hh
  have hh : tDc wi g tt tk tv (own.map (·.2)) σ H (fun x H1 => gName i x σ H1 D.nx) := hh
  rw [exec_Assign_Name_used _ _ _ _ k3]
  refine wpAny_bind (wpAny_standAt (wpAny_bind (wpAny_bind (thn (dc_core (use := some (assign (.Name y py) X.env)) (Qf := fun _ t => SP X pins D .next t) hc hN I hi bo pg pt pk pv hs hh ?_) fun _ t ht => wpAny_pure (wpAny_pure ht)))))
  intro L C t m H1 J q ns fr
  show wpAny _ _ (assign (.Name y py) X.env (.ref L)) _ _ _
  refine wpAny_assign_Name (store_ok2 (v := V.ref L) J hN k1 (.inl k2) rfl ?_ (.inr k2))
  rintro t2 J2 ⟨b, sb, hb⟩
  obtain ⟨f0, f1, f2, f3, f4, f5⟩ := fr
  have ne : C ≠ b := hb.elim (fun z => z ▸ f1) fun z e => f4 y b z e.symm
  exact ⟨m, ns.sameBut sb ne, fun t3 sb3 => ⟨_, H1, J2.turned (t' := t2.toks) (fun c o hc e => (sb3.2 c hc).trans e) f0 f1 f3 f4 f5, q⟩⟩
theorem qs_setDc {i : Nat} {y : Str} {py spos : Pos} (own : List (Str × Nat)) (hc : X.calm = true) (hN : X.N.Nodup) (hy : X.N[i]? = some y) (hyl : X.env.scope.names.lookup y = some .local)
    (hsw : swapsWith (.DictComp kx vx [⟨tg, iter, ifs, 0⟩] scope pos) (some (.Name y py)) spos.line X.env = pure true) (hi : QI X false tg iter mi) (hk : blkC X.N X.env.scope scope own = true)
    (hg : ∀ (s : Shared) (H : Hp) (C : Addr) (cl : List (Str × Addr)) (fp : List Addr), QG (X.blk s H scope (compEnvC scope cl C X.env) fp) tg ws gs)
    (ht : ∀ (s : Shared) (H : Hp) (C : Addr) (cl : List (Str × Addr)) (fp : List Addr), QTs (X.blk s H scope (compEnvC scope cl C X.env) fp) ifs mt)
    (hkx : ∀ (s : Shared) (H : Hp) (C : Addr) (cl : List (Str × Addr)) (fp : List Addr), QE (X.blk s H scope (compEnvC scope cl C X.env) fp) kx mk)
    (he : ∀ (s : Shared) (H : Hp) (C : Addr) (cl : List (Str × Addr)) (fp : List Addr), QE (X.blk s H scope (compEnvC scope cl C X.env) fp) vx mv)
    (hw : ∀ j ∈ ws, j ∈ own.map (·.2) := by decide) (hs : ∀ x, foldedSetIterable iter X.env x = pure x := by intro _; rfl) :
    QS X (.Assign [.Name y py] (.DictComp kx vx [⟨tg, iter, ifs, 0⟩] scope pos) spos) (sAsg i (mDc (own.map (·.2)) mi gs mt mk mv)) :=
  ⟨_, ps_dcset (wi := tCI X.K false mi) (g := tCG X.K ws gs) (tt := tCT X.K mt) (tk := tCE X.K mk) (tv := tCE X.K mv) hc hN hy hyl hsw hi.c (blkOk_by hk) (fun s H C cl fp => (hg s H C cl fp).c) (fun s H C cl fp => (ht s H C cl fp).c) (fun s H C cl fp => (hkx s H C cl fp).c) (fun s H C cl fp => (he s H C cl fp).c) hs, ss_asg (se_dc siC sgC hw stC seC seC)⟩
end
end Q

set_option Elab.async false
set_option linter.all false
set_option maxRecDepth 100000
set_option maxHeartbeats 1000000
namespace Q
open PySem L2 PyProof.Rows
/-! ### enumerate over lists and tuples -/
abbrev enObj (n : Nat) : Obj := { cls := .type "enumerate", data := .fields #[.none, .bool false, .ref n, rawInt 0, .none, .none] }
theorem en_new {v : Value} {o : Obj} {G : Heap → Prop} (B : Begins v o G) :
    Meets (Builtin.«enumerate.__new__» ⟨[.type "enumerate", v], []⟩) (fun _ R s => G s.heap ∧ R (.ok (.ret (.ref (s.heap.push o).objs.size))) { s with heap := (s.heap.push o).push (enObj s.heap.objs.size) }) :=
  .of_wp fun prog w A R s h => by
    obtain ⟨hp, g, d, tk, os⟩ := s
    obtain ⟨h1, h⟩ := h
    have sub1 := sub_enumerate
    have step : ∀ {A2 : Around} {E2 : Value → Shared → Prop} {Q2 : Value → Shared → Prop}, Q2 (.ref hp.objs.size) ⟨hp.push o, g, d, tk, os⟩ → wpAny (model prog w) A2 (pyIter v) Q2 E2 ⟨hp, g, d, tk, os⟩ :=
      fun q => B.iter prog w _ _ ⟨hp, g, d, tk, os⟩ _ h1 q
    wp_walk using step
    refine wpAny_stack_any fun st => wpAny_pure ?_
    split
    · rename_i c _ _ _ _ _
      cases (c == Value.type "enumerate") <;> (wp_walk using step; exact ⟨_, rfl, h⟩)
    · wp_walk using step
      exact ⟨_, rfl, h⟩
theorem en_call {prog : Program} {w : World} {A : Around} {E : Value → Shared → Prop} {s : Shared} {v : Value} {o : Obj} {G : Heap → Prop} {Q : Value → Shared → Prop} (B : Begins v o G) (h1 : G s.heap)
    (h : ∀ h', IsEnum h' (s.heap.objs.size + 1) s.heap.objs.size 0 .none → h'.get? s.heap.objs.size = some o → (∀ b u, s.heap.get? b = some u → h'.get? b = some u) → Q (.ref (s.heap.objs.size + 1)) { s with heap := h' }) :
    wpAny (model prog w) A (call (.type "enumerate") [v]) Q E s := by
  refine callType_new PySem.F.called_enumerate (by decide) (PySem.F.typeCall_enumerate_1 _) (PySem.F.newCall_enumerate_1 _) (fun x => PySem.F.args_object_init_2 x _) PySem.F.entry_enumerate_new (en_new B) ⟨h1, ?_⟩
  have z : (s.heap.push o).objs.size = s.heap.objs.size + 1 := Heap.size_push ..
  have e1 : ((s.heap.push o).push (enObj s.heap.objs.size)).get? (s.heap.objs.size + 1) = some (enObj s.heap.objs.size) := by
    rw [← z]; exact Heap.get?_push_size _ rfl
  show _ ∧ _
  rw [z]
  exact ⟨⟨_, e1, rfl⟩, h _ e1 (Heap.get?_push_of_some _ (Heap.get?_push_size _ B.free)) fun b u q => Heap.get?_push_of_some _ (Heap.get?_push_of_some _ q)⟩
def IteT (K : PySem.W.Frag) (a : Addr) : It where
  go := fun i H => ∃ (xs : List V) (x : V), SqT K H a xs ∧ xs[i]? = some x
  yld := fun i H v H' => ∃ T x, v = .ref T ∧ H T = none ∧ H' = upd H T (.tup [.int (i : Nat), x]) ∧ ∀ xs, SqT K H a xs → xs[i]? = some x
  stop := fun i H => ∃ xs : List V, SqT K H a xs ∧ xs.length = i
theorem turn_enT {P : Program} {w : World} {K : PySem.W.Frag} {elts : List Expr} {kk : Nat} {tpos : Pos} (a e it : Addr) :
    Turn P w K (.Tuple elts kk tpos) (IteT K a) [e, it] e (fun i h => e ≠ it ∧ h.IsTupleIter it a i ∧ ∃ old, IsEnum h e it ((i : Nat) : Int) old) where
  mem := List.mem_cons_self
  obj := fun i h st b hb => by
    obtain ⟨_, ⟨o, ho, _, hd⟩, old, he⟩ := st
    rcases List.mem_cons.mp hb with z | hb
    · subst z; exact ⟨_, he, fun v q => nomatch q⟩
    · have z := List.mem_singleton.mp hb
      subst z; exact ⟨o, ho, fun v q => by rw [hd] at q; cases q⟩
  keep := fun i h h' st k => by
    obtain ⟨n, hi, old, he⟩ := st
    exact ⟨n, hi.at fun o q => k it (List.mem_cons_of_mem _ (List.mem_singleton.mpr rfl)) o q, old, k e List.mem_cons_self _ he⟩
  item := by
    intro X hP hw hK hc i pins s σ H E I hf st hg
    subst hP hw hK
    obtain ⟨ne, hit, old, he⟩ := st
    obtain ⟨xs, x, hq, hx⟩ := hg
    obtain ⟨its, rv, p, _⟩ := I.tuple hq
    obtain ⟨u, hu, ru⟩ := rv.get hx
    have le : e < s.heap.objs.size := Heap.lt_size he
    have li : it < s.heap.objs.size := by obtain ⟨_, q, _⟩ := hit; exact Heap.lt_size q
    have hai : a ≠ it := by
      intro z
      obtain ⟨o1, q1, _, n1, d1⟩ := p
      obtain ⟨o2, q2, _, d2⟩ := hit
      rw [← z, q1] at q2
      cases q2
      rw [d1] at d2
      cases d2
    have hae : e ∉ [it, a] := by
      intro z
      rcases List.mem_cons.mp z with z | z
      · exact ne z
      · have z := List.mem_singleton.mp z
        obtain ⟨o1, q1, _, n1, d1⟩ := p
        rw [← z, he] at q1
        cases q1
        cases d1
    have hi : i < its.toArray.size := by
      have := (List.getElem?_eq_some_iff.mp hu).1
      simpa using this
    refine wpAny_pyNext_enum_itemD (Draws.tuple (prog := X.prog) (w := X.w) (A := X.A.in1) (I.ok.hd hc) it a hai its.toArray) he ⟨hit, p⟩ hi ne hae fun y h' tk hy ho hst hT hsz hk => ?_
    have hyu : y = u := by
      have e1 : its.toArray[i]? = some u := by simpa using hu
      rw [e1] at hy
      exact (Option.some.inj hy).symm
    subst hyu
    refine ⟨_, rfl, wpAny_letOwnedTupleGo_enum (s := { s with heap := h', toks := tk + 1 }) ho fun h2 he2 sb => ?_⟩
    have hT2 : h2.get? s.heap.objs.size = some { cls := .type "tuple", data := .seq #[.int i tk, y] } := (sb.2 _ (Nat.ne_of_gt le)).trans hT
    have I2 : Inv X pins σ (upd H s.heap.objs.size (.tup [.int (i : Nat), x])) { s with heap := h2, toks := tk + 1 } := by
      refine I.turnedNew (ch := [e, it]) (fun b o hb q => ?_) hf (Nat.le_refl _) ⟨by show 2 ≤ sizeLine; decide, [.int i tk, y], .cons ⟨_, rfl⟩ (.cons ru .nil), ⟨_, hT2, rfl, _, rfl⟩⟩
      have b1 : b ≠ e := fun z => hb (by simp [z])
      have b2 : b ≠ it := fun z => hb (by simp [z])
      exact (sb.2 b b1).trans (hk b o b1 b2 q)
    refine ⟨.ref s.heap.objs.size, _, I2, rfl, ⟨_, x, rfl, I.hok.fresh (Nat.le_refl _), rfl, fun ys hy => by rw [I.tuple_inj hy hq]; exact hx⟩, ⟨ne, ?_, y, ?_⟩, fun b hb => ?_⟩
    · exact hst.1.at fun o q => (sb.2 it (Ne.symm ne)).trans q
    · have e1 : ((i + 1 : Nat) : Int) = (i : Int) + 1 := by omega
      rw [e1]
      exact he2
    · have lb : b < s.heap.objs.size := by
        rcases List.mem_cons.mp hb with z | z
        · rw [z]; exact le
        · rw [List.mem_singleton.mp z]; exact li
      rw [upd_ne (Nat.ne_of_lt lb)]
      exact (hf b hb).1
  done := by
    intro X hP hw hK hc i pins s σ H E I hf st hg
    subst hP hw hK
    obtain ⟨ne, hit, old, he⟩ := st
    obtain ⟨xs, hq, hx⟩ := hg
    obtain ⟨its, rv, p, _⟩ := I.tuple hq
    have hl := rv.length
    obtain ⟨f0, f1, f2, f3, f4, f5⟩ := hf it (List.mem_cons_of_mem _ (List.mem_singleton.mpr rfl))
    have hai : a ≠ it := by
      intro z
      obtain ⟨o1, q1, _, n1, d1⟩ := p
      obtain ⟨o2, q2, _, d2⟩ := hit
      rw [← z, q1] at q2
      cases q2
      rw [d1] at d2
      cases d2
    have en : its.toArray.size = i := by simp; omega
    refine wpAny_pyNext_enum_endD (Draws.tuple (prog := X.prog) (w := X.w) (A := X.A.in1) (I.ok.hd hc) it a hai its.toArray) he ⟨by rw [en]; exact hit, p⟩ fun h' hx' => ?_
    exact ⟨rfl, I.turned (t' := s.toks) (fun b o hb q => hx' b o hb q) f0 f1 f3 f4 f5⟩
  self := fun A i s Q E st h => by
    obtain ⟨_, _, old, he⟩ := st
    exact wpAny_pyIter_enum he h
def iEnA (K : PySem.W.Frag) (ta : TA) : TI := fun σ H R => ta σ H fun vs H1 => ∃ a xs, vs = [.ref a] ∧ ((SqL K H1 a xs ∧ R (Ite K a) H1) ∨ (SqT K H1 a xs ∧ R (IteT K a) H1))
theorem pi_enA {X : Cx} {e : Expr} {ta : TA} {p pos tpos : Pos} {elts : List Expr} {kk : Nat} (hg : Gl X "enumerate") (hm : X.mg "enumerate" = none) (ha : PA X [e] ta) (hs : starEach [e] X.env = [(false, eval e X.env)] := by rfl) :
    PI X (.Tuple elts kk tpos) (.Call (.Name "enumerate" p) [e] [] pos) (iEnA X.K ta) := by
  constructor
  intro pins s σ H R I h
  refine Call_ (ld_blt I hg hm boot_enumerate (PyProof.Rows.callWith_type1 (thn (ha.run pos pins s σ H _ I h) fun us s1 ⟨vs, H1, I1, r1, a, xs, ex, q1⟩ => ?_) hs rfl))
  subst ex
  obtain ⟨u, rfl, r⟩ := r1.one
  cases r
  have fresh : ∀ b ∈ [s1.heap.objs.size + 1, s1.heap.objs.size], FpOk X pins H1 b := fun b hb => by
    have hle : s1.heap.objs.size ≤ b := by
      rcases List.mem_cons.mp hb with z | z
      · rw [z]; exact Nat.le_succ _
      · rw [List.mem_singleton.mp z]; exact Nat.le_refl _
    exact I1.fpOk hle (I1.hok.fresh hle)
  rcases q1 with ⟨hq, q⟩ | ⟨hq, q⟩
  · obtain ⟨its, rv, pl, hz⟩ := I1.list hq
    refine en_call (begins_list a its.toArray) pl.isList fun h' he hit hk => wpAny_pyIter_enum he ?_
    exact ⟨_, _, _, _, H1, rfl, I1.kept (t' := s1.toks) hk, turn_enum a (s1.heap.objs.size + 1) s1.heap.objs.size, ⟨⟨.none, he⟩, ⟨_, hit, rfl, rfl⟩, Nat.succ_ne_self _⟩, fresh, q⟩
  · obtain ⟨its, rv, pl, hz⟩ := I1.tuple hq
    refine en_call (begins_tuple a its.toArray) pl fun h' he hit hk => wpAny_pyIter_enum he ?_
    exact ⟨_, _, _, _, H1, rfl, I1.kept (t' := s1.toks) hk, turn_enT a (s1.heap.objs.size + 1) s1.heap.objs.size, ⟨Nat.succ_ne_self _, ⟨_, hit, rfl, rfl⟩, .none, he⟩, fresh, q⟩
end Q

set_option Elab.async false
set_option linter.all false
set_option maxRecDepth 100000
set_option maxHeartbeats 1000000
namespace Q
open PySem L2 PyProof.Rows
theorem walkD_enT {K : PySem.W.Frag} {a : Addr} {vs : List V} {B : Hp} {ds : List D} (r : Rps K B ds vs) : WalkD K (IteT K a) (fun H => SqT K H a vs) B (enumD ds) where
  go := fun i H hi g => by
    have h1 : i < ds.length := by simpa [enumD] using hi
    exact ⟨vs, vs[i]'(by rw [← r.len]; exact h1), g, by simp⟩
  stop := fun H g => ⟨vs, g, by
    have : (enumD ds).length = ds.length := by simp [enumD]
    rw [this, r.len]⟩
  yld := fun i d H x H' B1 e g e1 e2 y => by
    obtain ⟨T, z, hv, hT, hH, y2⟩ := y
    unfold enumD at e
    rw [List.getElem?_map] at e
    obtain ⟨p, h1, rfl⟩ := Option.map_eq_some_iff.mp e
    obtain ⟨h2, h3⟩ := zip_get h1
    have hp : p.1 = i := by
      obtain ⟨q1, q2⟩ := List.getElem?_eq_some_iff.mp h2
      simpa using q2.symm
    obtain ⟨v, k1, k2⟩ := r.get h3
    have hz := y2 vs g
    rw [k1] at hz
    have hz := Option.some.inj hz
    subst hz hv hH
    have w := Wd.new (x := .tup [.int (i : Nat), v]) e2 hT
    refine ⟨_, w, ?_⟩
    rw [Rp]
    refine ⟨T, _, rfl, SqT.of upd_same, ?_⟩
    rw [hp]
    exact Rps.cons (by rw [Rp]) (Rps.one (Rp.mono (e1.trans w.b0) _ _ k2))
def mEnumF (m : EM O) : EM (List D) := fun env => (m env).bind fun p => match p.1.frz with
  | .tup ds => some (enumD ds, p.2)
  | .lst ds => some (enumD ds, p.2)
  | _ => none
def mEnumV (m : EM O) : EM (List D) := fun env => (m env).bind fun p => (p.1.asS).bind fun os => (os.mapM O.d?).bind fun ds => some (enumD ds, p.2)
@[simp] theorem e_mEnumF {m : EM O} {env : En} : mEnumF m env = (m env).bind fun p => match p.1.frz with
  | .tup ds => some (enumD ds, p.2)
  | .lst ds => some (enumD ds, p.2)
  | _ => none := rfl
@[simp] theorem e_mEnumV {m : EM O} {env : En} : mEnumV m env = (m env).bind fun p => (p.1.asS).bind fun os => (os.mapM O.d?).bind fun ds => some (enumD ds, p.2) := rfl
section
variable {X : Cx} {e : Expr} {p pos tpos : Pos} {m : EM O} {elts : List Expr} {kk : Nat}
theorem qi_enumF (hg : Gl X "enumerate") (hm : X.mg "enumerate" = none) (ha : QE X e m) (hs : starEach [e] X.env = (false, eval e X.env) :: starEach [] X.env := by rfl) : QI X true (.Tuple elts kk tpos) (.Call (.Name "enumerate" p) [e] [] pos) (mEnumF m) := by
  obtain ⟨t, h1, h2⟩ := ha
  refine ⟨_, pi_enA hg hm (pa_cons h1 pa_nil hs) hs, fun H0 B0 ln Γ B H σ env s ds env' em R q => ?_⟩
  obtain ⟨pr, em1, em⟩ := bind_some em
  obtain ⟨o, env1⟩ := pr
  refine h2 H0 B0 ln Γ B H σ env s _ _ em1 _ fun v B1 H1 e1 e2 s1 => ?_
  obtain ⟨B2, e3, s2⟩ := s1.frz
  have r := s2.rp
  generalize hos : o.frz = f at r
  have em : (match o.frz with | .tup ds => some (enumD ds, env1) | .lst ds => some (enumD ds, env1) | _ => none) = some (ds, env') := em
  rw [hos] at em
  split at em
  · cases em
    rw [Rp] at r
    obtain ⟨a, vs, rfl, g1, g2⟩ := r
    refine ⟨a, vs, rfl, .inr ⟨s2.w.bh.t g1, q _ B2 H1 (e1.trans e3) e2 s2.pop ((walkD_enT g2).mono fun H2 g => ?_)⟩⟩
    have g : Ex B2 H2 := by simpa using g
    exact g.t g1
  · cases em
    rw [Rp] at r
    obtain ⟨a, vs, rfl, g1, g2⟩ := r
    refine ⟨a, vs, rfl, .inl ⟨s2.w.bh.l g1, q _ B2 H1 (e1.trans e3) e2 s2.pop ((walkD_enum g2).mono fun H2 g => ?_)⟩⟩
    have g : Ex B2 H2 := by simpa using g
    exact g.l g1
  · cases em
theorem qi_enumV (hg : Gl X "enumerate") (hm : X.mg "enumerate" = none) (ha : QV X e m) (hs : starEach [e] X.env = (false, eval e X.env) :: starEach [] X.env := by rfl) : QI X false (.Tuple elts kk tpos) (.Call (.Name "enumerate" p) [e] [] pos) (mEnumV m) := by
  obtain ⟨t, h1, h2⟩ := ha
  refine ⟨_, pi_enA hg hm (pa_cons h1 pa_nil hs) hs, fun H0 B0 ln Γ B H σ env s ds env' em R q => ?_⟩
  obtain ⟨pr, em1, em⟩ := bind_some em
  obtain ⟨os, l1, em⟩ := bind_some em
  obtain ⟨ds', l2, em⟩ := bind_some em
  cases em
  refine h2 H0 B0 ln Γ B H σ env s _ _ em1 _ fun v B1 H1 e1 e2 s1 w1 => ?_
  have sh : ∀ H2 : Hp, (if (false : Bool) = true then Ex B1 H2 else Ex H1 H2) → Ex H1 H2 := fun H2 g => by simpa using g
  obtain ⟨o, env1⟩ := pr
  unfold O.asS at l1
  split at l1
  · rename_i d0 hd0
    have hd0 : o = .fz (.lst d0) := hd0
    subst hd0
    obtain ⟨a, vs, rfl, g1, g2⟩ := asL_ok (os := d0.map .fz) s1.w.bh w1 rfl
    cases l1
    exact ⟨a, vs, rfl, .inl ⟨g1, q _ B1 H1 e1 e2 s1 ((walkD_enum (g2.dat l2)).mono fun H2 g => (sh H2 g).l g1)⟩⟩
  · rename_i os0 hd0
    have hd0 : o = .ls os0 := hd0
    subst hd0
    obtain ⟨a, vs, rfl, g1, g2⟩ := asL_ok (os := os0) s1.w.bh w1 rfl
    cases l1
    exact ⟨a, vs, rfl, .inl ⟨g1, q _ B1 H1 e1 e2 s1 ((walkD_enum (g2.dat l2)).mono fun H2 g => (sh H2 g).l g1)⟩⟩
  · rename_i d0 hd0
    have hd0 : o = .fz (.tup d0) := hd0
    subst hd0
    obtain ⟨a, vs, rfl, g1, g1', g2⟩ := asT_ok (ds := d0) s1.w.bh w1 rfl
    cases l1
    rw [mapM_fz] at l2
    cases l2
    exact ⟨a, vs, rfl, .inr ⟨g1, q _ B1 H1 e1 e2 s1 ((walkD_enT g2).mono fun H2 g => (sh H2 g).t g1)⟩⟩
  · cases l1
/-- range(i, j, -1) -/
def mR3 (m : EM (List O)) : EM (List D) := fun env => (m env).bind fun p => match p.1 with
  | [.fz (.int i), .fz (.int j), .fz (.int (-1))] => if -4611686018427387904 ≤ i ∧ i < 4611686018427387904 ∧ -4611686018427387904 ≤ j ∧ j < 4611686018427387904 then some (rangeC i (-1) (i - j).toNat, p.2) else none
  | _ => none
@[simp] theorem e_mR3 {m : EM (List O)} {env : En} : mR3 m env = (m env).bind fun p => match p.1 with
  | [.fz (.int i), .fz (.int j), .fz (.int (-1))] => if -4611686018427387904 ≤ i ∧ i < 4611686018427387904 ∧ -4611686018427387904 ≤ j ∧ j < 4611686018427387904 then some (rangeC i (-1) (i - j).toNat, p.2) else none
  | _ => none := rfl
theorem vws3 {K : PySem.W.Frag} {B H : Hp} {o o' o2 : O} {vs : List V} (w : Vws K B H [o, o', o2] vs) : ∃ v u z, vs = [v, u, z] ∧ Vw K B H o v ∧ Vw K B H o' u ∧ Vw K B H o2 z := by
  rw [Vws] at w
  obtain ⟨v, r, rfl, w1, w2⟩ := w
  obtain ⟨u, z, rfl, w3, w4⟩ := vws2 w2
  exact ⟨v, u, z, rfl, w1, w3, w4⟩
theorem qi_range3 {a b c tg : Expr} {mA : EM (List O)} {fz : Bool} (hg : Gl X "range") (hm : X.mg "range" = none) (ha : QVA X [a, b, c] mA) (hs : starEach [a, b, c] X.env = (false, eval a X.env) :: starEach [b, c] X.env := by rfl) (hpl : (backTo pos (starEach [b, c] X.env)).any (·.1) = false := by rfl) :
    QI X fz tg (.Call (.Name "range" p) [a, b, c] [] pos) (mR3 mA) := by
  obtain ⟨t, h1, h2⟩ := ha
  refine ⟨_, pi_range3 hg hm h1 hs hpl, fun H0 B0 ln Γ B H σ env s ds env' em R q => ?_⟩
  obtain ⟨pr, em1, em⟩ := bind_some em
  obtain ⟨os, env1⟩ := pr
  refine h2 H0 B0 ln Γ B H σ env s _ _ em1 _ fun vs B1 H1 e1 e2 s1 w1 => ?_
  split at em
  · rename_i i j hj
    have hj' : os = [.fz (.int i), .fz (.int j), .fz (.int (-1))] := hj
    subst hj'
    split at em
    · rename_i hb
      cases em
      obtain ⟨v, u, z, rfl, w2, w3, w4⟩ := vws3 w1
      have := vw_int w2
      subst this
      have := vw_int w3
      subst this
      have := vw_int w4
      subst this
      exact ⟨i, j, -1, (i - j).toNat, rfl, RgC.neg (p62 ▸ hb.1) (p62 ▸ hb.2.1) (p62 ▸ hb.2.2.1) (p62 ▸ hb.2.2.2), q _ B1 H1 e1 e2 s1 (walkD_rangeC.mono fun _ _ => trivial)⟩
    · cases em
  · cases em
end
/-! shifts -/
def oShr : O → O → Option O := oIg fun i j => if 0 ≤ j then some (.fz (.int (i / 2 ^ j.toNat))) else none
@[simp] theorem e_shr {i j : Int} : oShr (.fz (.int i)) (.fz (.int j)) = if 0 ≤ j then some (.fz (.int (i / 2 ^ j.toNat))) else none := rfl
theorem q_shr {X : Cx} : QOp X (binaryOp .RShift) oShr := ⟨_, op_shr, rs_I fun i j o h => by
  split at h
  · rename_i hc; cases h; exact ⟨hc, _, rfl, fun B => by rw [Rp]⟩
  · cases h⟩
@[simp] theorem e_oDIx {a b : O} : oDIx a b = (a.asD).bind fun p => (b.key).bind fun k => (lookD p.1 p.2 k).map .fz := rfl
@[simp] theorem e_oDIn {a b : O} : oDIn b a = (a.asD).bind fun p => (b.key).bind fun k => some (.fz (.bl (lookD p.1 p.2 k).isSome)) := rfl
@[simp] theorem e_oDNotIn {a b : O} : oDNotIn b a = (a.asD).bind fun p => (b.key).bind fun k => some (.fz (.bl (!(lookD p.1 p.2 k).isSome))) := rfl
@[simp] theorem e_asDk {ks : List Key} {ds : List D} : O.asD (.fz (.dk ks ds)) = some (ks, ds) := rfl
@[simp] theorem e_asOk {ks : List Key} {ds : List D} : O.asD (.ok ks ds) = some (ks, ds) := rfl
@[simp] theorem e_keyI {i : Int} : O.key (.fz (.int i)) = some (.inl i) := rfl
@[simp] theorem e_keyS {i : Str} : O.key (.fz (.str i)) = some (.inr i) := rfl
@[simp] theorem e_frzOk {ks : List Key} {ds : List D} : O.frz (.ok ks ds) = .dk ks ds := rfl
end Q

set_option Elab.async false
set_option linter.all false
set_option maxRecDepth 100000
set_option maxHeartbeats 1000000
namespace Q
open PySem L2
/-! ### plain facts on dicts -/
abbrev keyN (i : Nat) : Key := .inl (i : Int)
theorem keyN_inj {i j : Nat} : keyN i = keyN j ↔ i = j := by
  constructor
  · intro h
    have h : ((i : Int)) = (j : Int) := Sum.inl.inj h
    omega
  · rintro rfl; rfl
theorem lookD_notin : ∀ {ks : List Key} {ds : List D} {k : Key}, k ∉ ks → lookD ks ds k = none
  | [], ds, k, _ => by cases ds <;> rfl
  | j :: ks, [], k, _ => rfl
  | j :: ks, d :: ds, k, h => by
    rw [lookD, if_neg (fun z => h (by rw [z]; exact List.mem_cons_self))]
    exact lookD_notin fun z => h (List.mem_cons_of_mem _ z)
theorem lookD_map {α : Type} (kf : α → Key) (vf : α → D) : ∀ (xs : List α) (x : α), x ∈ xs → (xs.map kf).Nodup → lookD (xs.map kf) (xs.map vf) (kf x) = some (vf x)
  | y :: xs, x, h, nd => by
    rw [List.map_cons, List.map_cons, lookD]
    rw [List.map_cons, List.nodup_cons] at nd
    rcases List.mem_cons.mp h with rfl | h
    · rw [if_pos rfl]
    · rw [if_neg fun z => nd.1 (by rw [z]; exact List.mem_map_of_mem h)]
      exact lookD_map kf vf xs x h nd.2
theorem lookD_isSome {ks : List Key} {ds : List D} {k : Key} (hl : ks.length = ds.length) : (lookD ks ds k).isSome = true ↔ k ∈ ks := by
  induction ks generalizing ds with
  | nil => cases ds <;> simp [lookD]
  | cons j ks ih =>
    cases ds with
    | nil => simp at hl
    | cons d ds =>
      rw [lookD]
      by_cases h : j = k
      · subst h; simp
      · rw [if_neg h, ih (by simpa using hl)]
        simp [Ne.symm h]
theorem lookN_isSome {xs : List Nat} {ds : List D} {x : Nat} (hl : xs.length = ds.length) : (lookD (xs.map keyN) ds (keyN x)).isSome = decide (x ∈ xs) := by
  rw [Bool.eq_iff_iff, lookD_isSome (by simpa using hl), decide_eq_true_eq, List.mem_map]
  constructor
  · rintro ⟨y, hy, e⟩
    rw [← keyN_inj.mp e]; exact hy
  · exact fun h => ⟨x, h, rfl⟩
/-- a dict comprehension over distinct keys, nothing left out -/
theorem dc_map {α : Type} {vs : List Nat} {gs : D → En → Option En} {mk mv : EM O} {env : En} (f : α → D) (kf : α → Key) (vf : α → D) : ∀ (xs : List α) (ks : List Key) (acc : List D), okE env vs = true → ks.length + xs.length ≤ sizeLine → (ks ++ xs.map kf).Nodup →
    (∀ x ∈ xs, ∃ e1 e2 e3 o, gs (f x) (wipeE env vs) = some e1 ∧ mk e1 = some (o, e2) ∧ o.key = some (kf x) ∧ mv e2 = some (.fz (vf x), e3) ∧ backE env e3 vs = env) →
    dcLoop vs gs mYes mk mv (xs.map f) ks acc env = some ((ks ++ xs.map kf, acc ++ xs.map vf), env)
  | [], ks, acc, _, _, _, _ => by simp [dcLoop]
  | x :: xs, ks, acc, h0, hz, nd, h => by
    obtain ⟨e1, e2, e3, o, h1, h2, h3, h4, h5⟩ := h x (by simp)
    rw [List.length_cons] at hz
    have hn : kf x ∉ ks := by
      rw [List.map_cons, List.nodup_append] at nd
      exact fun z => nd.2.2 _ z (kf x) (by simp) rfl
    rw [List.map_cons, dcLoop, if_pos h0, h1, Option.bind_some, e_mYes, Option.bind_some]
    show (if true = true then (mk e1).bind _ else _) = _
    rw [if_pos rfl, h2, Option.bind_some, h4, Option.bind_some, h3, Option.bind_some, if_pos ⟨by omega, lookD_notin hn⟩]
    show dcLoop vs gs mYes mk mv (xs.map f) (ks ++ [kf x]) (acc ++ [(O.fz (vf x)).frz]) (backE env e3 vs) = _
    rw [h5, dc_map f kf vf xs _ _ h0 (by rw [List.length_append, List.length_singleton]; omega) (by rw [List.append_assoc]; exact nd) fun y hy => h y (by simp [hy])]
    simp
/-- enumerate -/
theorem enumD_map {α : Type} (g : α → D) (xs : List α) : enumD (xs.map g) = ((List.range xs.length).zip xs).map fun p => .tup [.int (p.1 : Nat), g p.2] := by
  unfold enumD
  rw [List.length_map]
  apply List.ext_getElem?
  intro i
  simp only [List.getElem?_map, List.getElem?_zip_eq_some, Option.map_map]
  by_cases h : i < xs.length
  · have h1 : i < ((List.range xs.length).zip (xs.map g)).length := by simp [h]
    have h2 : i < ((List.range xs.length).zip xs).length := by simp [h]
    rw [List.getElem?_eq_getElem h1, List.getElem?_eq_getElem h2]
    simp
  · rw [List.getElem?_eq_none (by simp; omega), List.getElem?_eq_none (by simp; omega)]
    rfl
theorem zip_range_fst {α : Type} (xs : List α) : ((List.range xs.length).zip xs).map Prod.fst = List.range xs.length := by
  rw [List.map_fst_zip]; simp
theorem zip_range_snd {α : Type} (xs : List α) : ((List.range xs.length).zip xs).map Prod.snd = xs := by
  rw [List.map_snd_zip]; simp
theorem zip_range_mem {α : Type} {xs : List α} {i : Nat} (h : i < xs.length) : (i, xs[i]) ∈ (List.range xs.length).zip xs := by
  refine List.mem_iff_getElem?.mpr ⟨i, ?_⟩
  rw [List.getElem?_zip_eq_some]
  exact ⟨by simp [h], by simp⟩
theorem of_zip_range {α : Type} {xs : List α} {p : Nat × α} (h : p ∈ (List.range xs.length).zip xs) : ∃ hi : p.1 < xs.length, xs[p.1] = p.2 := by
  obtain ⟨i, hi⟩ := List.mem_iff_getElem?.mp h
  rw [List.getElem?_zip_eq_some] at hi
  obtain ⟨h1, h2⟩ := hi
  obtain ⟨h3, h4⟩ := List.getElem?_eq_some_iff.mp h1
  obtain ⟨h5, h6⟩ := List.getElem?_eq_some_iff.mp h2
  have : i = p.1 := by simpa using h4
  subst this
  exact ⟨h5, h6⟩
/-- {x: i for i, x in enumerate(xs)} -/
theorem look_idx {xs : List Nat} (nd : xs.Nodup) {x : Nat} (h : x ∈ xs) : lookD (xs.map keyN) ((List.range xs.length).map fun (i : Nat) => D.int (i : Int)) (keyN x) = some (.int ((xs.idxOf x : Nat) : Int)) := by
  have hi : xs.idxOf x < xs.length := List.idxOf_lt_length_of_mem h
  have e := lookD_map (fun p : Nat × Nat => keyN p.2) (fun p => D.int (p.1 : Int)) ((List.range xs.length).zip xs) (xs.idxOf x, xs[xs.idxOf x]) (zip_range_mem hi) ?_
  · have e1 : (((List.range xs.length).zip xs).map fun p : Nat × Nat => keyN p.2) = xs.map keyN := by
      rw [show (fun p : Nat × Nat => keyN p.2) = keyN ∘ Prod.snd from rfl, ← List.map_map, zip_range_snd]
    have e2 : (((List.range xs.length).zip xs).map fun p : Nat × Nat => D.int (p.1 : Int)) = (List.range xs.length).map fun (i : Nat) => D.int (i : Int) := by
      rw [show (fun p : Nat × Nat => D.int (p.1 : Int)) = (fun (i : Nat) => D.int (i : Int)) ∘ Prod.fst from rfl, ← List.map_map, zip_range_fst]
    rw [e1, e2] at e
    simpa using e
  · rw [show (fun p : Nat × Nat => keyN p.2) = keyN ∘ Prod.snd from rfl, ← List.map_map, zip_range_snd]
    exact nodup_map nd fun a b h => keyN_inj.mp h
where
  nodup_map {xs : List Nat} (nd : xs.Nodup) (inj : ∀ a b, keyN a = keyN b → a = b) : (xs.map keyN).Nodup := by
    unfold List.Nodup at *
    exact List.Pairwise.map _ (fun a b h e => h (inj a b e)) nd
theorem keys_nodup {xs : List Nat} (nd : xs.Nodup) : (xs.map keyN).Nodup := by
  unfold List.Nodup at *
  exact List.Pairwise.map _ (fun a b h e => h (keyN_inj.mp e)) nd
@[simp] theorem e_asST {ds : List D} : O.asS (.fz (.tup ds)) = some (ds.map .fz) := rfl
@[simp] theorem e_asSL {ds : List D} : O.asS (.fz (.lst ds)) = some (ds.map .fz) := rfl
@[simp] theorem e_asSO {os : List O} : O.asS (.ls os) = some os := rfl
abbrev natD (i : Nat) : D := .int (i : Int)
/-- enumerate over numbers, new and old: {old: new ..} -/
theorem dc_enum {vs : List Nat} {gs : D → En → Option En} {mk mv : EM O} {env : En} (xs : List Nat) (nd : xs.Nodup) (hz : xs.length ≤ 16000000) (h0 : okE env vs = true)
    (h : ∀ i x : Nat, ∃ e1 e2 e3, gs (.tup [natD i, natD x]) (wipeE env vs) = some e1 ∧ mk e1 = some (.fz (natD x), e2) ∧ mv e2 = some (.fz (natD i), e3) ∧ backE env e3 vs = env) :
    dcLoop vs gs mYes mk mv (enumD (xs.map natD)) [] [] env = some ((xs.map keyN, (List.range xs.length).map natD), env) := by
  have e1 : (((List.range xs.length).zip xs).map fun p : Nat × Nat => keyN p.2) = xs.map keyN := by
    rw [show (fun p : Nat × Nat => keyN p.2) = keyN ∘ Prod.snd from rfl, ← List.map_map, zip_range_snd]
  have e2 : (((List.range xs.length).zip xs).map fun p : Nat × Nat => natD p.1) = (List.range xs.length).map natD := by
    rw [show (fun p : Nat × Nat => natD p.1) = natD ∘ Prod.fst from rfl, ← List.map_map, zip_range_fst]
  rw [enumD_map, dc_map (fun p : Nat × Nat => .tup [.int (p.1 : Nat), natD p.2]) (fun p => keyN p.2) (fun p => natD p.1) _ [] [] h0 (by simp; omega) (by rw [e1, List.nil_append]; exact keys_nodup nd) fun p _ => ?_, e1, e2]
  · rfl
  · obtain ⟨a, b, c, h1, h2, h3, h4⟩ := h p.1 p.2
    exact ⟨a, b, c, _, h1, h2, rfl, h3, h4⟩
@[simp] theorem mapM_fzc {ds : List D} : List.mapM (O.d? ∘ O.fz) ds = some ds := by
  rw [← List.mapM_map]; exact mapM_fz ds
end Q

set_option Elab.async false
set_option linter.all false
set_option maxRecDepth 100000
set_option maxHeartbeats 1000000
namespace Q
open PySem L2
/-! ### playing on inside a set of states: plain facts -/
/-- a row's chances over one small denominator -/
def RowD (r : List (Nat × Rat)) : Prop := ∃ W : Int, 0 < W ∧ W.natAbs < 2 ^ 7 ∧ ∀ p ∈ r, ∃ z : Int, p.2 * (W : Rat) = (z : Rat) ∧ 0 ≤ z ∧ z ≤ W
structure GameSz (rs : List Rat) (rows : List (List (Nat × Rat))) (n : Nat) : Prop where
  ok : GameOk rs rows n
  rw : ∀ q ∈ rs, Sq 110 4 q
  rl : ∀ r ∈ rows, r.length ≤ 24
  rp : ∀ r ∈ rows, ∀ p ∈ r, sz p.2 ≤ 7
  rd : ∀ r ∈ rows, RowD r
structure Disc (b : Rat) : Prop where
  nn : 0 ≤ b
  lt : b < 1
  sz : sz b ≤ 8
def rwA (rs : List Rat) (x : Nat) : Rat := (rs[x]?).getD 0
def rowA (rows : List (List (Nat × Rat))) (x : Nat) : List (Nat × Rat) := (rows[x]?).getD []
def lvStep (b : Rat) (xs : List Nat) (s : (Nat → Rat) × Rat) (p : Nat × Rat) : (Nat → Rat) × Rat :=
  if p.1 ∈ xs then (fun l => if l = xs.idxOf p.1 then s.1 l - b * p.2 else s.1 l, s.2) else (s.1, s.2 + b * p.2)
def unitF (k : Nat) : Nat → Rat := fun l => if l = k then 1 else 0
def lvRow (b : Rat) (xs : List Nat) (k : Nat) (r : List (Nat × Rat)) : (Nat → Rat) × Rat := r.foldl (lvStep b xs) (unitF k, 0)
theorem lv_fst (b : Rat) (xs : List Nat) (l : Nat) : ∀ (r : List (Nat × Rat)) (s : (Nat → Rat) × Rat), (r.foldl (lvStep b xs) s).1 l = s.1 l - b * sm (fun p => if p.1 ∈ xs ∧ xs.idxOf p.1 = l then p.2 else 0) r
  | [], s => by
    show s.1 l = s.1 l - b * 0
    grind
  | p :: r, s => by
    rw [List.foldl_cons, lv_fst b xs l r]
    show _ = s.1 l - b * ((if p.1 ∈ xs ∧ xs.idxOf p.1 = l then p.2 else 0) + sm (fun p => if p.1 ∈ xs ∧ xs.idxOf p.1 = l then p.2 else 0) r)
    unfold lvStep
    by_cases h : p.1 ∈ xs
    · rw [if_pos h]
      by_cases h2 : xs.idxOf p.1 = l
      · rw [if_pos ⟨h, h2⟩]
        show (if l = xs.idxOf p.1 then _ else _) - _ = _
        rw [if_pos h2.symm]
        grind
      · rw [if_neg fun z => h2 z.2]
        show (if l = xs.idxOf p.1 then _ else _) - _ = _
        rw [if_neg fun z => h2 z.symm]
        grind
    · rw [if_neg h, if_neg fun z => h z.1]
      show s.1 l - _ = _
      grind
theorem lv_snd (b : Rat) (xs : List Nat) : ∀ (r : List (Nat × Rat)) (s : (Nat → Rat) × Rat), (r.foldl (lvStep b xs) s).2 = s.2 + b * sm (fun p => if p.1 ∈ xs then 0 else p.2) r
  | [], s => by
    show s.2 = s.2 + b * 0
    grind
  | p :: r, s => by
    rw [List.foldl_cons, lv_snd b xs r]
    show _ = s.2 + b * ((if p.1 ∈ xs then 0 else p.2) + sm (fun p => if p.1 ∈ xs then 0 else p.2) r)
    unfold lvStep
    by_cases h : p.1 ∈ xs
    · rw [if_pos h, if_pos h]
      show s.2 + _ = _
      grind
    · rw [if_neg h, if_neg h]
      show s.2 + b * p.2 + _ = _
      grind
/-- what the step leaves of the sizes -/
theorem lv_sz {b : Rat} (hb : sz b ≤ 8) (xs : List Nat) : ∀ (r : List (Nat × Rat)) (s : (Nat → Rat) × Rat) (K : Nat), (∀ p ∈ r, sz p.2 ≤ 7) → (∀ l, sz (s.1 l) ≤ K) → sz s.2 ≤ K →
    (∀ l, sz ((r.foldl (lvStep b xs) s).1 l) ≤ K + 16 * r.length) ∧ sz (r.foldl (lvStep b xs) s).2 ≤ K + 16 * r.length
  | [], s, K, _, h1, h2 => ⟨fun l => h1 l, h2⟩
  | p :: r, s, K, hp, h1, h2 => by
    have hpp := hp p (by simp)
    have hm := sz_mul b p.2
    have q1 : ∀ l, sz ((lvStep b xs s p).1 l) ≤ K + 16 := fun l => by
      unfold lvStep
      split
      · show sz (if l = xs.idxOf p.1 then s.1 l - b * p.2 else s.1 l) ≤ _
        have := h1 l
        split
        · have := sz_sub (s.1 l) (b * p.2); omega
        · omega
      · have := h1 l; show sz (s.1 l) ≤ _; omega
    have q2 : sz (lvStep b xs s p).2 ≤ K + 16 := by
      unfold lvStep
      split
      · show sz s.2 ≤ _; omega
      · show sz (s.2 + b * p.2) ≤ _
        have := sz_add s.2 (b * p.2); omega
    obtain ⟨a, c⟩ := lv_sz hb xs r _ (K + 16) (fun q hq => hp q (by simp [hq])) q1 q2
    rw [List.foldl_cons, List.length_cons]
    exact ⟨fun l => by have := a l; omega, by omega⟩
theorem num_den (b : Rat) : b * ((b.den : Int) : Rat) = ((b.num : Int) : Rat) := by
  have h0 : ((b.den : Int) : Rat) ≠ 0 := fun z => by
    have := Rat.intCast_inj.mp (z.trans Rat.intCast_zero.symm)
    exact den_ne b this
  have e := divInt_div b.num (b.den : Int)
  rw [Rat.num_divInt_den] at e
  grind
/-- over one denominator -/
theorem lv_den {b : Rat} (hb : Disc b) (xs : List Nat) (W : Int) (hW : 0 < W) : ∀ (r : List (Nat × Rat)) (s : (Nat → Rat) × Rat) (i : Nat), (∀ p ∈ r, ∃ z : Int, p.2 * (W : Rat) = (z : Rat) ∧ 0 ≤ z ∧ z ≤ W) →
    (∀ l, ∃ z : Int, s.1 l * (((b.den : Int) * W : Int) : Rat) = (z : Rat) ∧ z.natAbs ≤ i * ((b.den : Int) * W).natAbs) → (∃ z : Int, s.2 * (((b.den : Int) * W : Int) : Rat) = (z : Rat) ∧ z.natAbs ≤ i * ((b.den : Int) * W).natAbs) →
    (∀ l, ∃ z : Int, (r.foldl (lvStep b xs) s).1 l * (((b.den : Int) * W : Int) : Rat) = (z : Rat) ∧ z.natAbs ≤ (i + r.length) * ((b.den : Int) * W).natAbs) ∧ ∃ z : Int, (r.foldl (lvStep b xs) s).2 * (((b.den : Int) * W : Int) : Rat) = (z : Rat) ∧ z.natAbs ≤ (i + r.length) * ((b.den : Int) * W).natAbs
  | [], s, i, _, h1, h2 => ⟨h1, h2⟩
  | p :: r, s, i, hp, h1, h2 => by
    obtain ⟨z, z1, z2, z3⟩ := hp p (by simp)
    have hbn : 0 ≤ b.num := Rat.num_nonneg.mpr hb.nn
    have hbl : b.num ≤ (b.den : Int) := by
      have := (Rat.lt_iff b 1).mp hb.lt
      simp at this
      omega
    have sh : b * p.2 * (((b.den : Int) * W : Int) : Rat) = ((b.num * z : Int) : Rat) := by
      have e : b * ((b.den : Int) : Rat) = ((b.num : Int) : Rat) := num_den b
      rw [Rat.intCast_mul, Rat.intCast_mul, ← z1, ← e]
      grind
    have sb : (b.num * z).natAbs ≤ ((b.den : Int) * W).natAbs := by
      have h3 : 0 ≤ b.num * z := Int.mul_nonneg hbn z2
      have h4 : b.num * z ≤ (b.den : Int) * W := Int.mul_le_mul hbl z3 z2 (by omega)
      omega
    have grow : ∀ x : Nat, x ≤ i * ((b.den : Int) * W).natAbs → x ≤ (i + 1) * ((b.den : Int) * W).natAbs := fun x hx => by
      rw [Nat.succ_mul]; omega
    have q1 : ∀ l, ∃ z : Int, (lvStep b xs s p).1 l * (((b.den : Int) * W : Int) : Rat) = (z : Rat) ∧ z.natAbs ≤ (i + 1) * ((b.den : Int) * W).natAbs := fun l => by
      obtain ⟨y, y1, y2⟩ := h1 l
      unfold lvStep
      split
      · show ∃ z : Int, (if l = xs.idxOf p.1 then s.1 l - b * p.2 else s.1 l) * _ = _ ∧ _
        split
        · refine ⟨y - b.num * z, ?_, ?_⟩
          · rw [show ∀ u v w : Rat, (u - v) * w = u * w - v * w from fun u v w => by grind, y1, sh, Rat.intCast_sub]
          · rw [Nat.succ_mul]; omega
        · exact ⟨y, y1, grow _ y2⟩
      · exact ⟨y, y1, grow _ y2⟩
    have q2 : ∃ z : Int, (lvStep b xs s p).2 * (((b.den : Int) * W : Int) : Rat) = (z : Rat) ∧ z.natAbs ≤ (i + 1) * ((b.den : Int) * W).natAbs := by
      obtain ⟨y, y1, y2⟩ := h2
      unfold lvStep
      split
      · exact ⟨y, y1, grow _ y2⟩
      · show ∃ z : Int, (s.2 + b * p.2) * _ = _ ∧ _
        refine ⟨y + b.num * z, ?_, ?_⟩
        · rw [Rat.add_mul, y1, sh, Rat.intCast_add]
        · rw [Nat.succ_mul]; omega
    obtain ⟨a, c⟩ := lv_den hb xs W hW r _ (i + 1) (fun q hq => hp q (by simp [hq])) q1 q2
    rw [List.foldl_cons, List.length_cons, show i + (r.length + 1) = i + 1 + r.length by omega]
    exact ⟨a, c⟩
/-- chances that are summed over the states of the set -/
theorem sm_split {xs : List Nat} (nd : xs.Nodup) (Y : Nat → Rat) : ∀ r : List (Nat × Rat), sm (fun l => sm (fun p => if p.1 ∈ xs ∧ xs.idxOf p.1 = l then p.2 else 0) r * Y l) (List.range xs.length) = sm (fun p => if p.1 ∈ xs then p.2 * Y (xs.idxOf p.1) else 0) r
  | [] => by
    show sm (fun l => 0 * Y l) _ = 0
    exact sm_zero fun x _ => by rw [Rat.zero_mul]
  | p :: r => by
    show sm (fun l => ((if p.1 ∈ xs ∧ xs.idxOf p.1 = l then p.2 else 0) + sm (fun p => if p.1 ∈ xs ∧ xs.idxOf p.1 = l then p.2 else 0) r) * Y l) _ = (if p.1 ∈ xs then p.2 * Y (xs.idxOf p.1) else 0) + sm (fun p => if p.1 ∈ xs then p.2 * Y (xs.idxOf p.1) else 0) r
    rw [← sm_split nd Y r, sm_congr (g := fun l => (if p.1 ∈ xs ∧ xs.idxOf p.1 = l then p.2 else 0) * Y l + sm (fun p => if p.1 ∈ xs ∧ xs.idxOf p.1 = l then p.2 else 0) r * Y l) fun l _ => by rw [Rat.add_mul], sm_add]
    congr 1
    by_cases h : p.1 ∈ xs
    · have hi : xs.idxOf p.1 < xs.length := List.idxOf_lt_length_of_mem h
      rw [if_pos h, sm_one hi fun k hk => by rw [if_neg fun z => hk z.2.symm, Rat.zero_mul], if_pos ⟨h, rfl⟩]
    · rw [if_neg h]
      exact sm_zero fun l _ => by rw [if_neg fun z => h z.1, Rat.zero_mul]
/-- what is earned and what is left until the play leaves xs -/
structure Lv (rs : List Rat) (rows : List (List (Nat × Rat))) (b : Rat) (xs : List Nat) (E F : Nat → Rat) : Prop where
  e : ∀ x ∈ xs, E x = rwA rs x + b * sm (fun p => p.2 * E p.1) (rowA rows x)
  f : ∀ x ∈ xs, F x = b * sm (fun p => p.2 * F p.1) (rowA rows x)
  e0 : ∀ x, x ∉ xs → E x = 0
  f1 : ∀ x, x ∉ xs → F x = 1
/-! absolute values -/
def absQ (q : Rat) : Rat := if 0 ≤ q then q else -q
theorem absQ_nn (q : Rat) : 0 ≤ absQ q := by unfold absQ; split <;> grind
theorem absQ_le {q : Rat} : q ≤ absQ q := by unfold absQ; split <;> grind
theorem absQ_neg_le {q : Rat} : -q ≤ absQ q := by unfold absQ; split <;> grind
theorem absQ_zero {q : Rat} (h : absQ q ≤ 0) : q = 0 := by unfold absQ at h; split at h <;> grind
theorem absQ_of {q c : Rat} (h1 : q ≤ c) (h2 : -q ≤ c) : absQ q ≤ c := by unfold absQ; split <;> assumption
theorem absQ_add (a b : Rat) : absQ (a + b) ≤ absQ a + absQ b := by
  refine absQ_of ?_ ?_
  · have := @absQ_le a; have := @absQ_le b; grind
  · have := @absQ_neg_le a; have := @absQ_neg_le b; grind
theorem absQ_mul (a b : Rat) : absQ (a * b) = absQ a * absQ b := by
  unfold absQ
  by_cases ha : 0 ≤ a <;> by_cases hb : 0 ≤ b
  · rw [if_pos ha, if_pos hb, if_pos (Rat.mul_nonneg ha hb)]
  · rw [if_pos ha, if_neg hb]
    have h2 : 0 ≤ a * -b := Rat.mul_nonneg ha (by grind)
    split
    · have : a * b = 0 := by grind
      grind
    · grind
  · rw [if_neg ha, if_pos hb]
    have h2 : 0 ≤ -a * b := Rat.mul_nonneg (by grind) hb
    split
    · have : a * b = 0 := by grind
      grind
    · grind
  · rw [if_neg ha, if_neg hb]
    have h2 : 0 ≤ -a * -b := Rat.mul_nonneg (by grind) (by grind)
    rw [if_pos (by grind)]
    grind
theorem absQ_sm {α : Type} (f : α → Rat) : ∀ xs : List α, absQ (sm f xs) ≤ sm (fun x => absQ (f x)) xs
  | [] => by show absQ 0 ≤ 0; unfold absQ; rw [if_pos (by decide)]; exact Rat.le_refl
  | x :: xs => by
    show absQ (f x + sm f xs) ≤ absQ (f x) + sm (fun x => absQ (f x)) xs
    have h1 := absQ_add (f x) (sm f xs)
    have h2 := absQ_sm f xs
    grind
theorem sm_le {α : Type} {f g : α → Rat} : ∀ {xs : List α}, (∀ x ∈ xs, f x ≤ g x) → sm f xs ≤ sm g xs
  | [], _ => Rat.le_refl
  | x :: xs, h => by
    show f x + sm f xs ≤ g x + sm g xs
    have h1 := h x (by simp)
    have h2 := sm_le (xs := xs) fun y hy => h y (by simp [hy])
    grind
theorem sm_swap {α β : Type} (f : α → β → Rat) (ys : List β) : ∀ xs : List α, sm (fun x => sm (f x) ys) xs = sm (fun y => sm (fun x => f x y) xs) ys
  | [] => by
    show (0 : Rat) = sm (fun y => (0 : Rat)) ys
    exact (sm_zero fun _ _ => rfl).symm
  | x :: xs => by
    show sm (f x) ys + sm (fun x => sm (f x) ys) xs = sm (fun y => f x y + sm (fun x => f x y) xs) ys
    rw [sm_add, sm_swap f ys xs]
/-- no left null vector of 1 - b P -/
theorem no_dep {b : Rat} (hb : Disc b) (m : Nat) (P : Nat → Nat → Rat) (nn : ∀ k l, 0 ≤ P k l) (one : ∀ k, k < m → sm (fun l => P k l) (List.range m) ≤ 1) (y : Nat → Rat)
    (h : ∀ l, l < m → sm (fun k => y k * (unitF k l - b * P k l)) (List.range m) = 0) : ∀ k, k < m → y k = 0 := by
  have h1 : ∀ l, l < m → y l = b * sm (fun k => y k * P k l) (List.range m) := fun l hl => by
    have e := h l hl
    rw [sm_congr (g := fun k => y k * unitF k l - b * (y k * P k l)) fun k _ => by grind, sm_sub, sm_mul] at e
    have e2 : sm (fun k => y k * unitF k l) (List.range m) = y l := by
      rw [sm_one hl fun k hk => by unfold unitF; rw [if_neg (Ne.symm hk), Rat.mul_zero]]
      unfold unitF
      rw [if_pos rfl, Rat.mul_one]
    rw [e2] at e
    grind
  have h2 : ∀ l, l < m → absQ (y l) ≤ b * sm (fun k => absQ (y k) * P k l) (List.range m) := fun l hl => by
    have e := congrArg absQ (h1 l hl)
    rw [absQ_mul] at e
    have ab : absQ b = b := if_pos hb.nn
    rw [ab] at e
    rw [e]
    refine Rat.mul_le_mul_of_nonneg_left ?_ hb.nn
    refine Rat.le_trans (absQ_sm _ _) (sm_le fun k _ => ?_)
    rw [absQ_mul, show absQ (P k l) = P k l from if_pos (nn k l)]
    exact Rat.le_refl
  have h3 : sm (fun l => absQ (y l)) (List.range m) ≤ b * sm (fun k => absQ (y k)) (List.range m) := by
    refine Rat.le_trans (sm_le (g := fun l => b * sm (fun k => absQ (y k) * P k l) (List.range m)) fun l hl => h2 l (List.mem_range.mp hl)) ?_
    rw [sm_mul]
    refine Rat.mul_le_mul_of_nonneg_left ?_ hb.nn
    rw [sm_swap]
    refine sm_le fun k hk => ?_
    rw [sm_mul]
    have := Rat.mul_le_mul_of_nonneg_left (one k (List.mem_range.mp hk)) (absQ_nn (y k))
    rw [Rat.mul_one] at this
    exact this
  have h4 : 0 ≤ sm (fun l => absQ (y l)) (List.range m) := sm_nonneg fun l _ => absQ_nn _
  have h5 : sm (fun l => absQ (y l)) (List.range m) ≤ 0 := by
    have hlt := hb.lt
    generalize sm (fun l => absQ (y l)) (List.range m) = S at *
    apply Classical.byContradiction
    intro hS
    have hS : 0 < S := by grind
    have : (1 - b) * S > 0 := Rat.mul_pos (by grind) hS
    grind
  intro k hk
  have h6 : absQ (y k) ≤ 0 := by
    apply Classical.byContradiction
    intro hS
    have hS : 0 < absQ (y k) := by grind
    have := sm_pos (f := fun l => absQ (y l)) (xs := List.range m) (fun l _ => absQ_nn _) (List.mem_range.mpr hk) hS
    grind
  exact absQ_zero h6
end Q

set_option Elab.async false
set_option linter.all false
set_option maxRecDepth 100000
set_option maxHeartbeats 1000000
namespace Q
open PySem L2 PyProof.Rows
/-! ### tuples whose one object is known; dict() of such a tuple of pairs -/
def ExT (o : Obj) : Prop := o.cls = .type "tuple" ∧ o.dict = none ∧ ∃ its n, o.data = .seq its n
theorem call_tupX {X : Cx} : CallR X (.type "tuple") (fun xs H Q => ∃ p ys, xs = [.ref p] ∧ SqL X.K H p ys ∧ ∀ l o, H l = none → ExT o → Q (.ref l) (upd H l (.frz o (.tup ys)))) := by
  intro pins s σ H xs us Q I r hh
  obtain ⟨p, ys, rfl, hq, q⟩ := hh
  obtain ⟨u, rfl, rx⟩ := r.one
  cases rx
  obtain ⟨its, rv, pl, hz⟩ := I.list hq
  have hlen := rv.length
  refine call_tuple_list pl.isList (fun h' kp => ?_) (by simp only [List.size_toArray]; omega)
  have J : Inv X pins σ H { s with heap := h' } := I.kept (t' := s.toks) kp
  refine ⟨.ref h'.objs.size, _, J.laid (o := .frz { cls := .type "tuple", data := .seq its.toArray } (.tup ys)) (t' := s.toks) (fun b o e => Heap.get?_push_of_some _ e) (Nat.le_refl _) ?_, rfl, q _ _ (J.hok.fresh (Nat.le_refl _)) ⟨rfl, rfl, _, _, rfl⟩⟩
  exact ⟨Heap.get?_push_size _ rfl, hz, its, rv, IsTup.new _ _⟩
section
variable {K : PySem.W.Frag} {H0 B0 B H : Hp} {ln : Nat → Option V} {Γ : List (O × V)} {σ : L2.St} {env : En}
theorem Stt.newXt {ds : List D} {vs : List V} {o : Obj} (h : Stt K H0 B0 ln Γ B H σ env) (r : Rps K B ds vs) (ho : ExT o) {p : Addr} (hp : H p = none) :
    Ex B (upd B p (.frz o (.tup vs))) ∧ Ex H (upd H p (.frz o (.tup vs))) ∧ Stt K H0 B0 ln ((.fz (.xt ds), .ref p) :: Γ) (upd B p (.frz o (.tup vs))) (upd H p (.frz o (.tup vs))) σ env := by
  have w := Wd.new (x := .frz o (.tup vs)) h.w.bh hp
  refine ⟨w.b0, w.h0, (h.step w).push ?_⟩
  rw [Rp]
  exact ⟨p, vs, o, rfl, upd_same, ho.1, ho.2.1, ho.2.2, Rps.mono w.b0 ds vs r⟩
theorem rp_unx {ds : List D} {v : V} (r : Rp K B (.xt ds) v) : Rp K B (.tup ds) v := by
  rw [Rp] at r
  obtain ⟨a, vs, o, rfl, h1, _, _, _, h2⟩ := r
  rw [Rp]
  exact ⟨a, vs, rfl, .inl (.inr ⟨o, h1⟩), h2⟩
end
def gTupX : List O → Option O
  | [o] => (o.asL).bind fun os => (os.mapM O.d?).bind fun ds => some (.fz (.xt ds))
  | _ => none
theorem c_tupX {X : Cx} : QC X (.type "tuple") gTupX := ⟨_, call_tupX, by
  intro H0 B0 ln Γ B H σ env s os o vs w hg Q q
  unfold gTupX at hg
  split at hg
  · rename_i o1
    obtain ⟨os1, e1, hg⟩ := bind_some hg
    obtain ⟨ds, e2, hg⟩ := bind_some hg
    cases hg
    obtain ⟨v, rfl, w1⟩ := vws1 w
    obtain ⟨a, vs, rfl, h1, h2⟩ := asL_ok s.w.bh w1 e1
    refine ⟨_, _, rfl, h1, fun p ob hp ho => ?_⟩
    obtain ⟨e1, e2, s'⟩ := s.newXt (h2.dat e2) ho hp
    exact q _ _ _ e1 e2 s'
  · cases hg⟩
@[simp] theorem e_gTupX {ds : List D} : gTupX [.ls (ds.map .fz)] = some (.fz (.xt ds)) := by
  simp only [gTupX, O.asL, mapM_fz, Option.bind_some]
def unX : O → O
  | .fz (.xt ds) => .fz (.tup ds)
  | o => o
def mUnX (m : EM O) : EM O := fun env => (m env).bind fun p => some (unX p.1, p.2)
@[simp] theorem e_mUnX {m : EM O} {env : En} : mUnX m env = (m env).bind fun p => some (unX p.1, p.2) := rfl
@[simp] theorem e_unX {ds : List D} : unX (.fz (.xt ds)) = .fz (.tup ds) := rfl
theorem qe_unx {X : Cx} {e : Expr} {m : EM O} (h : QE X e m) : QE X e (mUnX m) := by
  obtain ⟨t, h1, h2⟩ := h
  refine ⟨t, h1, fun H0 B0 ln Γ B H σ env s o env' em Q q => ?_⟩
  obtain ⟨p, em1, em⟩ := bind_some em
  cases em
  obtain ⟨o1, env1⟩ := p
  refine h2 H0 B0 ln Γ B H σ env s _ _ em1 _ fun v B1 H1 e1 e2 s1 => q v B1 H1 e1 e2 ?_
  unfold unX
  split
  · rename_i ds hd
    have hd : o1 = .fz (.xt ds) := hd
    subst hd
    exact s1.pop.push (rp_unx s1.rp)
  · exact s1
/-! dict(xs) -/
theorem vals_ref : ∀ {ps : List Addr} {us : List Value}, Vals (ps.map V.ref) us → us = ps.map Value.ref := fun r => refs_at r
theorem pairs_get {X : Cx} {pins : List (Addr × Obj)} {σ : L2.St} {H : Hp} {s : Shared} (I : Inv X pins σ H s) : ∀ {ps : List Addr} {kvs : List (Key × V)}, Paired (fun p kv => SqT X.K H p [kV kv.1, kv.2]) ps kvs →
    ∃ (prs : List (Key × Value)) (us : List Value), KV kvs prs ∧ prs.length = ps.length ∧ us.length = ps.length ∧ ∀ (j : Nat) (b : Addr) (u : Value) (q : Key × Value), ps[j]? = some b → us[j]? = some u → prs[j]? = some q → IsTup s.heap b #[u, q.2] ∧ keyIs q.1 u = true
  | _, _, .nil => ⟨[], [], .nil, rfl, rfl, fun j b u q e => by simp at e⟩
  | _, _, .cons (a := p) (b := kv) h t => by
    obtain ⟨prs, us, r, l1, l2, hp⟩ := pairs_get I t
    obtain ⟨its, rv, ht, _⟩ := I.tuple h
    obtain ⟨u, y, rfl, ru, ry⟩ := vals2 rv
    refine ⟨(kv.1, y) :: prs, u :: us, .cons ⟨rfl, ry⟩ r, by simp [l1], by simp [l2], fun j b w q e1 e2 e3 => ?_⟩
    cases j with
    | zero =>
      cases e1; cases e2; cases e3
      exact ⟨ht, kV_is (P := X.prog) (w := X.w) ru⟩
    | succ j => exact hp j b w q (by simpa using e1) (by simpa using e2) (by simpa using e3)
theorem call_dictX {X : Cx} (hc : X.calm = true) : CallR X (.type "dict") (fun xs H Q => ∃ (a : Addr) (o : Obj) (ps : List Addr) (kvs : List (Key × V)), xs = [.ref a] ∧ H a = some (.frz o (.tup (ps.map V.ref))) ∧ ExT o ∧ Paired (fun p kv => SqT X.K H p [kV kv.1, kv.2]) ps kvs ∧
    ∀ p, H p = none → Q (.ref p) (upd H p (.dK (mergeK [] kvs)))) := by
  intro pins s σ H xs us Q I r q
  obtain ⟨a, o, ps, kvs, rfl, ha, ⟨o1, o2, its0, n0, o3⟩, hp, q⟩ := q
  obtain ⟨u, rfl, rx⟩ := r.one
  cases rx
  obtain ⟨hget, hz, its, rv, ob, hob, hcl, n, hdat⟩ := (show ObjOk X.prog X.w H s.heap a (.frz o (.tup (ps.map V.ref))) from I.hok a _ ha)
  rw [hget] at hob
  cases hob
  have ei := refs_at rv
  subst ei
  obtain ⟨prs, us, rel, l1, l2, hpr⟩ := pairs_get I hp
  rw [List.length_map] at hz
  have hzl : (us.zip (prs.map (·.2))).length = ps.length := by simp [l1, l2]
  refine PySem.call_dict_pairs (knd := mixKind X.prog X.w) (kvs := prs) (PairArg.tuple a (ps.map Value.ref).toArray (fun j => (ps[j]?).getD 0) (us.zip (prs.map (·.2)))) (I.ok.hd hc) ⟨⟨o, n, hget, o1, o2, hdat⟩, by simp [l1, l2], fun j k v hj => ?_⟩ ⟨by rw [hzl]; exact l1, fun i key v hr => ?_⟩ (by rw [hzl]; exact hz) fun h' tk hd' k => ?_
  · rw [List.getElem?_zip_eq_some] at hj
    obtain ⟨h1, h2⟩ := hj
    rw [List.getElem?_map] at h2
    obtain ⟨q2, h3, rfl⟩ := Option.map_eq_some_iff.mp h2
    have hjl : j < ps.length := by
      have := (List.getElem?_eq_some_iff.mp h1).1
      omega
    have hb := List.getElem?_eq_getElem hjl
    refine ⟨by simp [hb], .inl ?_⟩
    show s.heap.IsTuple ((ps[j]?).getD 0) _
    rw [hb]
    exact (hpr j _ _ _ hb h1 h3).1
  · have hr : (us.zip (prs.map (·.2)))[i]? = some (key, v) := hr
    rw [List.getElem?_zip_eq_some] at hr
    obtain ⟨h1, h2⟩ := hr
    rw [List.getElem?_map] at h2
    obtain ⟨q2, h3, h4⟩ := Option.map_eq_some_iff.mp h2
    have h4 : q2.2 = v := h4
    subst h4
    have hjl : i < ps.length := by
      have := (List.getElem?_eq_some_iff.mp h1).1
      omega
    exact ⟨q2.1, h3, (hpr i _ _ _ (List.getElem?_eq_getElem hjl) h1 h3).2⟩
  · have hm : (s.heap.objs.size == sysModules) = false := beq_eq_false_iff_ne.mpr (Nat.ne_of_gt I.big)
    have hlen : (mergeK [] kvs).length ≤ sizeLine := by
      refine Nat.le_trans (length_mergeK kvs []) ?_
      rw [List.length_nil, Nat.zero_add, rel.length, l1]
      exact hz
    refine ⟨.ref s.heap.objs.size, upd H s.heap.objs.size (.dK (mergeK [] kvs)), I.laid (t' := tk) (fun b o e => k b o (by simp) e) (Nat.le_refl _) ?_, rfl, q _ (I.hok.fresh (Nat.le_refl _))⟩
    exact ⟨hlen, hm, merged [] prs, KV.merge rel .nil, hd'⟩
def pairD : D → Option (Key × D)
  | .tup [a, b] => (a.key).map fun k => (k, b)
  | _ => none
theorem pairs_rep {K : PySem.W.Frag} {B H : Hp} (e : Ex B H) : ∀ {ds : List D} {kds : List (Key × D)} {vs : List V}, ds.mapM pairD = some kds → Rps K B ds vs →
    ∃ (ps : List Addr) (kvs : List (Key × V)), vs = ps.map V.ref ∧ Paired (fun p kv => SqT K H p [kV kv.1, kv.2]) ps kvs ∧ kvs.map Prod.fst = kds.map Prod.fst ∧ Rps K B (kds.map Prod.snd) (kvs.map Prod.snd)
  | [], kds, vs, h, r => by
    simp at h; subst h
    rw [Rps] at r; subst r
    exact ⟨[], [], rfl, .nil, rfl, Rps.nil⟩
  | d :: ds, kds, vs, h, r => by
    rw [List.mapM_cons] at h
    cases e1 : pairD d with
    | none => rw [e1] at h; simp at h
    | some kd =>
      cases e2 : ds.mapM pairD with
      | none => rw [e1, e2] at h; simp at h
      | some rest =>
        rw [e1, e2] at h; simp at h; subst h
        rw [Rps] at r
        obtain ⟨v, rr, rfl, r1, r2⟩ := r
        obtain ⟨ps, kvs, rfl, p1, p2, p3⟩ := pairs_rep e e2 r2
        unfold pairD at e1
        split at e1
        · rename_i x y
          obtain ⟨k, hk, rfl⟩ := Option.map_eq_some_iff.mp e1
          rw [Rp] at r1
          obtain ⟨a, ws, rfl, g1, g2⟩ := r1
          obtain ⟨u, z, rfl, g3, g4⟩ := rps2 g2
          have := key_ok g3 hk
          subst this
          exact ⟨a :: ps, (k, z) :: kvs, rfl, .cons (e.t g1) p1, by simp [p2], Rps.cons g4 p3⟩
        · cases e1
theorem merge_new : ∀ {kvs acc : List (Key × V)}, ((acc ++ kvs).map Prod.fst).Nodup → mergeK acc kvs = acc ++ kvs
  | [], acc, _ => by simp [mergeK]
  | kv :: kvs, acc, h => by
    have hn : valV acc kv.1 = none := by
      unfold valV
      rw [Option.map_eq_none_iff, List.find?_eq_none]
      intro p hp
      simp only [decide_eq_true_eq]
      intro hk
      rw [List.map_append, List.map_cons, List.nodup_append] at h
      exact h.2.2 p.1 (List.mem_map_of_mem hp) kv.1 (by simp) hk
    show mergeK (putK acc kv.1 kv.2) kvs = _
    rw [putK_new kv.2 hn, merge_new (by simpa using h)]
    simp
open Classical in
noncomputable def gDictX : List O → Option O
  | [.fz (.xt ds)] => (ds.mapM pairD).bind fun kds => if (kds.map Prod.fst).Nodup then some (.ok (kds.map Prod.fst) (kds.map Prod.snd)) else none
  | _ => none
open Classical in
theorem c_dictX {X : Cx} (hc : X.calm = true) : QC X (.type "dict") gDictX := ⟨_, call_dictX hc, by
  intro H0 B0 ln Γ B H σ env s os o vs w hg Q q
  unfold gDictX at hg
  split at hg
  · rename_i ds
    obtain ⟨kds, e1, hg⟩ := bind_some hg
    split at hg
    · rename_i nd
      cases hg
      obtain ⟨v, rfl, w1⟩ := vws1 w
      rw [Vw, Rp] at w1
      obtain ⟨a, vs, ob, rfl, g1, g2, g3, g4, g5⟩ := w1
      obtain ⟨ps, kvs, rfl, p1, p2, p3⟩ := pairs_rep s.w.bh e1 g5
      refine ⟨a, ob, ps, kvs, rfl, s.w.bh _ _ g1, ⟨g2, g3, g4⟩, p1, fun p hp => ?_⟩
      rw [merge_new (acc := []) (by rw [List.nil_append, p2]; exact nd), List.nil_append]
      have w9 := Wd.newH (x := .dK kvs) s.w.bh hp
      refine q _ B _ (Ex.refl _) w9.h0 ⟨s.w.trans w9, s.sg, ?_⟩
      have o2 := (s.own.more hp).upd (x := .dK kvs)
      exact (o2.shutK (kvs := kvs) upd_same p2 p3 (s.w.bh.none hp) (s.w.h0.none hp) (by simp)).perm List.perm_middle.symm
    · cases hg
  · cases hg⟩
theorem e_gDictX {ds : List D} {kds : List (Key × D)} (h : ds.mapM pairD = some kds) (nd : (kds.map Prod.fst).Nodup) : gDictX [.fz (.xt ds)] = some (.ok (kds.map Prod.fst) (kds.map Prod.snd)) := by
  show (ds.mapM pairD).bind _ = _
  rw [h, Option.bind_some, if_pos nd]
end Q

set_option Elab.async false
set_option linter.all false
set_option maxRecDepth 100000
set_option maxHeartbeats 1000000
namespace Q
open PySem L2
/-! ### the order of the indexes: plain facts -/
theorem exists_max {α : Type} (g : α → Rat) : ∀ (xs : List α), xs ≠ [] → ∃ x ∈ xs, ∀ y ∈ xs, g y ≤ g x
  | [], h => absurd rfl h
  | [x], _ => ⟨x, by simp, fun y hy => by rw [List.mem_singleton.mp hy]; exact Rat.le_refl⟩
  | x :: y :: xs, _ => by
    obtain ⟨z, hz, h⟩ := exists_max g (y :: xs) (by simp)
    by_cases c : g z ≤ g x
    · refine ⟨x, by simp, fun w hw => ?_⟩
      rcases List.mem_cons.mp hw with rfl | hw
      · exact Rat.le_refl
      · exact Rat.le_trans (h w hw) c
    · refine ⟨z, List.mem_cons_of_mem _ hz, fun w hw => ?_⟩
      rcases List.mem_cons.mp hw with rfl | hw
      · grind
      · exact h w hw
/-- chances: not below 0, together 1 -/
structure Chances (rows : List (List (Nat × Rat))) (n : Nat) : Prop where
  nn : ∀ x, ∀ p ∈ rowA rows x, 0 ≤ p.2
  one : ∀ x, x < n → sm (fun p => p.2) (rowA rows x) = 1
theorem GameSz.ch {rs : List Rat} {rows : List (List (Nat × Rat))} {n : Nat} (g : GameSz rs rows n) : Chances rows n := by
  have key : ∀ x, x < rows.length → rowA rows x ∈ rows := fun x h => by
    unfold rowA
    rw [List.getElem?_eq_getElem h]
    exact List.getElem_mem h
  refine ⟨fun x p hp => ?_, fun x hx => ?_⟩
  · by_cases h : x < rows.length
    · exact (g.ok.ok _ (key x h)).nn p hp
    · unfold rowA at hp
      rw [List.getElem?_eq_none (by omega)] at hp
      simp at hp
  · have := (g.ok.ok _ (key x (by rw [g.ok.l2]; exact hx))).one
    rwa [sumQ0_sm] at this
/-- an average is not above what bounds it -/
theorem avg_le {r : List (Nat × Rat)} (nn : ∀ p ∈ r, 0 ≤ p.2) {g : Nat → Rat} {M : Rat} (h : ∀ t, g t ≤ M) : sm (fun p => p.2 * g p.1) r ≤ M * sm (fun p => p.2) r := by
  rw [← sm_mul]
  exact sm_le fun p hp => by
    have := Rat.mul_le_mul_of_nonneg_left (h p.1) (nn p hp)
    grind
/-- what is at most b times its own average in the set, and not above 0 outside, is not above 0 -/
theorem max_prin {rows : List (List (Nat × Rat))} {n : Nat} (ch : Chances rows n) {b : Rat} (hb : Disc b) {xs : List Nat} (hx : ∀ x ∈ xs, x < n) {g : Nat → Rat} (h : ∀ x ∈ xs, g x ≤ b * sm (fun p => p.2 * g p.1) (rowA rows x)) (h0 : ∀ x, x ∉ xs → g x ≤ 0) (x : Nat) : g x ≤ 0 := by
  by_cases hm : x ∈ xs
  · obtain ⟨z, hz, mx⟩ := exists_max g xs (fun e => by rw [e] at hm; simp at hm)
    refine Rat.le_trans (mx x hm) ?_
    apply Classical.byContradiction
    intro hpos
    have hpos : 0 < g z := by grind
    have all : ∀ t, g t ≤ g z := fun t => by
      by_cases ht : t ∈ xs
      · exact mx t ht
      · have := h0 t ht; grind
    have a1 := avg_le (ch.nn z) all
    rw [ch.one z (hx z hz), Rat.mul_one] at a1
    have a2 := Rat.mul_le_mul_of_nonneg_left a1 hb.nn
    have a3 := h z hz
    have a4 : 0 < (1 - b) * g z := Rat.mul_pos (by have := hb.lt; grind) hpos
    grind
  · exact h0 x hm
theorem Lv.f_le {rs : List Rat} {rows : List (List (Nat × Rat))} {n : Nat} (ch : Chances rows n) {b : Rat} (hb : Disc b) {xs : List Nat} (hx : ∀ x ∈ xs, x < n) {E F : Nat → Rat} (lv : Lv rs rows b xs E F) : ∀ t, 0 ≤ F t ∧ F t ≤ 1 := fun t => by
  constructor
  · have := max_prin ch hb hx (g := fun t => -F t) (fun x h => by
      have e : sm (fun p : Nat × Rat => p.2 * -F p.1) (rowA rows x) = (-1) * sm (fun p => p.2 * F p.1) (rowA rows x) := by
        rw [← sm_mul]
        exact sm_congr fun p _ => by grind
      have e2 := lv.f x h
      show -F x ≤ b * sm (fun p : Nat × Rat => p.2 * -F p.1) (rowA rows x)
      rw [e]
      grind) (fun x h => by rw [lv.f1 x h]; grind) t
    grind
  · have := max_prin ch hb hx (g := fun t => F t - 1) (fun x h => by
      have e := lv.f x h
      have e2 := ch.one x (hx x h)
      have e3 : sm (fun p : Nat × Rat => p.2 * (F p.1 - 1)) (rowA rows x) = sm (fun p => p.2 * F p.1) (rowA rows x) - sm (fun p => p.2) (rowA rows x) := by
        rw [← sm_sub]
        exact sm_congr fun p _ => by grind
      have := hb.lt
      show F x - 1 ≤ b * sm (fun p : Nat × Rat => p.2 * (F p.1 - 1)) (rowA rows x)
      rw [e3, e2]
      grind) (fun x h => by rw [lv.f1 x h]; grind) t
    grind
theorem Lv.uniq {rs : List Rat} {rows : List (List (Nat × Rat))} {n : Nat} (ch : Chances rows n) {b : Rat} (hb : Disc b) {xs : List Nat} (hx : ∀ x ∈ xs, x < n) {E F E' F' : Nat → Rat} (lv : Lv rs rows b xs E F) (lw : Lv rs rows b xs E' F') : E = E' ∧ F = F' := by
  have one : ∀ (A B : Nat → Rat), (∀ x ∈ xs, A x - B x ≤ b * sm (fun p => p.2 * (A p.1 - B p.1)) (rowA rows x)) → (∀ x, x ∉ xs → A x - B x ≤ 0) → ∀ t, A t ≤ B t := fun A B h1 h2 t => by
    have := max_prin ch hb hx (g := fun t => A t - B t) h1 h2 t
    grind
  have sp : ∀ (A B : Nat → Rat) (r : List (Nat × Rat)), sm (fun p => p.2 * (A p.1 - B p.1)) r = sm (fun p => p.2 * A p.1) r - sm (fun p => p.2 * B p.1) r := fun A B r => by
    rw [← sm_sub]
    exact sm_congr fun p _ => by grind
  have le : ∀ {E F E' F' : Nat → Rat}, Lv rs rows b xs E F → Lv rs rows b xs E' F' → (∀ t, E t ≤ E' t) ∧ ∀ t, F t ≤ F' t := fun {E F E' F'} lv lw => by
    constructor
    · exact one E E' (fun x h => by rw [lv.e x h, lw.e x h, sp]; grind) (fun x h => by rw [lv.e0 x h, lw.e0 x h]; grind)
    · exact one F F' (fun x h => by rw [lv.f x h, lw.f x h, sp]; grind) (fun x h => by rw [lv.f1 x h, lw.f1 x h]; grind)
  have a := le lv lw
  have c := le lw lv
  exact ⟨funext fun t => Rat.le_antisymm (a.1 t) (c.1 t), funext fun t => Rat.le_antisymm (a.2 t) (c.2 t)⟩
/-- the best of the candidates outside the set -/
def bestStep (xs : List Nat) (c : Nat → Rat) (o : Option (Nat × Rat)) (s : Nat) : Option (Nat × Rat) :=
  if s ∈ xs then o else match o with
    | none => some (s, c s)
    | some p => if p.2 < c s then some (s, c s) else some p
def bestOf (xs : List Nat) (c : Nat → Rat) (n : Nat) : Option (Nat × Rat) := (List.range n).foldl (bestStep xs c) none
structure Best (xs : List Nat) (c : Nat → Rat) (n : Nat) (o : Option (Nat × Rat)) : Prop where
  no : o = none → ∀ s, s < n → s ∈ xs
  yes : ∀ p, o = some p → p.1 < n ∧ p.1 ∉ xs ∧ p.2 = c p.1 ∧ ∀ s, s < n → s ∉ xs → c s ≤ p.2
theorem bestOf_best (xs : List Nat) (c : Nat → Rat) : ∀ n, Best xs c n (bestOf xs c n)
  | 0 => ⟨fun _ s h => by omega, fun p h => by simp [bestOf] at h⟩
  | n + 1 => by
    have ih := bestOf_best xs c n
    have e : bestOf xs c (n + 1) = bestStep xs c (bestOf xs c n) n := by
      unfold bestOf
      rw [List.range_succ, List.foldl_append]; rfl
    rw [e]
    generalize bestOf xs c n = o at *
    unfold bestStep
    by_cases h : n ∈ xs
    · rw [if_pos h]
      refine ⟨fun h1 s hs => ?_, fun p hp => ?_⟩
      · by_cases e : s = n
        · rw [e]; exact h
        · exact ih.no h1 s (by omega)
      · obtain ⟨a, b, d, f⟩ := ih.yes p hp
        refine ⟨by omega, b, d, fun s hs hx => ?_⟩
        by_cases e : s = n
        · rw [e] at hx; exact absurd h hx
        · exact f s (by omega) hx
    · rw [if_neg h]
      cases o with
      | none =>
        refine ⟨fun h1 => by simp at h1, fun p hp => ?_⟩
        cases hp
        refine ⟨by show n < n + 1; omega, h, rfl, fun s hs hx => ?_⟩
        by_cases e : s = n
        · rw [e]; exact Rat.le_refl
        · exact absurd (ih.no rfl s (by omega)) hx
      | some q =>
        obtain ⟨a, b, d, f⟩ := ih.yes q rfl
        by_cases hc : q.2 < c n
        · show Best xs c (n + 1) (if q.2 < c n then some (n, c n) else some q)
          rw [if_pos hc]
          refine ⟨fun h1 => by simp at h1, fun p hp => ?_⟩
          cases hp
          refine ⟨by show n < n + 1; omega, h, rfl, fun s hs hx => ?_⟩
          by_cases e : s = n
          · rw [e]; exact Rat.le_refl
          · have := f s (by omega) hx
            show c s ≤ c n
            grind
        · show Best xs c (n + 1) (if q.2 < c n then some (n, c n) else some q)
          rw [if_neg hc]
          refine ⟨fun h1 => by simp at h1, fun p hp => ?_⟩
          cases hp
          refine ⟨by omega, b, d, fun s hs hx => ?_⟩
          by_cases e : s = n
          · rw [e]; grind
          · exact f s (by omega) hx
/-- the states of the first j pairs, ascending -/
def setOf (n : Nat) (ps : List (Nat × Rat)) (j : Nat) : List Nat := (List.range n).filter fun s => decide (s ∈ (ps.take j).map (·.1))
theorem setOf_nodup (n : Nat) (ps : List (Nat × Rat)) (j : Nat) : (setOf n ps j).Nodup := List.nodup_range.sublist List.filter_sublist
theorem setOf_mem {n : Nat} {ps : List (Nat × Rat)} {j s : Nat} (h : ∀ p ∈ ps, p.1 < n) : s ∈ setOf n ps j ↔ s ∈ (ps.take j).map (·.1) := by
  unfold setOf
  rw [List.mem_filter, List.mem_range, decide_eq_true_eq]
  refine ⟨fun h => h.2, fun hm => ⟨?_, hm⟩⟩
  obtain ⟨p, hp, rfl⟩ := List.mem_map.mp hm
  exact h p (List.mem_of_mem_take hp)
theorem setOf_lt {n : Nat} {ps : List (Nat × Rat)} {j : Nat} : ∀ s ∈ setOf n ps j, s < n := fun s h => List.mem_range.mp (List.mem_filter.mp h).1
theorem setOf_len {n : Nat} {ps : List (Nat × Rat)} {j : Nat} (h : ∀ p ∈ ps, p.1 < n) (nd : (ps.map (·.1)).Nodup) (hj : j ≤ ps.length) : (setOf n ps j).length = j := by
  have nd2 : ((ps.take j).map (·.1)).Nodup := by
    rw [List.map_take]
    exact nd.sublist (List.take_sublist _ _)
  have p : (setOf n ps j).Perm ((ps.take j).map (·.1)) := (List.perm_ext_iff_of_nodup (setOf_nodup n ps j) nd2).mpr fun s => setOf_mem h
  rw [p.length_eq, List.length_map, List.length_take]
  omega
theorem take_next {ps : List (Nat × Rat)} {j : Nat} (hj : j < ps.length) : (ps.take (j + 1)).map (·.1) = (ps.take j).map (·.1) ++ [ps[j].1] := by
  rw [List.take_add_one, List.getElem?_eq_getElem hj, List.map_append]; rfl
theorem setOf_next {n : Nat} {ps : List (Nat × Rat)} (h : ∀ p ∈ ps, p.1 < n) (nd : (ps.map (·.1)).Nodup) {j : Nat} (hj : j < ps.length) :
    sortI (((setOf n ps j).map fun (i : Nat) => (i : Int)) ++ [((ps[j].1 : Nat) : Int)]) = (setOf n ps (j + 1)).map fun (i : Nat) => (i : Int) := by
  symm
  have inj : ∀ {l : List Nat}, l.Nodup → (l.map fun (i : Nat) => (i : Int)).Nodup := fun {l} hl => by
    unfold List.Nodup at *
    exact List.Pairwise.map _ (fun a b hab e => hab (by omega)) hl
  have hnot : ps[j].1 ∉ setOf n ps j := fun hm => by
    rw [setOf_mem h] at hm
    have nd2 : ((ps.take (j + 1)).map (·.1)).Nodup := by
      rw [List.map_take]
      exact nd.sublist (List.take_sublist _ _)
    rw [take_next hj, List.nodup_append] at nd2
    exact nd2.2.2 _ hm _ (by simp) rfl
  refine sortI_unique ?_ ?_
  · rw [← List.map_singleton (f := fun (i : Nat) => (i : Int)), ← List.map_append]
    refine List.Perm.map _ ((List.perm_ext_iff_of_nodup (setOf_nodup n ps (j + 1)) ?_).mpr fun s => ?_)
    · rw [List.nodup_append]
      exact ⟨setOf_nodup n ps j, by simp, fun a ha b hb e => hnot (by rw [List.mem_singleton.mp hb] at e; rw [← e]; exact ha)⟩
    · rw [setOf_mem h, List.mem_append, setOf_mem h, take_next hj, List.mem_append]
  · refine List.Pairwise.map _ (fun a b (hab : a < b) => by omega) ?_
    exact List.Pairwise.filter _ List.pairwise_lt_range
theorem setOf_succ (n : Nat) {ps : List (Nat × Rat)} {j : Nat} (hj : j < ps.length) (h : ∀ p ∈ ps, p.1 < n) : (List.range n).filter (fun s => decide (s ∈ setOf n ps j) || decide (s = ps[j].1)) = setOf n ps (j + 1) := by
  unfold setOf
  refine List.filter_congr fun s hs => ?_
  have := setOf_mem (n := n) (ps := ps) (j := j) (s := s) h
  unfold setOf at this
  rw [Bool.eq_iff_iff, Bool.or_eq_true, decide_eq_true_eq, decide_eq_true_eq, decide_eq_true_eq, this, take_next hj, List.mem_append, List.mem_singleton]
/-- the value that belongs to a state -/
def idxV (ps : List (Nat × Rat)) (s : Nat) : Rat := ((ps.find? fun p => decide (p.1 = s)).map (·.2)).getD 0
theorem idxV_of : ∀ {ps : List (Nat × Rat)} {p : Nat × Rat}, (ps.map (·.1)).Nodup → p ∈ ps → idxV ps p.1 = p.2
  | q :: ps, p, nd, h => by
    rw [List.map_cons, List.nodup_cons] at nd
    unfold idxV
    rw [List.find?_cons]
    rcases List.mem_cons.mp h with rfl | h
    · rw [decide_eq_true rfl]; rfl
    · have hne : ¬ q.1 = p.1 := fun e => nd.1 (by rw [e]; exact List.mem_map_of_mem h)
      rw [decide_eq_false hne]
      exact idxV_of nd.2 h
end Q

set_option Elab.async false
set_option linter.all false
set_option maxRecDepth 100000
set_option maxHeartbeats 1000000
namespace Q
open PySem L2 PyProof.Rows PySem.Calls
/-! ### sorted of a tuple of ints -/
theorem call_sortT {X : Cx} : CallR X (.builtin "sorted") (fun vs H Q => ∃ (a : Addr) (ns : List Int), vs = [V.ref a] ∧ SqT X.K H a (ns.map V.int) ∧
    ∀ (ns' : List Int) (p : Addr), ns'.Perm ns → ns'.Pairwise (· ≤ ·) → H p = none → Q (.ref p) (upd H p (.lst (ns'.map V.int)))) := by
  intro pins s σ H vs us Q I r h
  obtain ⟨a, ns, rfl, hs, q⟩ := h
  obtain ⟨its, rv, ht, hz⟩ := I.tuple hs
  rw [Vals.ref1 r]
  have hi := rv.ints
  have hzl : its.length ≤ sizeLine := by rw [← rv.length]; exact hz
  obtain ⟨o, ho, hc, n, hd⟩ := ht
  refine Calls.call_function_entry kind_sorted plain_sorted entry_sorted (args_sorted1 _) ?_
  unfold Builtin.«sorted»
  refine wpAny_bind (m := checkCount "sorted" 1 1 _) (wpAny_pure ?_)
  refine wpAny_bind (wpAny_collect_seq a (.inr rfl) ho hc hd (fun h' hk => ?_) (by rw [List.size_toArray]; exact hzl))
  have e : its.toArray.toList = its := by simp
  rw [e]
  refine wpAny_bind (wpAny_newList ?_ hzl)
  have hoL : (h'.push (seqObj "list" its.toArray 0)).get? h'.objs.size = some (seqObj "list" its.toArray 0) := Heap.get?_push_size _ rfl
  refine wpAny_bind (wpAny_holding (wpAny_call_entry slot_list_sort ⟨_, hoL, rfl⟩ entry_list_sort (SrtO.list_sort_ord SrtO.swo_int hoL hzl (fun h2 => SrtO.ints_sortable hi h2) fun out h1 h2 => ⟨_, rfl, ?_⟩) (args_list_sort _)))
  refine wpAny_pure ⟨_, rfl, ?_⟩
  obtain ⟨k1, k2, k3⟩ := SrtO.ints_out hi h1 h2
  obtain ⟨ep, he'⟩ := sortedHeap_at (vs := its) (out := out.toArray) hoL
  have hlen : ((out.map SrtO.iv).map V.int).length ≤ sizeLine := by
    rw [List.length_map, k2.length_eq]
    rw [List.length_map] at hz
    exact hz
  have J : Inv X pins σ H { s with heap := h' } := I.kept (t' := s.toks) hk
  exact ⟨.ref _, upd H h'.objs.size (.lst ((out.map SrtO.iv).map V.int)), J.laid (t' := s.toks) (fun b u hb => by
    have hlt : b < h'.objs.size := Heap.lt_size hb
    rw [sortedHeap_old (Nat.ne_of_lt hlt) (Heap.lt_size (Heap.get?_push_of_some _ hb))]
    exact Heap.get?_push_of_some _ hb) (Nat.le_refl _) ⟨hlen, out, ep, vals_of_ints k1, he'⟩, rfl, q _ _ k2 k3 (J.hok.fresh (Nat.le_refl _))⟩
def gSortT : List O → Option O
  | [o] => (o.asT).bind fun ds => (ds.mapM D.i?).bind fun ns => some (.ls ((sortI ns).map fun i => .fz (.int i)))
  | _ => none
theorem c_sortT {X : Cx} : QC X (.builtin "sorted") gSortT := ⟨_, call_sortT, by
  intro H0 B0 ln Γ B H σ env s os o vs w hg Q q
  unfold gSortT at hg
  split at hg
  · rename_i o1
    obtain ⟨ds, e0, hg⟩ := bind_some hg
    obtain ⟨ns, e1, hg⟩ := bind_some hg
    cases hg
    obtain ⟨v, rfl, w1⟩ := vws1 w
    obtain ⟨a, vs, rfl, h1, h3, h2⟩ := asT_ok s.w.bh w1 e0
    have := ints_ok h2 e1
    subst this
    refine ⟨a, ns, rfl, h1, fun ns' p hp hw hn => ?_⟩
    have := sortI_unique hp hw
    subst this
    obtain ⟨e2, s'⟩ := s.newLstD (rps_ints (sortI ns)) hn
    rw [List.map_map] at s'
    exact q _ _ _ (Ex.refl _) e2 s'
  · cases hg⟩
@[simp] theorem e_gSortT {ns : List Int} : gSortT [.fz (.tup (ns.map D.int))] = some (.ls ((sortI ns).map fun i => .fz (.int i))) := by
  simp only [gSortT, O.asT, mapM_int, Option.bind_some]
end Q

set_option Elab.async false
set_option linter.all false
set_option maxRecDepth 100000
set_option maxHeartbeats 1000000
namespace Q
open PySem L2
/-! ### stopping at an amount: plain facts -/
def stepV (rs : List Rat) (rows : List (List (Nat × Rat))) (b : Rat) (V : Nat → Rat) (s : Nat) : Rat := rwA rs s + b * sm (fun p => p.2 * V p.1) (rowA rows s)
/-- played inside the set, stopped at the amount outside -/
structure Sol (rs : List Rat) (rows : List (List (Nat × Rat))) (b : Rat) (xs : List Nat) (M : Rat) (V : Nat → Rat) : Prop where
  i : ∀ x ∈ xs, V x = stepV rs rows b V x
  o : ∀ x, x ∉ xs → V x = M
theorem step_lin (rs : List Rat) (rows : List (List (Nat × Rat))) (b : Rat) (E F : Nat → Rat) (M : Rat) (s : Nat) : stepV rs rows b (fun t => E t + F t * M) s = stepV rs rows b E s + b * sm (fun p => p.2 * F p.1) (rowA rows s) * M := by
  unfold stepV
  have e : sm (fun p : Nat × Rat => p.2 * (E p.1 + F p.1 * M)) (rowA rows s) = sm (fun p => p.2 * E p.1) (rowA rows s) + M * sm (fun p => p.2 * F p.1) (rowA rows s) := by
    rw [← sm_mul, ← sm_add]
    exact sm_congr fun p _ => by grind
  rw [e]
  grind
theorem Lv.sol {rs : List Rat} {rows : List (List (Nat × Rat))} {b : Rat} {xs : List Nat} {E F : Nat → Rat} (lv : Lv rs rows b xs E F) (M : Rat) : Sol rs rows b xs M (fun t => E t + F t * M) := by
  refine ⟨fun x hx => ?_, fun x hx => ?_⟩
  · rw [step_lin]
    have e1 := lv.e x hx
    have e2 := lv.f x hx
    show E x + F x * M = _
    unfold stepV
    rw [← e1, ← e2]
  · show E x + F x * M = M
    rw [lv.e0 x hx, lv.f1 x hx]
    grind
section
variable {rs : List Rat} {rows : List (List (Nat × Rat))} {n : Nat} (ch : Chances rows n) {b : Rat} (hb : Disc b)
theorem step_sub (U V : Nat → Rat) (s : Nat) : stepV rs rows b U s - stepV rs rows b V s = b * sm (fun p => p.2 * (U p.1 - V p.1)) (rowA rows s) := by
  unfold stepV
  have e : sm (fun p : Nat × Rat => p.2 * (U p.1 - V p.1)) (rowA rows s) = sm (fun p => p.2 * U p.1) (rowA rows s) - sm (fun p => p.2 * V p.1) (rowA rows s) := by
    rw [← sm_sub]
    exact sm_congr fun p _ => by grind
  rw [e]
  grind
include ch hb in
theorem step_mono {U V : Nat → Rat} {d : Rat} (h : ∀ t, U t ≤ V t + d) {s : Nat} (hs : s < n) : stepV rs rows b U s ≤ stepV rs rows b V s + b * d := by
  have a1 := avg_le (ch.nn s) (g := fun t => U t - V t) (M := d) fun t => by have := h t; grind
  rw [ch.one s hs, Rat.mul_one] at a1
  have a2 := Rat.mul_le_mul_of_nonneg_left a1 hb.nn
  have e := step_sub (rs := rs) (rows := rows) (b := b) U V s
  rw [← e] at a2
  grind
-- what is at most its own step inside, and at most another outside that is at least its own step
include ch hb in
theorem sub_le {xs : List Nat} (hx : ∀ x ∈ xs, x < n) {U V : Nat → Rat} (h1 : ∀ x ∈ xs, U x ≤ stepV rs rows b U x) (h2 : ∀ x ∈ xs, stepV rs rows b V x ≤ V x) (h3 : ∀ x, x ∉ xs → U x ≤ V x) (t : Nat) : U t ≤ V t := by
  have := max_prin ch hb hx (g := fun t => U t - V t) (fun x h => by
    have a := h1 x h
    have c := h2 x h
    have e := step_sub (rs := rs) (rows := rows) (b := b) U V x
    show U x - V x ≤ b * sm (fun p : Nat × Rat => p.2 * (U p.1 - V p.1)) (rowA rows x)
    rw [← e]
    grind) (fun x h => by have := h3 x h; grind) t
  grind
include ch hb in
theorem Sol.le {xs : List Nat} (hx : ∀ x ∈ xs, x < n) {M : Rat} {U V : Nat → Rat} (hu : Sol rs rows b xs M U) (hv : Sol rs rows b xs M V) (t : Nat) : U t ≤ V t :=
  sub_le ch hb hx (fun x h => by rw [← hu.i x h]; exact Rat.le_refl) (fun x h => by rw [← hv.i x h]; exact Rat.le_refl) (fun x h => by rw [hu.o x h, hv.o x h]; exact Rat.le_refl) t
include ch hb in
theorem Sol.uniq {xs : List Nat} (hx : ∀ x ∈ xs, x < n) {M : Rat} {U V : Nat → Rat} (hu : Sol rs rows b xs M U) (hv : Sol rs rows b xs M V) : U = V :=
  funext fun t => Rat.le_antisymm (Sol.le ch hb hx hu hv t) (Sol.le ch hb hx hv hu t)
-- a greater amount outside: no more is gained than it is greater
include ch hb in
theorem Sol.shift {xs : List Nat} (hx : ∀ x ∈ xs, x < n) {M N : Rat} (h : M ≤ N) {U V : Nat → Rat} (hu : Sol rs rows b xs M U) (hv : Sol rs rows b xs N V) (t : Nat) : V t ≤ U t + (N - M) := by
  have key := max_prin ch hb hx (g := fun t => V t - U t - (N - M)) (fun x h => by
    have a := hu.i x h
    have c := hv.i x h
    have e := step_sub (rs := rs) (rows := rows) (b := b) V U x
    have o := ch.one x (hx x h)
    have e3 : sm (fun p : Nat × Rat => p.2 * (V p.1 - U p.1 - (N - M))) (rowA rows x) = sm (fun p => p.2 * (V p.1 - U p.1)) (rowA rows x) - (N - M) * sm (fun p => p.2) (rowA rows x) := by
      rw [← sm_mul, ← sm_sub]
      exact sm_congr fun p _ => by grind
    show V x - U x - (N - M) ≤ b * sm (fun p : Nat × Rat => p.2 * (V p.1 - U p.1 - (N - M))) (rowA rows x)
    rw [e3, o]
    have q : b * (N - M) ≤ 1 * (N - M) := Rat.mul_le_mul_of_nonneg_right (by have := hb.lt; grind) (by grind)
    rw [← a, ← c] at e
    grind) (fun x h => by
      show V x - U x - (N - M) ≤ 0
      rw [hu.o x h, hv.o x h]
      grind) t
  grind
end
/-- the order in which the states are chosen: each step takes the best worth -/
structure Ord (rs : List Rat) (rows : List (List (Nat × Rat))) (n : Nat) (b : Rat) (ps : List (Nat × Rat)) : Prop where
  lt : ∀ p ∈ ps, p.1 < n
  nd : (ps.map (·.1)).Nodup
  len : ps.length = n
  step : ∀ j (h : j < ps.length), ∃ V, Sol rs rows b (setOf n ps j) ps[j].2 V ∧ stepV rs rows b V ps[j].1 = ps[j].2 ∧ ps[j].1 ∉ setOf n ps j ∧ ∀ s, s < n → s ∉ setOf n ps j → stepV rs rows b V s ≤ ps[j].2
theorem setOf_next_mem {n : Nat} {ps : List (Nat × Rat)} (h : ∀ p ∈ ps, p.1 < n) {j : Nat} (hj : j < ps.length) (s : Nat) : s ∈ setOf n ps (j + 1) ↔ s ∈ setOf n ps j ∨ s = ps[j].1 := by
  rw [setOf_mem h, setOf_mem h, take_next hj, List.mem_append, List.mem_singleton]
theorem least_nat {p : Nat → Prop} (h : ∃ m, p m) : ∃ m, p m ∧ ∀ j, j < m → ¬ p j := by
  obtain ⟨m, hm⟩ := h
  induction m using Nat.strongRecOn with
  | _ m ih =>
    by_cases hc : ∃ j, j < m ∧ p j
    · obtain ⟨j, hj, pj⟩ := hc
      exact ih j hj pj
    · exact ⟨m, hm, fun j hj pj => hc ⟨j, hj, pj⟩⟩
theorem nodup_fst_inj {ps : List (Nat × Rat)} (nd : (ps.map (·.1)).Nodup) {i j : Nat} (hi : i < ps.length) (hj : j < ps.length) (e : ps[i].1 = ps[j].1) : i = j := by
  have h1 : (ps.map (·.1))[i]'(by simpa using hi) = (ps.map (·.1))[j]'(by simpa using hj) := by simpa using e
  exact (List.getElem_inj nd).mp h1
section
variable {rs : List Rat} {rows : List (List (Nat × Rat))} {n : Nat} (ch : Chances rows n) {b : Rat} (hb : Disc b) {ps : List (Nat × Rat)} (o : Ord rs rows n b ps)
include ch hb o in
theorem Ord.down1 {j : Nat} (hj : j + 1 < ps.length) : ps[j + 1].2 ≤ ps[j].2 := by
  obtain ⟨V, sv, e1, h1, h2⟩ := o.step j (by omega)
  obtain ⟨W, sw, e2, h3, h4⟩ := o.step (j + 1) hj
  have hm := setOf_next_mem o.lt (j := j) (by omega)
  have sv' : Sol rs rows b (setOf n ps (j + 1)) ps[j].2 V := by
    refine ⟨fun x hx => ?_, fun x hx => sv.o x fun h => hx ((hm x).mpr (.inl h))⟩
    rcases (hm x).mp hx with h | rfl
    · exact sv.i x h
    · rw [e1]; exact sv.o _ h1
  apply Classical.byContradiction
  intro hc
  have hlt : ps[j].2 < ps[j + 1].2 := by grind
  have sh := Sol.shift ch hb setOf_lt (by grind : ps[j].2 ≤ ps[j + 1].2) sv' sw
  have hn : ps[j + 1].1 < n := o.lt _ (List.getElem_mem hj)
  have a1 := step_mono (rs := rs) ch hb sh hn
  have a2 := h2 ps[j + 1].1 hn fun h => h3 ((hm _).mpr (.inl h))
  have q : b * (ps[j + 1].2 - ps[j].2) < 1 * (ps[j + 1].2 - ps[j].2) := Rat.mul_lt_mul_of_pos_right hb.lt (by grind)
  rw [e2] at a1
  generalize b * (ps[j + 1].2 - ps[j].2) = w at *
  grind
include ch hb o in
theorem Ord.down {i j : Nat} (hij : i ≤ j) (hj : j < ps.length) : ps[j].2 ≤ ps[i].2 := by
  induction j with
  | zero =>
    have : i = 0 := by omega
    subst this
    exact Rat.le_refl
  | succ j ih =>
    by_cases h : i = j + 1
    · subst h; exact Rat.le_refl
    · exact Rat.le_trans (o.down1 ch hb hj) (ih (by omega) (by omega))
include o in
theorem Ord.idx {j : Nat} (hj : j < ps.length) : idxV ps ps[j].1 = ps[j].2 := idxV_of o.nd (List.getElem_mem hj)
include o in
theorem Ord.all {s : Nat} (hs : s < n) : ∃ j, ∃ h : j < ps.length, ps[j].1 = s := by
  have := nodup_all (n := n) o.nd (fun x hx => by
    obtain ⟨p, hp, rfl⟩ := List.mem_map.mp hx
    exact o.lt p hp) (by simp [o.len]) s hs
  obtain ⟨p, hp, e⟩ := List.mem_map.mp this
  obtain ⟨j, hj, rfl⟩ := List.mem_iff_getElem.mp hp
  exact ⟨j, hj, e⟩
/-- the states whose value is above the amount -/
def above (n : Nat) (ps : List (Nat × Rat)) (M : Rat) : List Nat := (List.range n).filter fun s => decide (M < idxV ps s)
theorem above_mem {M : Rat} {s : Nat} : s ∈ above n ps M ↔ s < n ∧ M < idxV ps s := by
  unfold above
  rw [List.mem_filter, List.mem_range, decide_eq_true_eq]
theorem above_lt {M : Rat} : ∀ s ∈ above n ps M, s < n := fun s h => (above_mem.mp h).1
theorem above_nodup {M : Rat} : (above n ps M).Nodup := List.nodup_range.sublist List.filter_sublist
theorem above_len {M : Rat} : (above n ps M).length ≤ n := Nat.le_trans (List.length_filter_le _ _) (by simp)
theorem setOf_get (h : ∀ p ∈ ps, p.1 < n) {j s : Nat} : s ∈ setOf n ps j ↔ ∃ i, ∃ hi : i < ps.length, i < j ∧ ps[i].1 = s := by
  rw [setOf_mem h, List.mem_map]
  constructor
  · rintro ⟨p, hp, rfl⟩
    obtain ⟨i, hi, rfl⟩ := List.mem_iff_getElem.mp hp
    rw [List.length_take] at hi
    exact ⟨i, by omega, by omega, by rw [List.getElem_take]⟩
  · rintro ⟨i, hi, hij, rfl⟩
    refine ⟨ps[i], List.mem_iff_getElem.mpr ⟨i, by rw [List.length_take]; omega, by rw [List.getElem_take]⟩, rfl⟩
include ch hb o in
theorem Ord.cut (M : Rat) : ∃ m, m ≤ ps.length ∧ (∀ j (h : j < ps.length), j < m ↔ M < ps[j].2) ∧ above n ps M = setOf n ps m := by
  have ex : ∃ m, m ≤ ps.length ∧ ∀ j (h : j < ps.length), j < m ↔ M < ps[j].2 := by
    by_cases hall : ∀ j (h : j < ps.length), M < ps[j].2
    · exact ⟨ps.length, Nat.le_refl _, fun j h => ⟨fun _ => hall j h, fun _ => h⟩⟩
    · have hex : ∃ j, ∃ h : j < ps.length, ¬ M < ps[j].2 := by
        apply Classical.byContradiction
        intro hc
        exact hall fun j h => Classical.byContradiction fun h2 => hc ⟨j, h, h2⟩
      obtain ⟨m, ⟨hm, h2⟩, h3⟩ := least_nat hex
      refine ⟨m, by omega, fun j h => ⟨fun hlt => ?_, fun hM => ?_⟩⟩
      · exact Classical.byContradiction fun h4 => h3 j hlt ⟨h, h4⟩
      · apply Classical.byContradiction
        intro hge
        have := o.down ch hb (i := m) (j := j) (by omega) h
        exact h2 (by grind)
  obtain ⟨m, hm, h⟩ := ex
  refine ⟨m, hm, h, ?_⟩
  unfold above setOf
  refine List.filter_congr fun s hs => ?_
  refine decide_eq_decide.mpr ?_
  obtain ⟨j, hj, rfl⟩ := o.all (List.mem_range.mp hs)
  rw [o.idx hj, ← h j hj, ← setOf_mem (n := n) o.lt, setOf_get o.lt]
  constructor
  · exact fun hjm => ⟨j, hj, hjm, rfl⟩
  · rintro ⟨i, hi, him, e⟩
    have : i = j := nodup_fst_inj o.nd hi hj e
    rw [← this]; exact him
include ch hb o in
theorem Ord.floor (ex : ∀ j, j ≤ ps.length → ∀ M, ∃ V, Sol rs rows b (setOf n ps j) M V) {M : Rat} : ∀ j, j ≤ ps.length → (∀ i (h : i < ps.length), i < j → M ≤ ps[i].2) → ∀ V, Sol rs rows b (setOf n ps j) M V → ∀ t, M ≤ V t
  | 0, _, _, V, sv, t => by
    rw [sv.o t (by unfold setOf; simp)]
    exact Rat.le_refl
  | j + 1, hj, hM, V, sv, t => by
    obtain ⟨U, su⟩ := ex j (by omega) M
    have hU := Ord.floor ex j (by omega) (fun i h hij => hM i h (by omega)) U su
    refine Rat.le_trans (hU t) ?_
    have hm := setOf_next_mem o.lt (j := j) (by omega)
    obtain ⟨W, sw, e1, h1, h2⟩ := o.step j (by omega)
    refine sub_le (rs := rs) ch hb (xs := setOf n ps (j + 1)) setOf_lt (fun x hx => ?_) (fun x hx => by rw [← sv.i x hx]; exact Rat.le_refl) (fun x hx => ?_) t
    · rcases (hm x).mp hx with h | rfl
      · rw [← su.i x h]; exact Rat.le_refl
      · rw [su.o _ h1]
        have hle := hM j (by omega) (by omega)
        have sh := Sol.shift ch hb setOf_lt hle su sw
        have a1 := step_mono (rs := rs) ch hb sh (o.lt _ (List.getElem_mem (by omega : j < ps.length)))
        have q : b * (ps[j].2 - M) ≤ 1 * (ps[j].2 - M) := Rat.mul_le_mul_of_nonneg_right (by have := hb.lt; grind) (by grind)
        rw [e1] at a1
        generalize b * (ps[j].2 - M) = w at *
        grind
    · rw [su.o x fun h => hx ((hm x).mpr (.inl h)), sv.o x hx]
      exact Rat.le_refl
include ch hb o in
theorem Ord.bell (ex : ∀ j, j ≤ ps.length → ∀ M, ∃ V, Sol rs rows b (setOf n ps j) M V) {M : Rat} {V : Nat → Rat} (sv : Sol rs rows b (above n ps M) M V) : (∀ t, M ≤ V t) ∧ ∀ s, s < n → stepV rs rows b V s ≤ V s := by
  obtain ⟨m, hm, h, e⟩ := o.cut ch hb M
  rw [e] at sv
  have fl := o.floor ch hb ex m hm (fun i hi him => by have := (h i hi).mp him; grind) V sv
  refine ⟨fl, fun s hs => ?_⟩
  by_cases hin : s ∈ setOf n ps m
  · rw [← sv.i s hin]; exact Rat.le_refl
  · rw [sv.o s hin]
    by_cases hml : m < ps.length
    · obtain ⟨W, sw, e1, h1, h2⟩ := o.step m hml
      have hle : ps[m].2 ≤ M := by
        have := mt (h m hml).mpr (by omega)
        grind
      have sh := Sol.shift ch hb setOf_lt hle sw sv
      have a1 := step_mono (rs := rs) ch hb sh hs
      have a2 := h2 s hs hin
      have q : b * (M - ps[m].2) ≤ 1 * (M - ps[m].2) := Rat.mul_le_mul_of_nonneg_right (by have := hb.lt; grind) (by grind)
      generalize b * (M - ps[m].2) = w at *
      grind
    · obtain ⟨j, hj, rfl⟩ := o.all hs
      exact absurd ((setOf_get o.lt).mpr ⟨j, hj, by omega, rfl⟩) hin
include ch hb in
theorem bell_max {M : Rat} {V : Nat → Rat} (h1 : ∀ t, M ≤ V t) (h2 : ∀ s, s < n → stepV rs rows b V s ≤ V s) {xs : List Nat} (hx : ∀ x ∈ xs, x < n) {U : Nat → Rat} (su : Sol rs rows b xs M U) (t : Nat) : U t ≤ V t :=
  sub_le ch hb hx (fun x h => by rw [← su.i x h]; exact Rat.le_refl) (fun x h => h2 x (hx x h)) (fun x h => by rw [su.o x h]; exact h1 x) t
-- at a state's own value its step gives that value
include ch hb o in
theorem Ord.tie (ex : ∀ j, j ≤ ps.length → ∀ M, ∃ V, Sol rs rows b (setOf n ps j) M V) {s : Nat} (hs : s < n) {V : Nat → Rat} (sv : Sol rs rows b (above n ps (idxV ps s)) (idxV ps s) V) : stepV rs rows b V s = idxV ps s := by
  obtain ⟨h1, h2⟩ := o.bell ch hb ex sv
  obtain ⟨j, hj, rfl⟩ := o.all hs
  rw [o.idx hj] at *
  have hle := h2 _ hs
  rw [sv.o _ (fun h => by have := (above_mem.mp h).2; rw [o.idx hj] at this; exact absurd this (by grind))] at hle
  obtain ⟨W, sw, e1, h3, h4⟩ := o.step j hj
  have hW := bell_max (rs := rs) ch hb h1 h2 setOf_lt sw
  have a1 := step_mono (rs := rs) ch hb (U := W) (V := V) (d := 0) (fun t => by have := hW t; grind) hs
  rw [e1] at a1
  grind
-- no set gains more than the value of the state
include ch hb o in
theorem Ord.best (ex : ∀ j, j ≤ ps.length → ∀ M, ∃ V, Sol rs rows b (setOf n ps j) M V) {s : Nat} (hs : s < n) {xs : List Nat} (hx : ∀ x ∈ xs, x < n) {U : Nat → Rat} (su : Sol rs rows b xs (idxV ps s) U) : stepV rs rows b U s ≤ idxV ps s := by
  obtain ⟨m, hm, h, e⟩ := o.cut ch hb (idxV ps s)
  obtain ⟨V, sv⟩ := ex m hm (idxV ps s)
  rw [← e] at sv
  obtain ⟨h1, h2⟩ := o.bell ch hb ex sv
  have hU := bell_max (rs := rs) ch hb h1 h2 hx su
  have a1 := step_mono (rs := rs) ch hb (U := U) (V := V) (d := 0) (fun t => by have := hU t; grind) hs
  rw [o.tie ch hb ex hs sv] at a1
  grind
end
end Q

set_option Elab.async false
set_option linter.all false
set_option maxRecDepth 100000
set_option maxHeartbeats 1000000
namespace Q
open PySem L2
def oShl : O → O → Option O := oIg fun i j => if 0 ≤ j ∧ j ≤ 1000000 ∧ i.natAbs < 2 ^ 64 then some (.fz (.int (i * 2 ^ j.toNat))) else none
@[simp] theorem e_shl {i j : Int} : oShl (.fz (.int i)) (.fz (.int j)) = if 0 ≤ j ∧ j ≤ 1000000 ∧ i.natAbs < 2 ^ 64 then some (.fz (.int (i * 2 ^ j.toNat))) else none := rfl
theorem q_shl {X : Cx} : QOp X (binaryOp .LShift) oShl := ⟨_, op_shl, rs_I fun i j o h => by
  split at h
  · rename_i hc; cases h; exact ⟨hc, _, rfl, fun B => by rw [Rp]⟩
  · cases h⟩
end Q

set_option Elab.async false
set_option linter.all false
set_option maxRecDepth 100000
set_option maxHeartbeats 1000000
namespace Q
open PySem L2
/-! ### loops that return at the first that is bad -/
theorem for_ret {T α : Type} {gs : D → En → Option En} {mb : SM} (E : T → En) (g : α → D) (bad : α → Bool) (z : D) :
    ∀ (xs : List α) (t : T), (∀ x ∈ xs, ∀ t, ∃ e1 t', gs (g x) (E t) = some e1 ∧ (bad x = true → mb e1 = some (.rt z)) ∧ (bad x = false → mb e1 = some (.nx (E t')))) →
      (xs.any bad = true → forL gs mb (xs.map g) (E t) = some (.rt z)) ∧ (xs.any bad = false → ∃ t', forL gs mb (xs.map g) (E t) = some (.nx (E t')))
  | [], t, _ => ⟨fun h => by simp at h, fun _ => ⟨t, rfl⟩⟩
  | x :: xs, t, h => by
    obtain ⟨e1, t', h1, h2, h3⟩ := h x (by simp) t
    have ih := for_ret E g bad z xs t' fun y hy => h y (by simp [hy])
    rw [List.map_cons, List.any_cons]
    cases hb : bad x
    · rw [Bool.false_or]
      have e : forL gs mb (g x :: xs.map g) (E t) = forL gs mb (xs.map g) (E t') := by
        rw [forL, h1, Option.bind_some, h3 hb]; rfl
      rw [e]
      exact ih
    · refine ⟨fun _ => ?_, fun h => by simp at h⟩
      rw [forL, h1, Option.bind_some, h2 hb]; rfl
theorem fold1 {α : Type} (A : α → Rat) : ∀ (xs : List α) (a : Rat), xs.foldl (fun s p => s + A p) a = a + sm A xs
  | [], a => by
    show a = a + 0
    grind
  | x :: xs, a => by
    rw [List.foldl_cons, fold1 A xs]
    show _ = a + (A x + sm A xs)
    grind
/-- the entry of a table -/
def vAt (qs : List Rat) (t : Nat) : Rat := (qs[t]?).getD 0
theorem at_v {qs : List Rat} {t : Nat} (h : t < qs.length) : atI (qs.map encQ) (t : Int) = some (encQ (vAt qs t)) := by
  rw [atI_nat' (by simpa using h), List.getElem?_map]
  unfold vAt
  rw [List.getElem?_eq_getElem h]; rfl
theorem vAt_mem {qs : List Rat} {t : Nat} (h : t < qs.length) : vAt qs t ∈ qs := by
  unfold vAt
  rw [List.getElem?_eq_getElem h]
  exact List.getElem_mem h
theorem vAt_range {n : Nat} {V : Nat → Rat} {t : Nat} (h : t < n) : vAt ((List.range n).map V) t = V t := by
  unfold vAt
  rw [List.getElem?_map, List.getElem?_range h]; rfl
theorem step_congr {rs : List Rat} {rows : List (List (Nat × Rat))} {b : Rat} {U V : Nat → Rat} {s : Nat} (h : ∀ p ∈ rowA rows s, U p.1 = V p.1) : stepV rs rows b U s = stepV rs rows b V s := by
  unfold stepV
  rw [sm_congr fun p hp => by rw [h p hp]]
/-- a set: ascending, below the size -/
structure SetOk (n : Nat) (zs : List Int) : Prop where
  asc : zs.Pairwise (· < ·)
  nn : ∀ z ∈ zs, 0 ≤ z
  lt : ∀ z ∈ zs, z < n
def zAt (zs : List Int) (k : Nat) : Int := (zs[k]?).getD 0
theorem at_z {zs : List Int} {k : Nat} (h : k < zs.length) : atI (zs.map D.int) (k : Int) = some (.int (zAt zs k)) := by
  rw [atI_nat' (by simpa using h), List.getElem?_map]
  unfold zAt
  rw [List.getElem?_eq_getElem h]; rfl
def zBad (n : Nat) (zs : List Int) (k : Nat) : Bool := decide (zAt zs k < 0 ∨ (n : Int) ≤ zAt zs k ∨ (0 < k ∧ zAt zs k ≤ zAt zs (k - 1)))
theorem zBad_set {n : Nat} {zs : List Int} : (List.range zs.length).any (zBad n zs) = false ↔ SetOk n zs := by
  rw [List.any_eq_false]
  have zg : ∀ k (h : k < zs.length), zAt zs k = zs[k] := fun k h => by unfold zAt; rw [List.getElem?_eq_getElem h]; rfl
  constructor
  · intro h
    have h : ∀ k, k < zs.length → ¬ (zAt zs k < 0 ∨ (n : Int) ≤ zAt zs k ∨ (0 < k ∧ zAt zs k ≤ zAt zs (k - 1))) := fun k hk hc => h k (List.mem_range.mpr hk) (decide_eq_true hc)
    have st : ∀ d k, k + d + 1 < zs.length → zAt zs k < zAt zs (k + d + 1) := fun d => by
      induction d with
      | zero => intro k hk; have := h (k + 1) hk; rw [Nat.add_sub_cancel] at this; show zAt zs k < zAt zs (k + 1); omega
      | succ d ih =>
        intro k hk
        have a := ih k (by omega)
        have c := h (k + (d + 1) + 1) hk
        rw [Nat.add_sub_cancel] at c
        have : k + d + 1 = k + (d + 1) := by omega
        rw [this] at a
        omega
    refine ⟨?_, fun z hz => ?_, fun z hz => ?_⟩
    · rw [List.pairwise_iff_getElem]
      intro i j hi hj hij
      have := st (j - i - 1) i (by omega)
      have e : i + (j - i - 1) + 1 = j := by omega
      rw [e, zg i hi, zg j hj] at this
      exact this
    · obtain ⟨k, hk, rfl⟩ := List.mem_iff_getElem.mp hz
      have := h k hk
      rw [zg k hk] at this
      omega
    · obtain ⟨k, hk, rfl⟩ := List.mem_iff_getElem.mp hz
      have := h k hk
      rw [zg k hk] at this
      omega
  · intro h k hk hc
    have hk := List.mem_range.mp hk
    have hc := of_decide_eq_true hc
    have a1 := h.nn _ (List.getElem_mem hk)
    have a2 := h.lt _ (List.getElem_mem hk)
    rw [zg k hk] at hc
    rcases hc with hc | hc | ⟨h0, hc⟩
    · omega
    · omega
    · rw [zg (k - 1) (by omega)] at hc
      have := (List.pairwise_iff_getElem.mp h.asc) (k - 1) k (by omega) hk (by omega)
      omega
theorem SetOk.nat {n : Nat} {zs : List Int} (h : SetOk n zs) : (zs.map Int.toNat).map (fun (i : Nat) => (i : Int)) = zs := by
  rw [List.map_map]
  refine (List.map_congr_left fun z hz => ?_).trans (List.map_id zs)
  have := h.nn z hz
  show ((z.toNat : Nat) : Int) = z
  omega
theorem SetOk.toD {n : Nat} {zs : List Int} (h : SetOk n zs) : (zs.map Int.toNat).map natD = zs.map D.int := by
  have e : (zs.map Int.toNat).map natD = ((zs.map Int.toNat).map (fun (i : Nat) => (i : Int))).map D.int := by rw [List.map_map (f := fun (i : Nat) => (i : Int))]; rfl
  rw [e, h.nat]
theorem SetOk.nodup {n : Nat} {zs : List Int} (h : SetOk n zs) : (zs.map Int.toNat).Nodup := by
  unfold List.Nodup
  rw [List.pairwise_map]
  refine List.Pairwise.imp_of_mem ?_ h.asc
  intro a b ha hb hab
  have := h.nn a ha
  have := h.nn b hb
  omega
theorem SetOk.mem {n : Nat} {zs : List Int} (h : SetOk n zs) : ∀ x ∈ zs.map Int.toNat, x < n := fun x hx => by
  obtain ⟨z, hz, rfl⟩ := List.mem_map.mp hx
  have := h.nn z hz
  have := h.lt z hz
  omega
theorem SetOk.of_nat {n : Nat} {xs : List Nat} (h : xs.Pairwise (· < ·)) (hx : ∀ x ∈ xs, x < n) : SetOk n (xs.map fun (i : Nat) => (i : Int)) := by
  refine ⟨?_, fun z hz => ?_, fun z hz => ?_⟩
  · rw [List.pairwise_map]
    exact h.imp fun {a b} hab => by omega
  · obtain ⟨x, _, rfl⟩ := List.mem_map.mp hz; omega
  · obtain ⟨x, hx2, rfl⟩ := List.mem_map.mp hz
    have := hx x hx2
    omega
theorem nat_back (xs : List Nat) : (xs.map fun (i : Nat) => (i : Int)).map Int.toNat = xs := by
  rw [List.map_map]
  exact (List.map_congr_left fun x _ => by show ((x : Int)).toNat = x; omega).trans (List.map_id xs)
theorem above_asc {n : Nat} {ps : List (Nat × Rat)} {M : Rat} : (above n ps M).Pairwise (· < ·) := List.Pairwise.filter _ List.pairwise_lt_range
/-- what makes an index paper right -/
structure Right (rs : List Rat) (rows : List (List (Nat × Rat))) (n : Nat) (b : Rat) (s : Nat) (q : Rat) (zs : List Int) (qs : List Rat) : Prop where
  len : qs.length = n
  at_ : vAt qs s = q
  set : SetOk n zs
  bell : ∀ t, t < n → q ≤ vAt qs t ∧ stepV rs rows b (vAt qs) t ≤ vAt qs t
  last : ∃ V, Sol rs rows b (zs.map Int.toNat) q V ∧ stepV rs rows b V s = q
end Q

set_option Elab.async false
set_option linter.all false
set_option maxRecDepth 100000
set_option maxHeartbeats 1000000
namespace Q
open PySem L2
/-! ### is True, is not True, of bools -/
def oIsB : O → O → Option O
  | .fz (.bl a), .fz (.bl b) => some (.fz (.bl (decide (a = b))))
  | _, _ => none
def oIsNotB : O → O → Option O
  | .fz (.bl a), .fz (.bl b) => some (.fz (.bl (!decide (a = b))))
  | _, _ => none
@[simp] theorem e_isB {a b : Bool} : oIsB (.fz (.bl a)) (.fz (.bl b)) = some (.fz (.bl (decide (a = b)))) := rfl
@[simp] theorem e_isNotB {a b : Bool} : oIsNotB (.fz (.bl a)) (.fz (.bl b)) = some (.fz (.bl (!decide (a = b)))) := rfl
theorem q_isB {X : Cx} : QOp X (compareOp .Is) oIsB := ⟨_, op_isBl, by
  intro H0 B0 ln Γ B H σ env s o1 o2 o x y w1 w2 hg Q q
  unfold oIsB at hg
  split at hg
  · cases hg
    rw [Vw, Rp] at w1 w2
    exact ⟨_, _, w1, w2, q _ B H (Ex.refl _) (Ex.refl _) (s.push (by rw [Rp]))⟩
  · cases hg⟩
theorem q_isnotB {X : Cx} : QOp X (compareOp .IsNot) oIsNotB := ⟨_, op_notBl, by
  intro H0 B0 ln Γ B H σ env s o1 o2 o x y w1 w2 hg Q q
  unfold oIsNotB at hg
  split at hg
  · cases hg
    rw [Vw, Rp] at w1 w2
    exact ⟨_, _, w1, w2, q _ B H (Ex.refl _) (Ex.refl _) (s.push (by rw [Rp]))⟩
  · cases hg⟩
end Q

set_option Elab.async false
set_option linter.all false
set_option maxRecDepth 100000
set_option maxHeartbeats 1000000
namespace Q
open PySem L2 PyProof.Rows
/-! ### own classes whose instances do not change once they are made -/
def lookF : List Str → List D → Str → Option D
  | n :: ns, d :: ds, f => match f == n with
    | true => some d
    | false => lookF ns ds f
  | _, _, _ => none
theorem lookF_ok {K : PySem.W.Frag} {B : Hp} {f : Str} : ∀ {ns : List Str} {ds : List D} {vs : List V} {d : D}, Rps K B ds vs → lookF ns ds f = some d → ∃ v, (ns.zip vs).lookup f = some v ∧ Rp K B d v
  | [], ds, vs, d, r, h => by cases ds <;> simp [lookF] at h
  | n :: ns, [], vs, d, r, h => by simp [lookF] at h
  | n :: ns, e :: ds, vs, d, r, h => by
    rw [Rps] at r
    obtain ⟨v, r', rfl, h1, h2⟩ := r
    rw [List.zip_cons_cons]
    unfold lookF at h
    unfold List.lookup
    cases c : f == n
    · rw [c] at h
      exact lookF_ok h2 h
    · rw [c] at h
      cases h
      exact ⟨v, rfl, h1⟩
/-- the class x, and no class of it has the name f -/
structure FldOk (K : PySem.W.Frag) (x f : Str) : Prop where
  ex : ∃ C, PySem.W.nsIn K mainGlobals x = some (some (.ref C)) ∧ NoAttr K C f
theorem FldOk.of {K : PySem.W.Frag} {x f : Str} {C : Addr} (T : FldOk K x f) (i : InsC K x C) : NoAttr K C f := by
  obtain ⟨C', h, n⟩ := T.ex
  have := h.symm.trans i.ns
  cases this
  exact n
def oFld (x f : Str) : O → Option O
  | .fz (.ins y ns ds) => if y = x then (lookF ns ds f).map .fz else none
  | _ => none
theorem qe_fld {X : Cx} {e : Expr} {m : EM O} {x f : Str} {pos : Pos} (T : FldOk X.K x f) (he : QV X e m) (hb : attributeBase e f X.env (eval e X.env) = eval e X.env := by rfl) : QE X (.Attribute e f pos) (m1 (oFld x f) m) := by
  obtain ⟨t, h1, h2⟩ := he
  refine ⟨_, pe_fld h1 hb, fun H0 B0 ln Γ B H σ env s o env' em Q q => ?_⟩
  obtain ⟨p, em1, em⟩ := bind_some em
  obtain ⟨z, em2, em⟩ := bind_some em
  cases em
  refine h2 H0 B0 ln Γ B H σ env s _ _ em1 _ fun v B1 H1 e1 e2 s1 w1 => ?_
  unfold oFld at em2
  split at em2
  · rename_i y ns ds hp
    split at em2
    · rename_i hy
      subst hy
      obtain ⟨d, hd, rfl⟩ := Option.map_eq_some_iff.mp em2
      rw [hp, Vw, Rp] at w1
      obtain ⟨a, C, dx, vs, rfl, ha, hdx, ic, hl, r⟩ := w1
      obtain ⟨v', l, rv⟩ := lookF_ok r hd
      exact ⟨a, C, dx, _, v', rfl, s1.w.bh _ _ ha, ic.cl, T.of ic, l, q v' B1 H1 e1 e2 (s1.push rv)⟩
    · cases em2
  · cases em2
/-! methods -/
/-- the def m of the class x means mf, the object being its first datum -/
structure MethOk (P : Program) (w : World) (K : PySem.W.Frag) (mg : Str → Option Value) (base : Heap) (k : Nat) (x m : Str) (n : Nat) (mf : List D → Option D) : Prop where
  len : ∀ ds d, mf ds = some d → ds.length = n
  ex : ∃ (C f : Addr) (fd : FuncData) (ps : List Str), PySem.W.nsIn K mainGlobals x = some (some (.ref C)) ∧ FnOk P w K mg base CX0 k f fd ps (spM K n mf) ∧ Meth K C m f ∧ PySem.W.fnIn K f = true ∧ Binds K fd ps []
def isIns (x : Str) (m : Str) : O → Option D
  | .fz (.ins y ns ds) => if y = x ∧ m ∉ ns then some (.ins y ns ds) else none
  | _ => none
def mMeth (x m : Str) (mf : List D → Option D) (mo : EM O) (mA : EM (List O)) : EM O := fun env => (mo env).bind fun p => (isIns x m p.1).bind fun d => (mA p.2).bind fun q => (mf (d :: O.frzs q.1)).bind fun r => some (.fz r, q.2)
theorem lookup_none {α : Type} {f : Str} : ∀ {ns : List Str} {vs : List α}, f ∉ ns → (ns.zip vs).lookup f = none
  | [], vs, _ => by simp
  | n :: ns, [], _ => by simp
  | n :: ns, v :: vs, h => by
    rw [List.zip_cons_cons, List.lookup]
    have : (f == n) = false := by
      rw [beq_eq_false_iff_ne]
      exact fun e => h (by simp [e])
    rw [this]
    exact lookup_none fun z => h (by simp [z])
theorem isIns_ok {K : PySem.W.Frag} {B H : Hp} {x m : Str} {o : O} {d : D} {v : V} (h : isIns x m o = some d) (w : Vw K B H o v) : ∃ a C dx fs, v = .ref a ∧ B a = some (.ins C dx fs) ∧ InsC K x C ∧ fs.lookup m = none ∧ Rp K B d v := by
  unfold isIns at h
  split at h
  · split at h
    · rename_i y ns ds hy
      cases h
      rw [Vw] at w
      have w' := w
      rw [Rp] at w'
      obtain ⟨a, C, dx, vs, rfl, ha, hdx, ic, hl, r⟩ := w'
      rw [hy.1] at ic
      exact ⟨a, C, dx, _, rfl, ha, ic, lookup_none hy.2, w⟩
    · cases h
  · cases h
section
variable {X : Cx} {k n : Nat} {x m : Str} {mf : List D → Option D} {o e fe : Expr} {es : List Expr} {mo : EM O} {mA : EM (List O)} {apos pos : Pos} {pl : Sem Bool}
theorem qe_meth (G : MethOk X.prog X.w X.K X.mg X.base k x m n mf) (cl : ∀ C, PySem.W.nsIn X.K mainGlobals x = some (some (.ref C)) → Cls X.K C) (hr : Room k X.A) (ho : QV X o mo) (ha : QA X (e :: es) mA)
    (hst : starEach (e :: es) X.env = (false, eval e X.env) :: starEach es X.env := by rfl) (hpl : (backTo pos (starEach es X.env)).any (·.1) = false := by rfl)
    (ht : eval (.Call (.Attribute o m apos) (e :: es) [] pos) X.env = (do
      let ov ← eval o X.env
      standAt apos.atName
      let (f, first) ← holding [ov] (getMethod ov m pl)
      callWith pos f first (backTo pos (starEach (e :: es) X.env)) (backToKw pos (keywordEach [] X.env))) := by rfl) :
    QE X (.Call (.Attribute o m apos) (e :: es) [] pos) (mMeth x m mf mo mA) := by
  obtain ⟨C, f, fd, ps, hC, F, hm, hfi, hb⟩ := G.ex
  obtain ⟨t, h1, h2⟩ := ho
  obtain ⟨u, h3, h4⟩ := ha
  refine ⟨_, pe_meth h1 (cl C hC) hm F hr hb .nil pass0 h3 hst hpl ht, fun H0 B0 ln Γ B H σ env s o1 env' em Q q => ?_⟩
  obtain ⟨p, em1, em⟩ := bind_some em
  obtain ⟨d, em2, em⟩ := bind_some em
  obtain ⟨q1, em3, em⟩ := bind_some em
  obtain ⟨r, em4, em⟩ := bind_some em
  cases em
  refine h2 H0 B0 ln Γ B H σ env s _ _ em1 _ fun v B1 H1 e1 e2 s1 w1 => ?_
  obtain ⟨a, C', dx, fs, rfl, hB, ic, hl, rd⟩ := isIns_ok em2 w1
  have := hC.symm.trans ic.ns
  cases this
  refine ⟨a, dx, fs, rfl, s1.w.bh _ _ hB, hl, ?_⟩
  refine h4 H0 B0 ln Γ B1 H1 σ _ s1 _ _ em3 _ fun vs B2 H2 e3 e4 hlen s2 => ?_
  obtain ⟨B3, e5, rs, s3⟩ := Stt.frzs hlen s2
  rw [List.append_nil]
  refine ⟨B3, d :: O.frzs q1.1, r, s3.w.bh, Rps.cons (Rp.mono (e3.trans e5) _ _ rd) rs, G.len _ _ em4, em4, fun v' B' H' w r' => ?_⟩
  exact q v' B' H' ((e1.trans e3).trans (e5.trans w.b0)) ((e2.trans e4).trans w.h0) ((s3.step w).push r')
theorem qe_callI (G : MethOk X.prog X.w X.K X.mg X.base k x "__call__" n mf) (hr : Room k X.A) (ho : QV X fe mo) (ha : QA X (e :: es) mA)
    (ht : eval (.Call fe (e :: es) [] pos) X.env = (do callWith pos (← eval fe X.env) [] (backTo pos (starEach (e :: es) X.env)) (backToKw pos (keywordEach [] X.env))) := by rfl)
    (he : starEach (e :: es) X.env = (false, eval e X.env) :: starEach es X.env := by rfl) (hpl : (backTo pos (starEach es X.env)).any (·.1) = false := by rfl) :
    QE X (.Call fe (e :: es) [] pos) (mMeth x "__call__" mf mo mA) := by
  obtain ⟨C, f, fd, ps, hC, F, hm, hfi, hb⟩ := G.ex
  obtain ⟨t, h1, h2⟩ := ho
  obtain ⟨u, h3, h4⟩ := ha
  refine ⟨_, StX.pe_callO h1 ⟨hm.at_, hm.fn, hfi⟩ (F.raw hb .nil) hr pass0 h3 ht he hpl, fun H0 B0 ln Γ B H σ env s o1 env' em Q q => ?_⟩
  obtain ⟨p, em1, em⟩ := bind_some em
  obtain ⟨d, em2, em⟩ := bind_some em
  obtain ⟨q1, em3, em⟩ := bind_some em
  obtain ⟨r, em4, em⟩ := bind_some em
  cases em
  refine h2 H0 B0 ln Γ B H σ env s _ _ em1 _ fun v B1 H1 e1 e2 s1 w1 => ?_
  obtain ⟨a, C', dx, fs, rfl, hB, ic, hl, rd⟩ := isIns_ok em2 w1
  have := hC.symm.trans ic.ns
  cases this
  refine ⟨a, rfl, ?_⟩
  refine h4 H0 B0 ln Γ B1 H1 σ _ s1 _ _ em3 _ fun vs B2 H2 e3 e4 hlen s2 => ?_
  obtain ⟨B3, e5, rs, s3⟩ := Stt.frzs hlen s2
  refine ⟨.inr ⟨dx, fs, e4 _ _ (s1.w.bh _ _ hB)⟩, ?_⟩
  show spM X.K n mf ((V.ref a :: vs) ++ []) H2 Q _
  rw [List.append_nil]
  refine ⟨B3, d :: O.frzs q1.1, r, s3.w.bh, Rps.cons (Rp.mono (e3.trans e5) _ _ rd) rs, G.len _ _ em4, em4, fun v' B' H' w r' => ?_⟩
  exact q v' B' H' ((e1.trans e3).trans (e5.trans w.b0)) ((e2.trans e4).trans w.h0) ((s3.step w).push r')
end
/-- a method by its body -/
theorem meth_ok {P : Program} {w : World} {K : PySem.W.Frag} {mg : Str → Option Value} {base : Heap} {x y qual : Str} {st : Stmt} {C f : Addr} {fd : FuncData} {N ps : List Str} {k : Nat} {m : SM} (F : Fun K y qual st f fd) (S : FnScope N ps (defScope st)) (hC : PySem.W.nsIn K mainGlobals x = some (some (.ref C))) (hm : Meth K C y f) (hfi : PySem.W.fnIn K f = true) (hb : Binds K fd ps [])
    (hbody : ∀ (cdv : Value) (A : Around) (outer : List Env) (s : Shared) (H : Hp) (E : XK), Room k (A.deeper (envOfC qual (defScope st) s.heap.objs.size f cdv)) → QSs (cxOf CX0 P w K mg base N qual (defScope st) f cdv A outer s H E).nox (defBody st) m) :
    MethOk P w K mg base (k + 1) x y ps.length (runD ps.length N.length m) := ⟨runD_len, C, f, fd, ps, hC, fn_okM F S hbody, hm, hfi, hb⟩
/-! ### __init__: a body whose last statement stores the one attribute -/
def SIn (K : PySem.W.Frag) (f : Str) (t : TS) (m : Addr → En → Option D) : Prop :=
  ∀ (H0 B0 : Hp) (ln : Nat → Option V) (Γ : List (O × V)) (B H : Hp) (σ : L2.St) (env : En) (a C dx : Addr), Stt K H0 B0 ln Γ B H σ env → H0 a = some (.ins C dx []) → Cls K C → NoAttr K C f → ∀ d, m a env = some d → ∀ E : Ends,
    (∀ v B' H' σ', Ex B B' → Wd H0 B0 B' H' → Rp K B' d v → E.nx σ' (upd H' a (.ins C dx [(f, v)]))) → t E σ H
def QSIn (X : Cx) (sts : List Stmt) (f : Str) (m : Addr → En → Option D) : Prop := ∃ t, PSs X sts t ∧ SIn X.K f t m
def iSeq (a : SM) (b : Addr → En → Option D) : Addr → En → Option D := fun p env => (a env).bind fun out => match out with
  | .nx e => b p e
  | _ => none
def iStore (m : EM O) : Addr → En → Option D := fun p env => match env[0]? with
  | some (Sl.adr q) => if q = p then (m env).bind fun r => match r.2[0]? with
    | some (Sl.adr q') => if q' = p then some r.1.frz else none
    | _ => none
    else none
  | _ => none
section
variable {X : Cx} {st : Stmt} {rest : List Stmt} {f y : Str} {a : SM} {b : Addr → En → Option D} {m : EM O} {e : Expr} {p1 p2 p3 : Pos}
theorem qsin_cons (h1 : QS X st a) (h2 : QSIn X rest f b) : QSIn X (st :: rest) f (iSeq a b) := by
  obtain ⟨t, t1, t2⟩ := h1
  obtain ⟨u, u1, u2⟩ := h2
  refine ⟨_, pss_cons t1 u1, fun H0 B0 ln Γ B H σ env p C dx s hp c na d em E q => ?_⟩
  obtain ⟨o, em1, em⟩ := bind_some em
  refine t2 H0 B0 ln Γ B H σ env s _ em1 { E with nx := u E } ?_
  cases o with
  | nx e1 => exact fun B' H' σ' e' s' => u2 H0 B0 ln Γ B' H' σ' e1 p C dx s' hp c na d em E fun v B2 H2 σ2 e2 w2 r2 => q v B2 H2 σ2 (e'.trans e2) w2 r2
  | rt d => cases em
  | bk e1 => cases em
  | ct e1 => cases em
theorem qsin_store (he : QE X e m) (hN : X.N[0]? = some y) (hv : L2.Vis X.env.scope y) (hs : swapsWith e (some (.Attribute (.Name y p1) f p2)) p3.line X.env = pure false := by rfl)
    (hd : (y == ("__debug__" : Str)) = false := by decide) (hcd : (y == ("__classdict__" : Str)) = false := by decide) : QSIn X [.Assign [.Attribute (.Name y p1) f p2] e p3] f (iStore m) := by
  obtain ⟨t, h1, h2⟩ := he
  refine ⟨_, pss_one (ps_fld (pe_var hN hv hd hcd) h1 hs), fun H0 B0 ln Γ B H σ env p C dx s hp c na d em E q => ?_⟩
  unfold iStore at em
  split at em
  · split at em
    · obtain ⟨r, em1, em⟩ := bind_some em
      split at em
      · split at em
        · rename_i q0 hq0 hq1 q2 hq2 hq3
          subst hq3
          cases em
          refine h2 H0 B0 ln Γ B H σ env s _ _ em1 _ fun v B1 H1 e1 e2 s1 => ?_
          obtain ⟨B2, e3, s2⟩ := s1.frz
          have hσ := s2.pop.sg.adr 0 _ hq2
          refine ⟨.ref q2, hσ, q2, C, dx, [], rfl, s2.w.h0 _ _ hp, c, na, by decide, ?_⟩
          exact q v B2 H1 σ (e1.trans e3) s2.pop.w s2.rp
        · cases em
      · cases em
    · cases em
  · cases em
end
def startI (N : Nat) (a : Addr) (ds : List D) : En := .adr a :: (ds.map (fun d => Sl.has (.fz d)) ++ List.replicate (N - 1 - ds.length) Sl.un)
def runI (n N : Nat) (m : Addr → En → Option D) (ds : List D) (d : D) : Prop := ds.length = n ∧ ∀ a, m a (startI N a ds) = some d
open Classical in
noncomputable def valI (x f : Str) (n N : Nat) (m : Addr → En → Option D) (ds : List D) : Option D := if h : ∃ d, runI n N m ds d then some (.ins x [f] [Classical.choose h]) else none
open Classical in
theorem valI_some {x f : Str} {n N : Nat} {m : Addr → En → Option D} {ds : List D} {r : D} (h : valI x f n N m ds = some r) : ∃ d, r = .ins x [f] [d] ∧ runI n N m ds d := by
  unfold valI at h
  split at h
  · rename_i hx
    cases h
    exact ⟨_, rfl, Classical.choose_spec hx⟩
  · cases h
open Classical in
theorem valI_of {x f : Str} {n N : Nat} {m : Addr → En → Option D} {ds : List D} {d : D} (h : runI n N m ds d) : valI x f n N m ds = some (.ins x [f] [d]) := by
  have hx : ∃ d, runI n N m ds d := ⟨d, h⟩
  unfold valI
  rw [dif_pos hx]
  have h2 := (Classical.choose_spec hx).2 0
  rw [h.2 0] at h2
  cases h2
  rfl
/-- the promise of __init__ -/
def spI (K : PySem.W.Frag) (C : Addr) (x f : Str) (mf : List D → Option D) : Sp := fun vs H Q _ => ∃ (a dx : Addr) (us : List V) (B : Hp) (ds : List D) (d : D), vs = .ref a :: us ∧ H a = some (.ins C dx []) ∧ Ex B H ∧ Rps K B ds us ∧ mf ds = some (.ins x [f] [d]) ∧
  ∀ v B' H', Wd H B B' H' → Rp K B' d v → Q .non (upd H' a (.ins C dx [(f, v)]))
structure InitOk (P : Program) (w : World) (K : PySem.W.Frag) (mg : Str → Option Value) (base : Heap) (k : Nat) (x f : Str) (n : Nat) (mf : List D → Option D) : Prop where
  one : ∀ ds r, mf ds = some r → ∃ d, r = .ins x [f] [d]
  ex : ∃ (C g : Addr) (fd : FuncData) (ps : List Str), InsC K x C ∧ mg x = some (.ref C) ∧ Mk K C g ∧ FnOk P w K mg base CX0 k g fd ps (spI K C x f mf) ∧ Binds K fd ps []
theorem init_ok {P : Program} {w : World} {K : PySem.W.Frag} {mg : Str → Option Value} {base : Heap} {x f self qual : Str} {st : Stmt} {C g : Addr} {fd : FuncData} {N ps : List Str} {k : Nat} {m : Addr → En → Option D} (F : Fun K "__init__" qual st g fd) (S : FnScope N (self :: ps) (defScope st)) (ic : InsC K x C) (hx : mg x = some (.ref C)) (na : NoAttr K C f) (mk : Mk K C g) (hb : Binds K fd (self :: ps) [])
    (hbody : ∀ (cdv : Value) (A : Around) (outer : List Env) (s : Shared) (H : Hp) (E : XK), Room k (A.deeper (envOfC qual (defScope st) s.heap.objs.size g cdv)) → QSIn (cxOf CX0 P w K mg base N qual (defScope st) g cdv A outer s H E).nox (defBody st) f m) :
    InitOk P w K mg base (k + 1) x f ps.length (valI x f ps.length N.length m) := by
  refine ⟨fun ds r h => by obtain ⟨d, e, _⟩ := valI_some h; exact ⟨d, e⟩, C, g, fd, self :: ps, ic, hx, mk, ?_, hb⟩
  refine F.ok S (fun vs H Q E h => ?_) (fun cdv A outer s H vs Q E hr h => ?_)
  · obtain ⟨a, dx, us, B, ds, d, rfl, _, _, r, hv, _⟩ := h
    obtain ⟨d', _, hn, _⟩ := valI_some hv
    rw [List.length_cons, ← r.len, hn]; rfl
  · obtain ⟨a, dx, us, B, ds, d, rfl, ha, e, r, hv, q⟩ := h
    obtain ⟨d', he, hn, hrun⟩ := valI_some hv
    cases he
    obtain ⟨t, h1, h2⟩ := hbody cdv A outer s H E hr
    refine ⟨t, h1, ?_⟩
    have st0 : Stt K H B (fun _ => none) [] B H (L2.start N (.ref a :: us)) (startI N.length a ds) := by
      have hN : ds.length + 1 ≤ N.length := by
        have h3 := congrArg List.length S.pre
        rw [List.length_take, List.length_cons] at h3
        omega
      have g0 := sg_start (ln := fun _ => none) (ds := ds) (vs := us) (N.length - 1 - ds.length) r.len
      have eσ : L2.start N (.ref a :: us) = some (.ref a) :: (us.map some ++ List.replicate (N.length - 1 - ds.length) none) := by
        unfold L2.start
        rw [List.map_cons, List.cons_append, List.length_cons, r.len]
        congr 3
        omega
      rw [eσ]
      unfold startI
      refine ⟨Wd.refl e, ⟨?_, fun i o h => ?_, fun i h => ?_, fun i b h => ?_⟩, ?_⟩
      · rw [List.length_cons, List.length_cons, g0.len]
      · cases i with
        | zero => cases h
        | succ i => exact g0.has i o h
      · cases i with
        | zero => cases h
        | succ i => exact g0.lent i h
      · cases i with
        | zero => cases h; rfl
        | succ i => exact g0.adr i b h
      · rw [List.append_nil]
        exact roots_start _ r
    refine h2 H B (fun _ => none) [] B H _ _ a C dx st0 ha ic.cl na d (hrun a) _ fun v B' H' σ' e2 w' r' => q v B' H' w' r'
def mMake (mf : List D → Option D) (mA : EM (List O)) : EM O := mCall mf mA
theorem qe_make {X : Cx} {k n : Nat} {x f : Str} {mf : List D → Option D} {e : Expr} {es : List Expr} {mA : EM (List O)} {p pos : Pos} (G : InitOk X.prog X.w X.K X.mg X.base k x f n mf) (hr : Room (k + 1) X.A) (ha : QA X (e :: es) mA) (hg : Gl X x := by rfl) (hdb : (x == ("__debug__" : Str)) = false := by decide)
    (he : starEach (e :: es) X.env = (false, eval e X.env) :: starEach es X.env := by rfl) (hpl : (backTo pos (starEach es X.env)).any (·.1) = false := by rfl) : QE X (.Call (.Name x p) (e :: es) [] pos) (mCall mf mA) := by
  obtain ⟨C, g, fd, ps, ic, hx, mk, F, hb⟩ := G.ex
  obtain ⟨t, h1, h2⟩ := ha
  refine ⟨_, pe_make mk F hr hg hx hb .nil pass0 h1 hdb he hpl, fun H0 B0 ln Γ B H σ env s o env' em Q q => ?_⟩
  obtain ⟨p, em1, em⟩ := bind_some em
  obtain ⟨d, em2, em⟩ := bind_some em
  cases em
  obtain ⟨d1, rfl⟩ := G.one _ _ em2
  refine h2 H0 B0 ln Γ B H σ env s _ _ em1 _ fun vs B1 H1 e1 e2 hl s1 => ?_
  obtain ⟨B2, e3, r, s2⟩ := Stt.frzs hl s1
  intro a dx ha hdx hne
  rw [List.append_nil]
  have hBa : B2 a = none := s2.w.bh.none ha
  have hBd : B2 dx = none := s2.w.bh.none hdx
  have hH : ∀ b u, H1 b = some u → (upd (upd H1 dx (.own a)) a (.ins C dx [])) b = some u := fun b u h => by
    have n1 : b ≠ a := fun z => by rw [z, ha] at h; cases h
    have n2 : b ≠ dx := fun z => by rw [z, hdx] at h; cases h
    rw [upd_ne n1, upd_ne n2]; exact h
  have hHa : (upd (upd H1 dx (.own a)) a (.ins C dx [])) a = some (.ins C dx []) := upd_same
  have hHd : (upd (upd H1 dx (.own a)) a (.ins C dx [])) dx = some (.own a) := by rw [upd_ne hne, upd_same]
  refine ⟨a, dx, vs, B2, O.frzs p.1, d1, rfl, hHa, fun b u h => hH b u (s2.w.bh _ _ h), r, em2, fun v B' H' w r' => ⟨rfl, ?_⟩⟩
  have hB'a : B' a = none := w.nw a hBa (by rw [hHa]; simp)
  have hB'd : B' dx = none := w.nw dx hBd (by rw [hHd]; simp)
  have x1 : Ex B' (upd (upd B' dx (.own a)) a (.ins C dx [(f, v)])) := fun b u h => by
    have n1 : b ≠ a := fun z => by rw [z, hB'a] at h; cases h
    have n2 : b ≠ dx := fun z => by rw [z, hB'd] at h; cases h
    rw [upd_ne n1, upd_ne n2]; exact h
  have w2 : Wd H1 B2 (upd (upd B' dx (.own a)) a (.ins C dx [(f, v)])) (upd H' a (.ins C dx [(f, v)])) := by
    refine ⟨w.b0.trans x1, fun b u h => ?_, fun b u h => ?_, fun b h3 h4 => ?_⟩
    · by_cases n1 : b = a
      · subst n1; rw [upd_same] at h ⊢; exact h
      · rw [upd_ne n1] at h ⊢
        by_cases n2 : b = dx
        · subst n2
          rw [upd_same] at h
          cases h
          exact w.h0 _ _ hHd
        · rw [upd_ne n2] at h
          exact w.bh _ _ h
    · have n1 : b ≠ a := fun z => by rw [z, ha] at h; cases h
      rw [upd_ne n1]
      exact w.h0 _ _ (hH b u h)
    · have n1 : b ≠ a := fun z => h4 (by rw [z]; exact ha)
      have n2 : b ≠ dx := fun z => h4 (by rw [z]; exact hdx)
      rw [upd_ne n1, upd_ne n2]
      refine w.nw b h3 fun z => h4 ?_
      rw [upd_ne n1, upd_ne n2] at z
      exact z
  refine q (.ref a) _ _ ((e1.trans e3).trans w2.b0) (e2.trans w2.h0) ((s2.step w2).push ?_)
  rw [Rp]
  refine ⟨a, C, dx, [v], rfl, ?_, ?_, ic, rfl, Rps.one (Rp.mono x1 _ _ r')⟩
  · rw [upd_same]; rfl
  · rw [upd_ne hne, upd_same]
@[simp] theorem e_oFld {x f : Str} {ns : List Str} {ds : List D} {y : Str} : oFld x f (.fz (.ins y ns ds)) = if y = x then (lookF ns ds f).map .fz else none := rfl
@[simp] theorem e_isIns {x m : Str} {ns : List Str} {ds : List D} {y : Str} : isIns x m (.fz (.ins y ns ds)) = if y = x ∧ m ∉ ns then some (.ins y ns ds) else none := rfl
@[simp] theorem e_mMeth {x m : Str} {mf : List D → Option D} {mo : EM O} {mA : EM (List O)} {env : En} : mMeth x m mf mo mA env = (mo env).bind fun p => (isIns x m p.1).bind fun d => (mA p.2).bind fun q => (mf (d :: O.frzs q.1)).bind fun r => some (.fz r, q.2) := rfl
@[simp] theorem e_iSeq {a : SM} {b : Addr → En → Option D} {p : Addr} {env : En} : iSeq a b p env = (a env).bind fun out => match out with
  | .nx e => b p e
  | _ => none := rfl
end Q

set_option Elab.async false
set_option linter.all false
set_option maxRecDepth 100000
set_option maxHeartbeats 1000000
namespace Q
open PySem L2 PyProof.Rows
/-- a statement of a class's body -/
def clsAt : Stmt → Nat → Stmt
  | .ClassDef (body := b) .., j => b.getD j (.Pass ⟨0, 0, 0, 0⟩)
  | _, _ => .Pass ⟨0, 0, 0, 0⟩
theorem insC_mk {K : PySem.W.Frag} {x : Str} {C : Addr} (ns : PySem.W.nsIn K mainGlobals x = some (some (.ref C))) (pg : PySem.W.plainGet K C Str.empty = true) (hd : PySem.W.hasDictIn K C = true) (po : PySem.W.plainOver K C = true) (sa : PySem.W.findIn K (.ref C) "__setattr__" = some (some (.builtin "object.__setattr__")))
    (ha : PySem.W.findIn K (.ref C) "__class__" = some (some (.builtin "object.__class__"))) (hn : PySem.W.specialIn K (.builtin "object.__class__") "__get__" = some (some (.builtin "getset_descriptor.__get__"))) (htk : PySem.W.takesIn K (.builtin "object.__class__") = some true) (hm : PySem.W.mroIn K C (.type "object") = some true)
    (t1 : PySem.W.kitOne K (.ref C) (.type "int") = some false) (t2 : PySem.W.kitOne K (.ref C) (.type "bool") = some false) (t3 : PySem.W.kitOne K (.ref C) (.type "str") = some false) (t4 : PySem.W.kitOne K (.ref C) (.type "tuple") = some false) (t5 : PySem.W.kitOne K (.ref C) (.type "list") = some false) (t6 : PySem.W.kitOne K (.ref C) (.type "dict") = some false) : InsC K x C :=
  ⟨ns, ⟨pg, hd, po, sa⟩, ha, hn, htk, hm, fun t ht => by
    simp only [List.mem_cons, List.not_mem_nil, or_false] at ht
    rcases ht with rfl | rfl | rfl | rfl | rfl | rfl
    · exact t1
    · exact t2
    · exact t3
    · exact t4
    · exact t5
    · exact t6⟩
theorem cls_of {K : PySem.W.Frag} {x : Str} {C : Addr} (i : InsC K x C) : ∀ C', PySem.W.nsIn K mainGlobals x = some (some (.ref C')) → Cls K C' := fun C' h => by
  have := h.symm.trans i.ns
  cases this
  exact i.cl
end Q

set_option Elab.async false
set_option linter.all false
set_option maxRecDepth 100000
set_option maxHeartbeats 1000000
namespace Q
open PySem L2
/-! ### a loop that returns what belongs to the first that is found -/
theorem for_find {T α : Type} {gs : D → En → Option En} {mb : SM} (E : T → En) (g : α → D) (bad : α → Bool) (z : α → D) :
    ∀ (xs : List α) (t : T), (∀ x ∈ xs, ∀ t, ∃ e1 t', gs (g x) (E t) = some e1 ∧ (bad x = true → mb e1 = some (.rt (z x))) ∧ (bad x = false → mb e1 = some (.nx (E t')))) →
      (∀ x, xs.find? bad = some x → forL gs mb (xs.map g) (E t) = some (.rt (z x))) ∧ (xs.find? bad = none → ∃ t', forL gs mb (xs.map g) (E t) = some (.nx (E t')))
  | [], t, _ => ⟨fun x h => by simp at h, fun _ => ⟨t, rfl⟩⟩
  | x :: xs, t, h => by
    obtain ⟨e1, t', h1, h2, h3⟩ := h x (by simp) t
    have ih := for_find E g bad z xs t' fun y hy => h y (by simp [hy])
    rw [List.map_cons, List.find?_cons]
    cases hb : bad x
    · have e : forL gs mb (g x :: xs.map g) (E t) = forL gs mb (xs.map g) (E t') := by
        rw [forL, h1, Option.bind_some, h3 hb]; rfl
      rw [e]
      exact ih
    · refine ⟨fun y hy => ?_, fun h => by simp at h⟩
      cases hy
      rw [forL, h1, Option.bind_some, h2 hb]; rfl
/-! ### curves: knots -/
def encK (p : Rat × Rat) : D := .tup [encQ p.1, encQ p.2]
def kAt (ks : List (Rat × Rat)) (k : Nat) : Rat × Rat := (ks[k]?).getD (0, 0)
theorem at_k {ks : List (Rat × Rat)} {k : Nat} (h : k < ks.length) : atI (ks.map encK) (k : Int) = some (encK (kAt ks k)) := by
  rw [atI_nat' (by simpa using h), List.getElem?_map]
  unfold kAt
  rw [List.getElem?_eq_getElem h]; rfl
theorem kAt_mem {ks : List (Rat × Rat)} {k : Nat} (h : k < ks.length) : kAt ks k ∈ ks := by
  unfold kAt
  rw [List.getElem?_eq_getElem h]
  exact List.getElem_mem h
theorem kAt_range {n : Nat} {f : Nat → Rat × Rat} {k : Nat} (h : k < n) : kAt ((List.range n).map f) k = f k := by
  unfold kAt
  rw [List.getElem?_map, List.getElem?_range h]; rfl
/-- the slope behind knot k -/
def sl (ks : List (Rat × Rat)) (k : Nat) : Rat := ((kAt ks (k + 1)).2 - (kAt ks k).2) / ((kAt ks (k + 1)).1 - (kAt ks k).1)
structure KOk (ks : List (Rat × Rat)) : Prop where
  ne : ks ≠ []
  asc : ∀ k, k + 1 < ks.length → (kAt ks k).1 < (kAt ks (k + 1)).1
  pos : 1 < ks.length → 0 < sl ks 0
  up : ∀ k, k + 2 < ks.length → sl ks k < sl ks (k + 1)
  one : ∀ k, k + 1 < ks.length → sl ks k < 1
  last : (kAt ks (ks.length - 1)).1 = (kAt ks (ks.length - 1)).2
theorem KOk.len {ks : List (Rat × Rat)} (h : KOk ks) : 0 < ks.length := List.length_pos_iff.mpr h.ne
theorem KOk.ne0 {ks : List (Rat × Rat)} (h : KOk ks) {k : Nat} (hk : k + 1 < ks.length) : (kAt ks (k + 1)).1 - (kAt ks k).1 ≠ 0 := by
  have := h.asc k hk
  grind
def KSz (c : Nat) (ks : List (Rat × Rat)) : Prop := ∀ p ∈ ks, sz p.1 ≤ c ∧ sz p.2 ≤ c
/-- the piece in which the amount lies: the first knot behind the first that is not below it -/
def segLe (ks : List (Rat × Rat)) (a : Rat) : Option Nat := (List.range (ks.length - 1)).find? fun i => decide (a ≤ (kAt ks (i + 1)).1)
def segLt (ks : List (Rat × Rat)) (a : Rat) : Option Nat := (List.range (ks.length - 1)).find? fun i => decide (a < (kAt ks (i + 1)).1)
def pieceV (ks : List (Rat × Rat)) (a : Rat) (i : Nat) : Rat := (kAt ks i).2 + sl ks i * (a - (kAt ks i).1)
def valK (ks : List (Rat × Rat)) (a : Rat) : Rat := if a ≤ (kAt ks 0).1 then (kAt ks 0).2 else match segLe ks a with
  | some i => pieceV ks a i
  | none => a
def slopeK (ks : List (Rat × Rat)) (a : Rat) : Rat := if a < (kAt ks 0).1 then 0 else match segLt ks a with
  | some i => sl ks i
  | none => 1
theorem seg_lt {n : Nat} {p : Nat → Bool} {i : Nat} (h : (List.range n).find? p = some i) : i < n ∧ p i = true :=
  ⟨List.mem_range.mp (List.mem_of_find?_eq_some h), List.find?_some h⟩
theorem range1_map {n : Nat} : rangeD 1 n = (List.range n).map fun (i : Nat) => D.int ((i : Int) + 1) := by
  rw [rangeD_map]
  exact List.map_congr_left fun i _ => by rw [Int.add_comm]
theorem pieceV_alt (ks : List (Rat × Rat)) (a : Rat) (i : Nat) : pieceV ks a i = (kAt ks i).2 + ((kAt ks (i + 1)).2 - (kAt ks i).2) * (a - (kAt ks i).1) / ((kAt ks (i + 1)).1 - (kAt ks i).1) := by
  unfold pieceV sl
  rw [Rat.div_def, Rat.div_def]
  grind
end Q

set_option Elab.async false
set_option linter.all false
set_option maxRecDepth 100000
set_option maxHeartbeats 1000000
namespace Q
open PySem L2 PyProof.Rows
/-! ### properties -/
structure PropMOk (P : Program) (w : World) (K : PySem.W.Frag) (mg : Str → Option Value) (base : Heap) (k : Nat) (x m : Str) (mf : List D → Option D) : Prop where
  len : ∀ ds d, mf ds = some d → ds.length = 1
  ex : ∃ (C p g : Addr) (fd : FuncData) (ps : List Str), PySem.W.nsIn K mainGlobals x = some (some (.ref C)) ∧ Cls K C ∧ PropOf K C m p g ∧ FnOk P w K mg base CX0 k g fd ps (spM K 1 mf) ∧ Binds K fd ps []
def isI (x : Str) : O → Option D
  | .fz (.ins y ns ds) => if y = x then some (.ins y ns ds) else none
  | _ => none
def mProp (x : Str) (mf : List D → Option D) (m : EM O) : EM O := fun env => (m env).bind fun p => (isI x p.1).bind fun d => (mf [d]).bind fun r => some (.fz r, p.2)
theorem qe_prop {X : Cx} {k : Nat} {x f : Str} {mf : List D → Option D} {e : Expr} {m : EM O} {pos : Pos} (G : PropMOk X.prog X.w X.K X.mg X.base k x f mf) (hr : Room (k + 1) X.A) (he : QV X e m) (hb : attributeBase e f X.env (eval e X.env) = eval e X.env := by rfl) : QE X (.Attribute e f pos) (mProp x mf m) := by
  obtain ⟨C, p, g, fd, ps, hC, cl, hp, F, hbi⟩ := G.ex
  obtain ⟨t, h1, h2⟩ := he
  refine ⟨_, pe_prop h1 cl hp F hr hbi .nil pass0 hb, fun H0 B0 ln Γ B H σ env s o env' em Q q => ?_⟩
  obtain ⟨p1, em1, em⟩ := bind_some em
  obtain ⟨d, em2, em⟩ := bind_some em
  obtain ⟨r, em3, em⟩ := bind_some em
  cases em
  refine h2 H0 B0 ln Γ B H σ env s _ _ em1 _ fun v B1 H1 e1 e2 s1 w1 => ?_
  unfold isI at em2
  split at em2
  · rename_i y ns ds hp1
    split at em2
    · rename_i hy
      subst hy
      cases em2
      rw [hp1, Vw] at w1
      have w2 := w1
      rw [Rp] at w2
      obtain ⟨a, C', dx, vs, rfl, ha, hdx, ic, hl, rr⟩ := w2
      have := hC.symm.trans ic.ns
      cases this
      refine ⟨a, dx, _, rfl, s1.w.bh _ _ ha, B1, [.ins y ns ds], r, s1.w.bh, Rps.one w1, rfl, em3, fun v' B' H' w r' => ?_⟩
      exact q v' B' H' (e1.trans w.b0) (e2.trans w.h0) ((s1.step w).push r')
    · cases em2
  · cases em2
theorem prop_ok {P : Program} {w : World} {K : PySem.W.Frag} {mg : Str → Option Value} {base : Heap} {x y qual self : Str} {st : Stmt} {C p f : Addr} {fd : FuncData} {N : List Str} {k : Nat} {m : SM} (F : Fun K y qual st f fd) (S : FnScope N [self] (defScope st)) (hC : PySem.W.nsIn K mainGlobals x = some (some (.ref C))) (cl : Cls K C) (hp : PropOf K C y p f) (hb : Binds K fd [self] [])
    (hbody : ∀ (cdv : Value) (A : Around) (outer : List Env) (s : Shared) (H : Hp) (E : XK), Room k (A.deeper (envOfC qual (defScope st) s.heap.objs.size f cdv)) → QSs (cxOf CX0 P w K mg base N qual (defScope st) f cdv A outer s H E).nox (defBody st) m) :
    PropMOk P w K mg base (k + 1) x y (runD 1 N.length m) := ⟨runD_len, C, p, f, fd, [self], hC, cl, hp, fn_okM F S hbody, hb⟩
@[simp] theorem e_mProp {x : Str} {mf : List D → Option D} {m : EM O} {env : En} : mProp x mf m env = (m env).bind fun p => (isI x p.1).bind fun d => (mf [d]).bind fun r => some (.fz r, p.2) := rfl
@[simp] theorem e_isI {x y : Str} {ns : List Str} {ds : List D} : isI x (.fz (.ins y ns ds)) = if y = x then some (.ins y ns ds) else none := rfl
end Q

set_option Elab.async false
set_option linter.all false
set_option maxRecDepth 100000
set_option maxHeartbeats 1000000
namespace Q
open PySem L2
/-! ### curves are convex: the lines of their pieces -/
def mL' (ks : List (Rat × Rat)) (j : Nat) : Rat := if j = 0 then 0 else if j < ks.length then sl ks (j - 1) else 1
def lineK (ks : List (Rat × Rat)) (j : Nat) (t : Rat) : Rat := (kAt ks (j - 1)).2 + mL' ks j * (t - (kAt ks (j - 1)).1)
section
variable {ks : List (Rat × Rat)} (o : KOk ks)
include o in
theorem sl_mul {k : Nat} (hk : k + 1 < ks.length) : sl ks k * ((kAt ks (k + 1)).1 - (kAt ks k).1) = (kAt ks (k + 1)).2 - (kAt ks k).2 := by
  unfold sl
  rw [Rat.div_mul_cancel (o.ne0 hk)]
include o in
theorem line_at {j : Nat} (hj : j < ks.length) : lineK ks j (kAt ks j).1 = (kAt ks j).2 := by
  unfold lineK mL'
  by_cases h : j = 0
  · subst h
    rw [if_pos rfl]
    show (kAt ks 0).2 + 0 * ((kAt ks 0).1 - (kAt ks 0).1) = _
    grind
  · obtain ⟨i, rfl⟩ : ∃ i, j = i + 1 := ⟨j - 1, by omega⟩
    rw [if_neg h, if_pos hj, Nat.add_sub_cancel, sl_mul o hj]
    grind
include o in
theorem line_lin {j : Nat} (hj : j < ks.length) (t : Rat) : lineK ks j t = (kAt ks j).2 + mL' ks j * (t - (kAt ks j).1) := by
  have := line_at o hj
  unfold lineK at *
  rw [← this]
  grind
theorem line_move (j : Nat) (a b : Rat) : lineK ks j b = lineK ks j a + mL' ks j * (b - a) := by
  unfold lineK
  grind
include o in
theorem m_up {j : Nat} (hj : j < ks.length) : mL' ks j ≤ mL' ks (j + 1) := by
  unfold mL'
  rw [if_neg (Nat.succ_ne_zero j), Nat.add_sub_cancel]
  by_cases h : j = 0
  · subst h
    rw [if_pos rfl]
    split
    · rename_i h1
      have := o.pos (by omega)
      grind
    · decide
  · obtain ⟨i, rfl⟩ : ∃ i, j = i + 1 := ⟨j - 1, by omega⟩
    rw [if_neg h, if_pos hj, Nat.add_sub_cancel]
    split
    · rename_i h1
      have := o.up i h1
      grind
    · have := o.one i hj
      grind
include o in
theorem line_up {j : Nat} (hj : j < ks.length) {t : Rat} (h : (kAt ks j).1 ≤ t) : lineK ks j t ≤ lineK ks (j + 1) t := by
  rw [line_lin o hj]
  unfold lineK
  rw [Nat.add_sub_cancel]
  have h1 := m_up o hj
  have h2 : mL' ks j * (t - (kAt ks j).1) ≤ mL' ks (j + 1) * (t - (kAt ks j).1) := Rat.mul_le_mul_of_nonneg_right h1 (by grind)
  grind
include o in
theorem line_down {j : Nat} (hj : j < ks.length) {t : Rat} (h : t ≤ (kAt ks j).1) : lineK ks (j + 1) t ≤ lineK ks j t := by
  rw [line_lin o hj]
  unfold lineK
  rw [Nat.add_sub_cancel]
  have h1 := m_up o hj
  have h2 : mL' ks j * ((kAt ks j).1 - t) ≤ mL' ks (j + 1) * ((kAt ks j).1 - t) := Rat.mul_le_mul_of_nonneg_right h1 (by grind)
  grind
include o in
theorem k_mono {i j : Nat} (h : i ≤ j) (hj : j < ks.length) : (kAt ks i).1 ≤ (kAt ks j).1 := by
  induction j with
  | zero =>
    have : i = 0 := by omega
    subst this
    exact Rat.le_refl
  | succ j ih =>
    by_cases e : i = j + 1
    · subst e; exact Rat.le_refl
    · have h1 := ih (by omega) (by omega)
      have h2 := o.asc j hj
      grind
/-- the piece p holds the amount t -/
structure Pos (ks : List (Rat × Rat)) (p : Nat) (t : Rat) : Prop where
  le : p ≤ ks.length
  lo : p ≠ 0 → (kAt ks (p - 1)).1 ≤ t
  hi : p < ks.length → t ≤ (kAt ks p).1
include o in
theorem Pos.up {p : Nat} {t : Rat} (h : Pos ks p t) : ∀ d j : Nat, j + d = p → lineK ks j t ≤ lineK ks p t
  | 0, j, e => by
    have : j = p := by omega
    subst this
    exact Rat.le_refl
  | d + 1, j, e => by
    have h0 := h.le
    have h1 := Pos.up h d (j + 1) (by omega)
    have h2 := h.lo (by omega)
    have h3 := k_mono o (i := j) (j := p - 1) (by omega) (by omega)
    exact Rat.le_trans (line_up o (by omega) (Rat.le_trans h3 h2)) h1
include o in
theorem Pos.down {p : Nat} {t : Rat} (h : Pos ks p t) : ∀ d : Nat, p + d ≤ ks.length → lineK ks (p + d) t ≤ lineK ks p t
  | 0, _ => Rat.le_refl
  | d + 1, e => by
    have h1 := Pos.down h d (by omega)
    have h2 := h.hi (by omega)
    have h3 := k_mono o (i := p) (j := p + d) (by omega) (by omega)
    exact Rat.le_trans (line_down o (j := p + d) (by omega) (Rat.le_trans h2 h3)) h1
include o in
theorem Pos.max {p : Nat} {t : Rat} (h : Pos ks p t) {j : Nat} (hj : j ≤ ks.length) : lineK ks j t ≤ lineK ks p t := by
  by_cases c : j ≤ p
  · exact h.up o (p - j) j (by omega)
  · have := h.down o (j - p) (by omega)
    have e : p + (j - p) = j := by omega
    rwa [e] at this
theorem find_prev {n : Nat} {p : Nat → Bool} {i : Nat} (h : (List.range n).find? p = some i) : ∀ j, j < i → p j = false := fun j hj => by
  rw [List.find?_range_eq_some] at h
  simpa using h.2.2 j hj
include o in
theorem valK_line (t : Rat) : ∃ p, Pos ks p t ∧ valK ks t = lineK ks p t := by
  have hl := o.len
  unfold valK
  split
  · rename_i h
    refine ⟨0, ⟨by omega, fun z => absurd rfl z, fun _ => h⟩, ?_⟩
    unfold lineK mL'
    rw [if_pos rfl]
    show (kAt ks 0).2 = (kAt ks 0).2 + 0 * _
    grind
  · rename_i h0
    have hgt : (kAt ks 0).1 < t := by grind
    split
    · rename_i i hs
      obtain ⟨hi, hp⟩ := seg_lt hs
      have hp := of_decide_eq_true hp
      refine ⟨i + 1, ⟨by omega, fun _ => ?_, fun _ => hp⟩, ?_⟩
      · rw [Nat.add_sub_cancel]
        by_cases c : i = 0
        · subst c; grind
        · obtain ⟨k, rfl⟩ : ∃ k, i = k + 1 := ⟨i - 1, by omega⟩
          have := of_decide_eq_false (find_prev hs k (by omega))
          grind
      · unfold lineK mL' pieceV
        rw [if_neg (by omega), if_pos (by omega), Nat.add_sub_cancel]
    · rename_i hs
      refine ⟨ks.length, ⟨Nat.le_refl _, fun _ => ?_, fun z => by omega⟩, ?_⟩
      · by_cases c : ks.length = 1
        · rw [c]; show (kAt ks 0).1 ≤ t; grind
        · have := List.find?_eq_none.mp hs (ks.length - 2) (List.mem_range.mpr (by omega))
          have e : ks.length - 2 + 1 = ks.length - 1 := by omega
          rw [e] at this
          have := mt decide_eq_true this
          grind
      · unfold lineK mL'
        rw [if_neg (by omega), if_neg (by omega), ← o.last]
        grind
include o in
theorem slopeK_line (t : Rat) : ∃ p, Pos ks p t ∧ slopeK ks t = mL' ks p := by
  have hl := o.len
  unfold slopeK
  split
  · rename_i h
    exact ⟨0, ⟨by omega, fun z => absurd rfl z, fun _ => by grind⟩, by unfold mL'; rw [if_pos rfl]⟩
  · rename_i h0
    have hge : (kAt ks 0).1 ≤ t := by grind
    split
    · rename_i i hs
      obtain ⟨hi, hp⟩ := seg_lt hs
      have hp := of_decide_eq_true hp
      refine ⟨i + 1, ⟨by omega, fun _ => ?_, fun _ => by grind⟩, ?_⟩
      · rw [Nat.add_sub_cancel]
        by_cases c : i = 0
        · subst c; exact hge
        · obtain ⟨k, rfl⟩ : ∃ k, i = k + 1 := ⟨i - 1, by omega⟩
          have := of_decide_eq_false (find_prev hs k (by omega))
          grind
      · unfold mL'
        rw [if_neg (by omega), if_pos (by omega), Nat.add_sub_cancel]
    · rename_i hs
      refine ⟨ks.length, ⟨Nat.le_refl _, fun _ => ?_, fun z => by omega⟩, ?_⟩
      · by_cases c : ks.length = 1
        · rw [c]; exact hge
        · have := List.find?_eq_none.mp hs (ks.length - 2) (List.mem_range.mpr (by omega))
          have e : ks.length - 2 + 1 = ks.length - 1 := by omega
          rw [e] at this
          have := mt decide_eq_true this
          grind
      · unfold mL'
        rw [if_neg (by omega), if_neg (by omega)]
include o in
theorem valK_ge {j : Nat} (hj : j ≤ ks.length) (t : Rat) : lineK ks j t ≤ valK ks t := by
  obtain ⟨p, hp, e⟩ := valK_line o t
  rw [e]
  exact hp.max o hj
include o in
theorem subgrad (a b : Rat) : valK ks a + slopeK ks a * (b - a) ≤ valK ks b := by
  obtain ⟨p, hp, e⟩ := valK_line o a
  obtain ⟨q, hq, e2⟩ := slopeK_line o a
  have h1 : lineK ks p a ≤ lineK ks q a := hq.max o hp.le
  have h2 := valK_ge o hq.le b
  rw [line_move q a b] at h2
  rw [e, e2]
  grind
include o in
theorem valK_floor (t : Rat) : (kAt ks 0).2 ≤ valK ks t := by
  have := valK_ge o (j := 0) (by omega) t
  unfold lineK mL' at this
  rw [if_pos rfl] at this
  have e : (kAt ks (0 - 1)).2 + 0 * (t - (kAt ks (0 - 1)).1) = (kAt ks 0).2 := by
    show (kAt ks 0).2 + 0 * (t - (kAt ks 0).1) = _
    grind
  rwa [e] at this
include o in
theorem valK_self (t : Rat) : t ≤ valK ks t := by
  have hl := o.len
  have := valK_ge o (j := ks.length) (Nat.le_refl _) t
  unfold lineK mL' at this
  rw [if_neg (by omega), if_neg (by omega), ← o.last] at this
  grind
include o in
theorem m_bounds {j : Nat} (hj : j ≤ ks.length) : 0 ≤ mL' ks j ∧ mL' ks j ≤ 1 := by
  have hl := o.len
  constructor
  · induction j with
    | zero => unfold mL'; rw [if_pos rfl]; decide
    | succ j ih => exact Rat.le_trans (ih (by omega)) (m_up o (by omega))
  · have : ∀ d, d ≤ ks.length → mL' ks (ks.length - d) ≤ 1 := fun d => by
      induction d with
      | zero => intro _; unfold mL'; rw [Nat.sub_zero, if_neg (by omega), if_neg (by omega)]; exact Rat.le_refl
      | succ d ih =>
        intro hd
        have h1 := ih (by omega)
        have h2 := m_up o (j := ks.length - (d + 1)) (by omega)
        have e : ks.length - (d + 1) + 1 = ks.length - d := by omega
        rw [e] at h2
        exact Rat.le_trans h2 h1
    have := this (ks.length - j) (by omega)
    have e : ks.length - (ks.length - j) = j := by omega
    rwa [e] at this
include o in
theorem slopeK_bounds (t : Rat) : 0 ≤ slopeK ks t ∧ slopeK ks t ≤ 1 := by
  obtain ⟨q, hq, e2⟩ := slopeK_line o t
  rw [e2]
  exact m_bounds o hq.le
include o in
theorem slopeK_mono {a b : Rat} (h : a ≤ b) : slopeK ks a ≤ slopeK ks b := by
  by_cases e : a = b
  · rw [e]; exact Rat.le_refl
  · have h1 := subgrad o a b
    have h2 := subgrad o b a
    apply Classical.byContradiction
    intro hc
    have h3 : slopeK ks b < slopeK ks a := by grind
    have h4 : slopeK ks b * (b - a) < slopeK ks a * (b - a) := Rat.mul_lt_mul_of_pos_right h3 (by grind)
    have h5 : slopeK ks b * (a - b) = -(slopeK ks b * (b - a)) := by grind
    rw [h5] at h2
    generalize slopeK ks b * (b - a) = u at *
    generalize slopeK ks a * (b - a) = v at *
    grind
include o in
theorem valK_mono {a b : Rat} (h : a ≤ b) : valK ks a ≤ valK ks b ∧ valK ks b - valK ks a ≤ b - a ∧ slopeK ks a * (b - a) ≤ valK ks b - valK ks a := by
  have h1 := subgrad o a b
  have h2 := subgrad o b a
  obtain ⟨a1, a2⟩ := slopeK_bounds o a
  obtain ⟨b1, b2⟩ := slopeK_bounds o b
  have h3 : 0 ≤ slopeK ks a * (b - a) := Rat.mul_nonneg a1 (by grind)
  have h4 : slopeK ks b * (b - a) ≤ 1 * (b - a) := Rat.mul_le_mul_of_nonneg_right b2 (by grind)
  have h5 : slopeK ks b * (a - b) = -(slopeK ks b * (b - a)) := by grind
  rw [h5] at h2
  generalize slopeK ks b * (b - a) = u at *
  generalize slopeK ks a * (b - a) = v at *
  refine ⟨by grind, by grind, by grind⟩
include o in
theorem valK_chord {a b c : Rat} (h1 : a ≤ b) (h2 : b ≤ c) : (valK ks b - valK ks a) * (c - a) ≤ (valK ks c - valK ks a) * (b - a) := by
  have g1 := subgrad o b a
  have g2 := subgrad o b c
  have k1 : (valK ks b - valK ks a) * (c - b) ≤ slopeK ks b * (b - a) * (c - b) := by
    refine Rat.mul_le_mul_of_nonneg_right ?_ (by grind)
    have h5 : slopeK ks b * (a - b) = -(slopeK ks b * (b - a)) := by grind
    rw [h5] at g1
    generalize slopeK ks b * (b - a) = u at *
    grind
  have k2 : slopeK ks b * (c - b) * (b - a) ≤ (valK ks c - valK ks b) * (b - a) := by
    refine Rat.mul_le_mul_of_nonneg_right ?_ (by grind)
    generalize slopeK ks b * (c - b) = u at *
    grind
  have e1 : slopeK ks b * (b - a) * (c - b) = slopeK ks b * (c - b) * (b - a) := by grind
  have e2 : (valK ks b - valK ks a) * (c - a) = (valK ks b - valK ks a) * (c - b) + (valK ks b - valK ks a) * (b - a) := by grind
  have e3 : (valK ks c - valK ks a) * (b - a) = (valK ks c - valK ks b) * (b - a) + (valK ks b - valK ks a) * (b - a) := by grind
  rw [e2, e3]
  rw [e1] at k1
  have := Rat.le_trans k1 k2
  generalize (valK ks b - valK ks a) * (c - b) = p at *
  generalize (valK ks c - valK ks b) * (b - a) = q at *
  generalize (valK ks b - valK ks a) * (b - a) = r at *
  grind
end
end Q

set_option Elab.async false
set_option linter.all false
set_option maxRecDepth 100000
set_option maxHeartbeats 1000000
namespace Q
open PySem L2
/-! ### the greatest gap and the least amount that has it -/
structure LackB (g : Rat → Rat) (xs : List Rat) (s : Rat × Option Rat) : Prop where
  no : s.2 = none → s.1 = 0 ∧ ∀ a ∈ xs, g a ≤ 0
  yes : ∀ m, s.2 = some m → m ∈ xs ∧ s.1 = g m ∧ 0 < g m ∧ (∀ a ∈ xs, g a ≤ g m) ∧ ∀ a ∈ xs, g a = g m → m ≤ a
def stepL (g : Rat → Rat) (s : Rat × Option Rat) (a : Rat) : Rat × Option Rat :=
  if s.1 < g a then (g a, some a) else match s.2 with
    | some m => if s.1 = g a ∧ a < m then (s.1, some a) else s
    | none => s
def stepP (g : Rat → Rat) (s : Rat × Option Rat) (a : Rat) : Rat × Option Rat := if s.1 < g a then (g a, some a) else s
theorem lack_nil (g : Rat → Rat) : LackB g [] (0, none) := ⟨fun _ => ⟨rfl, fun a h => by simp at h⟩, fun m h => by cases h⟩
theorem LackB.step {g : Rat → Rat} {xs : List Rat} {s : Rat × Option Rat} (h : LackB g xs s) (a : Rat) : LackB g (xs ++ [a]) (stepL g s a) := by
  have mem : ∀ {P : Rat → Prop}, (∀ x ∈ xs, P x) → P a → ∀ x ∈ xs ++ [a], P x := fun h1 h2 x hx => by
    rcases List.mem_append.mp hx with hx | hx
    · exact h1 x hx
    · rw [List.mem_singleton.mp hx]; exact h2
  obtain ⟨l, w⟩ := s
  have hn : w = none → l = 0 ∧ ∀ a ∈ xs, g a ≤ 0 := h.no
  have hy : ∀ m, w = some m → m ∈ xs ∧ l = g m ∧ 0 < g m ∧ (∀ a ∈ xs, g a ≤ g m) ∧ ∀ a ∈ xs, g a = g m → m ≤ a := h.yes
  unfold stepL
  by_cases c : l < g a
  · rw [if_pos c]
    have h0 : 0 ≤ l ∧ ∀ x ∈ xs, g x ≤ l := by
      cases w with
      | none =>
        obtain ⟨e, q⟩ := hn rfl
        subst e
        exact ⟨Rat.le_refl, q⟩
      | some m =>
        obtain ⟨_, e, p, q, _⟩ := hy m rfl
        subst e
        exact ⟨by grind, q⟩
    refine ⟨(fun z => by cases z), fun m hm => ?_⟩
    cases hm
    refine ⟨by simp, rfl, by grind, mem (fun x hx => by have := h0.2 x hx; grind) Rat.le_refl, mem (fun x hx e => ?_) (fun _ => Rat.le_refl)⟩
    have := h0.2 x hx
    grind
  · rw [if_neg c]
    cases w with
    | none =>
      obtain ⟨e, q⟩ := hn rfl
      subst e
      exact ⟨fun _ => ⟨rfl, mem q (by grind)⟩, fun m hm => by cases hm⟩
    | some m =>
      obtain ⟨p1, e, p2, p3, p4⟩ := hy m rfl
      subst e
      show LackB g (xs ++ [a]) (if g m = g a ∧ a < m then (g m, some a) else (g m, some m))
      split
      · rename_i hc
        refine ⟨(fun z => by cases z), fun m' hm => ?_⟩
        cases hm
        rw [← hc.1]
        exact ⟨by simp, rfl, p2, mem p3 (by grind), mem (fun x hx e => by have := p4 x hx e; grind) (fun _ => Rat.le_refl)⟩
      · rename_i hc
        refine ⟨(fun z => by cases z), fun m' hm => ?_⟩
        cases hm
        exact ⟨by simp [p1], rfl, p2, mem p3 (by grind), mem p4 (fun e => by
          apply Classical.byContradiction
          intro hlt
          exact hc ⟨e.symm, by grind⟩)⟩
theorem LackB.uniq {g : Rat → Rat} {xs ys : List Rat} {s t : Rat × Option Rat} (h : LackB g xs s) (h' : LackB g ys t) (e : ∀ a, a ∈ xs ↔ a ∈ ys) : s = t := by
  obtain ⟨l, w⟩ := s
  obtain ⟨l', w'⟩ := t
  have hn : w = none → l = 0 ∧ ∀ a ∈ xs, g a ≤ 0 := h.no
  have hy : ∀ m, w = some m → m ∈ xs ∧ l = g m ∧ 0 < g m ∧ (∀ a ∈ xs, g a ≤ g m) ∧ ∀ a ∈ xs, g a = g m → m ≤ a := h.yes
  have hn' : w' = none → l' = 0 ∧ ∀ a ∈ ys, g a ≤ 0 := h'.no
  have hy' : ∀ m, w' = some m → m ∈ ys ∧ l' = g m ∧ 0 < g m ∧ (∀ a ∈ ys, g a ≤ g m) ∧ ∀ a ∈ ys, g a = g m → m ≤ a := h'.yes
  cases w with
  | none =>
    obtain ⟨rfl, q⟩ := hn rfl
    cases w' with
    | none => obtain ⟨rfl, _⟩ := hn' rfl; rfl
    | some m' =>
      obtain ⟨p1, _, p2, _⟩ := hy' m' rfl
      have := q m' ((e m').mpr p1)
      grind
  | some m =>
    obtain ⟨p1, rfl, p2, p3, p4⟩ := hy m rfl
    cases w' with
    | none =>
      obtain ⟨_, q⟩ := hn' rfl
      have := q m ((e m).mp p1)
      grind
    | some m' =>
      obtain ⟨q1, rfl, q2, q3, q4⟩ := hy' m' rfl
      have a1 := p3 m' ((e m').mpr q1)
      have a2 := q3 m ((e m).mp p1)
      have ee : g m = g m' := Rat.le_antisymm a2 a1
      have b1 := p4 m' ((e m').mpr q1) ee.symm
      have b2 := q4 m ((e m).mp p1) ee
      have : m = m' := Rat.le_antisymm b1 b2
      rw [this]
theorem stepP_eq {g : Rat → Rat} {xs : List Rat} {s : Rat × Option Rat} (h : LackB g xs s) {a : Rat} (ha : ∀ x ∈ xs, x < a) : stepP g s a = stepL g s a := by
  obtain ⟨l, w⟩ := s
  unfold stepP stepL
  split
  · rfl
  · cases w with
    | none => rfl
    | some m =>
      have hm := (h.yes m rfl).1
      have := ha m hm
      show (l, some m) = if l = g a ∧ a < m then (l, some a) else (l, some m)
      rw [if_neg fun z => by have := z.2; grind]
/-! merging two ascending rows of amounts -/
theorem k_lt {ks : List (Rat × Rat)} (o : KOk ks) {i j : Nat} (h : i < j) (hj : j < ks.length) : (kAt ks i).1 < (kAt ks j).1 := by
  have h1 := k_mono o (i := i) (j := j - 1) (by omega) (by omega)
  have h2 := o.asc (j - 1) (by omega)
  have e : j - 1 + 1 = j := by omega
  rw [e] at h2
  grind
structure Mg (ks qs : List (Rat × Rat)) (i j : Nat) (out : List Rat) : Prop where
  i1 : i ≤ ks.length
  j1 : j ≤ qs.length
  asc : out.Pairwise (· < ·)
  l1 : i < ks.length → ∀ a ∈ out, a < (kAt ks i).1
  l2 : j < qs.length → ∀ a ∈ out, a < (kAt qs j).1
  mem : ∀ a, a ∈ out ↔ (∃ k, k < i ∧ a = (kAt ks k).1) ∨ ∃ k, k < j ∧ a = (kAt qs k).1
  len : out.length ≤ i + j
theorem Mg.nil (ks qs : List (Rat × Rat)) : Mg ks qs 0 0 [] :=
  ⟨Nat.zero_le _, Nat.zero_le _, List.Pairwise.nil, fun _ a h => by simp at h, fun _ a h => by simp at h, fun a => by simp, Nat.le_refl _⟩
theorem ex_succ {ks : List (Rat × Rat)} {i : Nat} {a : Rat} : (∃ k, k < i + 1 ∧ a = (kAt ks k).1) ↔ (∃ k, k < i ∧ a = (kAt ks k).1) ∨ a = (kAt ks i).1 := by
  constructor
  · rintro ⟨k, hk, rfl⟩
    by_cases e : k = i
    · subst e; exact .inr rfl
    · exact .inl ⟨k, by omega, rfl⟩
  · rintro (⟨k, hk, rfl⟩ | rfl)
    · exact ⟨k, by omega, rfl⟩
    · exact ⟨i, by omega, rfl⟩
section
variable {ks qs : List (Rat × Rat)} (o : KOk ks) (p : KOk qs) {i j : Nat} {out : List Rat}
theorem asc_snoc {out : List Rat} {a : Rat} (h : out.Pairwise (· < ·)) (ha : ∀ x ∈ out, x < a) : (out ++ [a]).Pairwise (· < ·) := by
  rw [List.pairwise_append]
  exact ⟨h, List.pairwise_singleton _ _, fun x hx y hy => by rw [List.mem_singleton.mp hy]; exact ha x hx⟩
theorem lt_snoc {out : List Rat} {a b : Rat} (ha : ∀ x ∈ out, x < b) (h : a < b) : ∀ x ∈ out ++ [a], x < b := fun x hx => by
  rcases List.mem_append.mp hx with hx | hx
  · exact ha x hx
  · rw [List.mem_singleton.mp hx]; exact h
include o in
theorem Mg.one (m : Mg ks qs i j out) (hi : i < ks.length) (h : j < qs.length → (kAt ks i).1 < (kAt qs j).1) : Mg ks qs (i + 1) j (out ++ [(kAt ks i).1]) := by
  refine ⟨hi, m.j1, asc_snoc m.asc (m.l1 hi), fun h1 => lt_snoc (fun x hx => ?_) (o.asc i h1), fun h2 => lt_snoc (m.l2 h2) (h h2), fun a => ?_, by have := m.len; simp; omega⟩
  · have := m.l1 hi x hx
    have := o.asc i h1
    grind
  · rw [List.mem_append, m.mem, List.mem_singleton, ex_succ]
    constructor
    · rintro ((h | h) | h)
      · exact .inl (.inl h)
      · exact .inr h
      · exact .inl (.inr h)
    · rintro ((h | h) | h)
      · exact .inl (.inl h)
      · exact .inr h
      · exact .inl (.inr h)
include p in
theorem Mg.two (m : Mg ks qs i j out) (hj : j < qs.length) (h : i < ks.length → (kAt qs j).1 < (kAt ks i).1) : Mg ks qs i (j + 1) (out ++ [(kAt qs j).1]) := by
  refine ⟨m.i1, hj, asc_snoc m.asc (m.l2 hj), fun h1 => lt_snoc (m.l1 h1) (h h1), fun h2 => lt_snoc (fun x hx => ?_) (p.asc j h2), fun a => ?_, by have := m.len; simp; omega⟩
  · have := m.l2 hj x hx
    have := p.asc j h2
    grind
  · rw [List.mem_append, m.mem, List.mem_singleton, ex_succ]
    constructor
    · rintro ((h | h) | h)
      · exact .inl h
      · exact .inr (.inl h)
      · exact .inr (.inr h)
    · rintro (h | h | h)
      · exact .inl (.inl h)
      · exact .inl (.inr h)
      · exact .inr h
include o p in
theorem Mg.both (m : Mg ks qs i j out) (hi : i < ks.length) (hj : j < qs.length) (h : (kAt ks i).1 = (kAt qs j).1) : Mg ks qs (i + 1) (j + 1) (out ++ [(kAt ks i).1]) := by
  refine ⟨hi, hj, asc_snoc m.asc (m.l1 hi), fun h1 => lt_snoc (fun x hx => ?_) (o.asc i h1), fun h2 => lt_snoc (fun x hx => ?_) (by rw [h]; exact p.asc j h2), fun a => ?_, by have := m.len; simp; omega⟩
  · have := m.l1 hi x hx
    have := o.asc i h1
    grind
  · have := m.l2 hj x hx
    have := p.asc j h2
    grind
  · rw [List.mem_append, m.mem, List.mem_singleton, ex_succ, ex_succ]
    constructor
    · rintro ((h | h) | h)
      · exact .inl (.inl h)
      · exact .inr (.inl h)
      · exact .inl (.inr h)
    · rintro ((q | q) | (q | q))
      · exact .inl (.inl q)
      · exact .inr q
      · exact .inl (.inr q)
      · exact .inr (by rw [h]; exact q)
end
/-- all the amounts of a curve -/
theorem amt_mem {ks : List (Rat × Rat)} {a : Rat} : (∃ k, k < ks.length ∧ a = (kAt ks k).1) ↔ a ∈ ks.map (·.1) := by
  rw [List.mem_map]
  constructor
  · rintro ⟨k, hk, rfl⟩
    exact ⟨kAt ks k, kAt_mem hk, rfl⟩
  · rintro ⟨q, hq, rfl⟩
    obtain ⟨k, hk, rfl⟩ := List.mem_iff_getElem.mp hq
    exact ⟨k, hk, by unfold kAt; rw [List.getElem?_eq_getElem hk]; rfl⟩
end Q

set_option Elab.async false
set_option linter.all false
set_option maxRecDepth 100000
set_option maxHeartbeats 1000000
namespace Q
open PySem L2 PyProof.Rows PySem.W
/-! ### operators between two instances of one own class -/
theorem binop_same {prog : Program} {w : World} {A : Around} {E : Value → Shared → Prop} {s : Shared} {K : PySem.W.Frag} {x C f : Addr} {ox : Obj} {od : Option Obj} {op : Operator} {b : Value} {Q : Value → Shared → Prop} (X : K.In s.heap) (I : PySem.W.InstAt s.heap x ox C od) (hb : PySem.W.Looks (model prog w) s.heap (typeOf b) (.ref C)) (hc : selfFirst K C = true)
    (hs : findIn K (.ref C) (PySem.dunder op.info.2) = some (some (.ref f))) (hf : isFn K (.ref f) = true)
    (h : wpAny (model prog w) A (call (.ref f) [.ref x, b]) (PySem.W.CmpBack Q) E s) : wpAny (model prog w) A (binaryOp op (.ref x) b) Q E s := by
  obtain ⟨cd, hcd, hm⟩ := any_some hc
  obtain ⟨rest, hm⟩ : ∃ rest, cd.mro = .ref C :: rest := by
    cases q : cd.mro with
    | nil => rw [q] at hm; cases hm
    | cons a r => rw [q] at hm; exact ⟨r, by rw [List.head?_cons] at hm; cases (beq_iff_eq.mp hm); rfl⟩
  unfold binaryOp
  refine wpAny_holding (wpAny_bind ?_)
  unfold binaryOp1
  refine wpAny_bind (I.type.here (wpAny_bind (hb.here (wpAny_bind ((fills_K X hcd hm hs).here ?_)))))
  simp only [beq_self_eq_true, if_true]
  refine wpAny_bind (wpAny_pure ?_)
  simp only [Bool.and_false, Bool.false_eq_true, if_false, Bool.false_and]
  refine wpAny_bind (wpAny_pure ?_)
  simp only [Bool.false_eq_true, if_false]
  refine wpAny_bind (m := tryMethod (.ref x) _ b) ?_
  unfold tryMethod
  refine wpAny_bind (special_fn X I hs (beq_iff_eq.mp hf) (wpAny_mono h (fun v s' hv => ?_) fun _ _ e => e))
  cases v <;> first | exact hv.elim | exact wpAny_pure (wpAny_pure (wpAny_pure hv))
/-- the def m of the class x, asked by an operator -/
structure OwnOp (P : Program) (w : World) (K : PySem.W.Frag) (mg : Str → Option Value) (base : Heap) (k : Nat) (x m : Str) (mf : List D → Option D) : Prop where
  meth : MethOk P w K mg base k x m 2 mf
  first : ∀ C, PySem.W.nsIn K mainGlobals x = some (some (.ref C)) → selfFirst K C = true
  ins : ∀ ds d, mf ds = some d → ∃ ns es, d = .ins x ns es
def oOwn (x : Str) (mf : List D → Option D) (a b : O) : Option O := (isI x a).bind fun d => (isI x b).bind fun e => (mf [d, e]).bind fun r => some (.fz r)
theorem isI_ok {K : PySem.W.Frag} {B H : Hp} {x : Str} {o : O} {d : D} {v : V} (h : isI x o = some d) (w : Vw K B H o v) : ∃ a C dx fs, v = .ref a ∧ B a = some (.ins C dx fs) ∧ InsC K x C ∧ Rp K B d v := by
  unfold isI at h
  split at h
  · split at h
    · rename_i y ns ds hy
      cases h
      rw [Vw] at w
      have w' := w
      rw [Rp] at w'
      obtain ⟨a, C, dx, vs, rfl, ha, hdx, ic, hl, r⟩ := w'
      rw [hy] at ic
      exact ⟨a, C, dx, _, rfl, ha, ic, w⟩
    · cases h
  · cases h
theorem q_own {X : Cx} {k : Nat} {x : Str} {mf : List D → Option D} {op : Operator} (G : OwnOp X.prog X.w X.K X.mg X.base k x (PySem.dunder op.info.2) mf) (hr : Room k X.A) : QOp X (binaryOp op) (oOwn x mf) := by
  obtain ⟨C, f, fd, ps, hC, F, hm, hfi, hb⟩ := G.meth.ex
  refine ⟨fun u v H Q => ∃ a b dx fs dy gs, u = V.ref a ∧ v = V.ref b ∧ H a = some (.ins C dx fs) ∧ H b = some (.ins C dy gs) ∧ spM X.K 2 mf [.ref a, .ref b] H (fun z H' => (∃ c, z = V.ref c) ∧ Q z H') (fun _ _ _ => False), ?_, ?_⟩
  · intro pins s σ H u v u' v' Q I ru rv h
    obtain ⟨a, b, dx, fs, dy, gs, rfl, rfl, ha, hbb, hs⟩ := h
    obtain rfl : u' = Value.ref a := ru
    obtain rfl : v' = Value.ref b := rv
    obtain ⟨mA, O1, _⟩ := ins_get I.hok ha
    obtain ⟨od, J, _⟩ := O1.look
    obtain ⟨mB, O2, _⟩ := ins_get I.hok hbb
    obtain ⟨od2, J2, _⟩ := O2.look
    refine binop_same I.kIn J J2.type (G.first C hC) hm.at_ hm.fn ?_
    refine wpAny_mono (run_fn (us := [.ref a, .ref b]) (vs := [.ref a, .ref b]) (Q := fun z H' => (∃ c, z = V.ref c) ∧ Q z H') F hr hb .nil pass0 I (.cons rfl (.cons rfl .nil)) hs) (fun r s' hq => ?_) fun _ _ e => e
    obtain ⟨z, H', I', rz, ⟨c, hc⟩, q⟩ := hq
    subst hc
    obtain rfl : r = Value.ref c := rz
    exact ⟨.ref c, H', I', rfl, q⟩
  · intro H0 B0 ln Γ B H σ env s o1 o2 o u v w1 w2 hg Q q
    unfold oOwn at hg
    obtain ⟨d, e1, hg⟩ := bind_some hg
    obtain ⟨e, e2, hg⟩ := bind_some hg
    obtain ⟨r, e3, hg⟩ := bind_some hg
    cases hg
    obtain ⟨a, C1, dx, fs, rfl, ha, ic, r1⟩ := isI_ok e1 w1
    obtain ⟨b, C2, dy, gs, rfl, hb2, ic2, r2⟩ := isI_ok e2 w2
    have := hC.symm.trans ic.ns
    cases this
    have := hC.symm.trans ic2.ns
    cases this
    refine ⟨a, b, dx, fs, dy, gs, rfl, rfl, s.w.bh _ _ ha, s.w.bh _ _ hb2, B, [d, e], r, s.w.bh, Rps.cons r1 (Rps.one r2), rfl, e3, fun z B' H' w rz => ⟨?_, q z B' H' w.b0 w.h0 ((s.step w).push rz)⟩⟩
    obtain ⟨ns, es, rfl⟩ := G.ins _ _ e3
    rw [Rp] at rz
    obtain ⟨c, _, _, _, rfl, _⟩ := rz
    exact ⟨c, rfl⟩
theorem ret_ins {x : Str} {n N : Nat} {mf : List D → Option D} {mA : EM (List O)} (h : ∀ ds r, mf ds = some r → ∃ ns es, r = .ins x ns es) : ∀ ds d, runD n N (sRet (mCall mf mA)) ds = some d → ∃ ns es, d = .ins x ns es := fun ds d hd => by
  unfold runD at hd
  split at hd
  · obtain ⟨out, e1, hd⟩ := bind_some hd
    obtain ⟨p, e2, e1⟩ := bind_some e1
    obtain ⟨q, e3, e2⟩ := bind_some e2
    obtain ⟨r, e4, e2⟩ := bind_some e2
    cases e2
    cases e1
    cases hd
    exact h _ _ e4
  · cases hd
theorem valI_ins {x f : Str} {n N : Nat} {m : Addr → En → Option D} : ∀ ds r, valI x f n N m ds = some r → ∃ ns es, r = .ins x ns es := fun ds r h => by
  obtain ⟨d, e, _⟩ := valI_some h
  exact ⟨_, _, e⟩
theorem sf_of {K : PySem.W.Frag} {x : Str} {C : Addr} (i : InsC K x C) (h : PySem.W.selfFirst K C = true) : ∀ C', PySem.W.nsIn K mainGlobals x = some (some (.ref C')) → PySem.W.selfFirst K C' = true := fun C' e => by
  have := e.symm.trans i.ns
  cases this
  exact h
@[simp] theorem e_oOwn {x : Str} {mf : List D → Option D} {a b : O} : oOwn x mf a b = (isI x a).bind fun d => (isI x b).bind fun e => (mf [d, e]).bind fun r => some (.fz r) := rfl
end Q

set_option Elab.async false
set_option linter.all false
set_option maxRecDepth 100000
set_option maxHeartbeats 1000000
namespace Q
open PySem L2
/-! ### points straightened: what a curve is, along the list -/
def slP (p q : Rat × Rat) : Rat := (q.2 - p.2) / (q.1 - p.1)
def aft (p : Rat × Rat) : List (Rat × Rat) → Rat
  | [] => 1
  | q :: _ => slP p q
def nxt (p : Rat × Rat) : List (Rat × Rat) → Prop
  | [] => p.1 = p.2
  | q :: _ => p.1 < q.1
/-- the slope at an amount, when the slope ahead of the points is b -/
def slS (b : Rat) : List (Rat × Rat) → Rat → Rat
  | [], _ => b
  | p :: r, x => if x < p.1 then b else slS (aft p r) r x
def WOk (b : Rat) : List (Rat × Rat) → Prop
  | [] => b = 1
  | p :: r => b ≤ aft p r ∧ nxt p r ∧ WOk (aft p r) r
def TOk (b : Rat) : List (Rat × Rat) → Prop
  | [] => b = 1
  | p :: r => b < aft p r ∧ nxt p r ∧ TOk (aft p r) r
def stR (b : Rat) : List (Rat × Rat) → List (Rat × Rat)
  | [] => []
  | p :: r => if b = aft p r then stR (aft p r) r else p :: stR (aft p r) r
theorem slP_mul {p q : Rat × Rat} (h : p.1 < q.1) : slP p q * (q.1 - p.1) = q.2 - p.2 := by
  have : q.1 - p.1 ≠ 0 := by grind
  unfold slP
  rw [Rat.div_def, Rat.mul_assoc, Rat.inv_mul_cancel _ this, Rat.mul_one]
theorem slP_of {p q : Rat × Rat} {s : Rat} (h : p.1 < q.1) (e : q.2 - p.2 = s * (q.1 - p.1)) : slP p q = s := by
  have : q.1 - p.1 ≠ 0 := by grind
  unfold slP
  rw [e, Rat.div_def, Rat.mul_assoc, Rat.mul_inv_cancel _ this, Rat.mul_one]
def onL (b : Rat) (p : Rat × Rat) : List (Rat × Rat) → Prop
  | [] => b = 1 ∧ p.1 = p.2
  | h :: _ => h.2 - p.2 = b * (h.1 - p.1) ∧ p.1 ≤ h.1
theorem st_line : ∀ (r : List (Rat × Rat)) (b : Rat) (p : Rat × Rat), WOk b (p :: r) → onL b p (stR b (p :: r))
  | [], b, p, ⟨h1, h2, h3⟩ => by
    unfold stR
    split
    · rename_i e
      exact ⟨e, h2⟩
    · exact ⟨by grind, Rat.le_refl⟩
  | q :: r, b, p, ⟨h1, h2, h3⟩ => by
    have ih := st_line r (aft p (q :: r)) q h3
    unfold stR
    split
    · rename_i e
      have m : b * (q.1 - p.1) = q.2 - p.2 := by rw [e]; exact slP_mul h2
      have h2 : p.1 < q.1 := h2
      rw [← e] at ih ⊢
      revert ih
      generalize stR b (q :: r) = t
      intro ih
      cases t with
      | nil =>
        obtain ⟨a1, a2⟩ := ih
        refine ⟨a1, ?_⟩
        rw [a1] at m
        grind
      | cons h t =>
        obtain ⟨a1, a2⟩ := ih
        exact ⟨by grind, by grind⟩
    · exact ⟨by grind, Rat.le_refl⟩
theorem st_ok : ∀ (r : List (Rat × Rat)) (b : Rat), WOk b r → TOk b (stR b r)
  | [], b, h => h
  | p :: r, b, ⟨h1, h2, h3⟩ => by
    have ih := st_ok r _ h3
    unfold stR
    split
    · rename_i e
      rw [← e] at ih ⊢; exact ih
    · rename_i e
      have hb : b < aft p r := by grind
      cases r with
      | nil => exact ⟨hb, h2, rfl⟩
      | cons q r =>
        have l : onL (slP p q) q (stR (slP p q) (q :: r)) := st_line r _ q h3
        have h2 : p.1 < q.1 := h2
        have m := slP_mul h2
        have ih : TOk (slP p q) (stR (slP p q) (q :: r)) := ih
        have hb : b < slP p q := hb
        show TOk b (p :: stR (slP p q) (q :: r))
        clear h3 e h1
        revert ih l
        generalize stR (slP p q) (q :: r) = t
        intro l ih
        cases t with
        | nil =>
          obtain ⟨a1, a2⟩ := l
          have ih : slP p q = 1 := ih
          rw [a1] at m hb
          exact ⟨hb, show p.1 = p.2 by grind, rfl⟩
        | cons h t =>
          obtain ⟨a1, a2⟩ := l
          have hh : p.1 < h.1 := by grind
          have e2 : slP p h = slP p q := slP_of hh (by grind)
          refine ⟨show b < slP p h by rw [e2]; exact hb, hh, show TOk (slP p h) _ by rw [e2]; exact ih⟩
theorem slS_low {b : Rat} : ∀ {r : List (Rat × Rat)} {x : Rat}, (∀ p ∈ r.head?, x < p.1) → slS b r x = b
  | [], _, _ => rfl
  | p :: r, x, h => if_pos (h p rfl)
theorem st_slope : ∀ (r : List (Rat × Rat)) (b : Rat), WOk b r → ∀ x, slS b (stR b r) x = slS b r x
  | [], b, h, x => rfl
  | p :: r, b, ⟨h1, h2, h3⟩, x => by
    have ih := st_slope r _ h3 x
    unfold stR
    split
    · rename_i e
      rw [← e] at ih ⊢
      rw [ih]
      show _ = if x < p.1 then b else slS (aft p r) r x
      split
      · rename_i hx
        cases r with
        | nil => rfl
        | cons q r =>
          have h2 : p.1 < q.1 := h2
          exact if_pos (by grind)
      · rw [← e]
    · rename_i e
      show (if x < p.1 then b else slS (aft p (stR (aft p r) r)) (stR (aft p r) r) x) = if x < p.1 then b else slS (aft p r) r x
      split
      · rfl
      · rw [← ih]
        congr 1
        cases r with
        | nil => rfl
        | cons q r =>
          have l : onL (slP p q) q (stR (slP p q) (q :: r)) := st_line r _ q h3
          have h2 : p.1 < q.1 := h2
          have m := slP_mul h2
          show aft p (stR (slP p q) (q :: r)) = slP p q
          clear ih h3 e h1
          revert l
          generalize stR (slP p q) (q :: r) = t
          intro l
          cases t with
          | nil => exact l.1.symm
          | cons h t =>
            obtain ⟨a1, a2⟩ := l
            exact slP_of (by grind) (by grind)
theorem TOk.lt1 : ∀ {r : List (Rat × Rat)} {b : Rat} {p : Rat × Rat}, TOk b (p :: r) → b < 1
  | [], b, p, ⟨h1, _, _⟩ => h1
  | q :: r, b, p, ⟨h1, _, h3⟩ => by
    have := TOk.lt1 h3
    grind
theorem slS_big : ∀ (r : List (Rat × Rat)) (b : Rat) (x : Rat), TOk b r → (∀ p ∈ r, p.1 ≤ x) → slS b r x = 1
  | [], b, x, h, _ => h
  | p :: r, b, x, ⟨_, _, h3⟩, h => by
    have hp := h p (by simp)
    show (if x < p.1 then b else slS (aft p r) r x) = 1
    rw [if_neg (by grind)]
    exact slS_big r _ x h3 fun q hq => h q (by simp [hq])
theorem big_ex : ∀ r : List (Rat × Rat), ∃ x : Rat, ∀ p ∈ r, p.1 ≤ x
  | [] => ⟨0, fun p h => by simp at h⟩
  | p :: r => by
    obtain ⟨x, hx⟩ := big_ex r
    by_cases h : p.1 ≤ x
    · refine ⟨x, fun q hq => ?_⟩
      rcases List.mem_cons.mp hq with rfl | hq
      · exact h
      · exact hx q hq
    · refine ⟨p.1, fun q hq => ?_⟩
      rcases List.mem_cons.mp hq with rfl | hq
      · exact Rat.le_refl
      · have := hx q hq
        grind
theorem nxt_low {p : Rat × Rat} {r : List (Rat × Rat)} (h : nxt p r) {b x : Rat} (hx : x ≤ p.1) : slS b r x = b := by
  cases r with
  | nil => rfl
  | cons q r =>
    have h : p.1 < q.1 := h
    exact if_pos (by grind)
theorem slS_uniq : ∀ (r s : List (Rat × Rat)) (b : Rat), TOk b r → TOk b s → (∀ x, slS b r x = slS b s x) → r = s
  | [], [], _, _, _, _ => rfl
  | [], q :: s, b, h, h', _ => by
    have := h'.lt1
    have h : b = 1 := h
    grind
  | p :: r, [], b, h, h', _ => by
    have := h.lt1
    have h' : b = 1 := h'
    grind
  | p :: r, q :: s, b, ⟨h1, h2, h3⟩, ⟨k1, k2, k3⟩, e => by
    have ep := e p.1
    have eq' := e q.1
    have l1 : slS b (p :: r) p.1 = aft p r := by
      show (if p.1 < p.1 then b else _) = _
      rw [if_neg (Rat.lt_irrefl)]
      exact nxt_low h2 Rat.le_refl
    have l2 : slS b (q :: s) q.1 = aft q s := by
      show (if q.1 < q.1 then b else _) = _
      rw [if_neg (Rat.lt_irrefl)]
      exact nxt_low k2 Rat.le_refl
    have hpq : p.1 = q.1 := by
      by_cases c1 : p.1 < q.1
      · have : slS b (q :: s) p.1 = b := if_pos c1
        rw [l1, this] at ep
        grind
      · by_cases c2 : q.1 < p.1
        · have : slS b (p :: r) q.1 = b := if_pos c2
          rw [l2, this] at eq'
          grind
        · grind
    have ea : aft p r = aft q s := by
      rw [← hpq] at l2
      rw [← l1, ← l2]
      exact ep
    have ih := slS_uniq r s (aft p r) h3 (by rw [ea]; exact k3) fun x => by
      by_cases c : x < p.1
      · rw [nxt_low h2 (Rat.le_of_lt c), ea, nxt_low k2 (by rw [← hpq]; exact Rat.le_of_lt c)]
      · have := e x
        have a1 : slS b (p :: r) x = slS (aft p r) r x := if_neg c
        have a2 : slS b (q :: s) x = slS (aft q s) s x := if_neg (by rw [← hpq]; exact c)
        rw [a1, a2] at this
        rw [this, ea]
    subst ih
    have : p.2 = q.2 := by
      cases r with
      | nil =>
        have h2 : p.1 = p.2 := h2
        have k2 : q.1 = q.2 := k2
        grind
      | cons z r =>
        have m1 := slP_mul (p := p) (q := z) h2
        have m2 := slP_mul (p := q) (q := z) k2
        have ea : slP p z = slP q z := ea
        rw [ea, hpq] at m1
        grind
    rw [show p = q from Prod.ext hpq this]
/-! ### the two forms of a curve -/
theorem kAt_succ (p : Rat × Rat) (r : List (Rat × Rat)) (k : Nat) : kAt (p :: r) (k + 1) = kAt r k := rfl
theorem sl_succ (p : Rat × Rat) (r : List (Rat × Rat)) (k : Nat) : sl (p :: r) (k + 1) = sl r k := rfl
theorem tok_of : ∀ (r : List (Rat × Rat)) (b : Rat) (p : Rat × Rat), b < 1 → (1 < (p :: r).length → b < sl (p :: r) 0) →
    (∀ k, k + 1 < (p :: r).length → (kAt (p :: r) k).1 < (kAt (p :: r) (k + 1)).1) → (∀ k, k + 2 < (p :: r).length → sl (p :: r) k < sl (p :: r) (k + 1)) → (∀ k, k + 1 < (p :: r).length → sl (p :: r) k < 1) →
    (kAt (p :: r) ((p :: r).length - 1)).1 = (kAt (p :: r) ((p :: r).length - 1)).2 → TOk b (p :: r)
  | [], b, p, h1, _, _, _, _, h6 => ⟨h1, h6, rfl⟩
  | q :: r, b, p, h1, h2, h3, h4, h5, h6 => by
    have ea : aft p (q :: r) = sl (p :: q :: r) 0 := rfl
    refine ⟨h2 (by simp), h3 0 (by simp), ?_⟩
    rw [ea]
    refine tok_of r _ q (h5 0 (by simp)) (fun hh => h4 0 (by simp at hh ⊢; omega)) (fun k hk => h3 (k + 1) (by simp at hk ⊢; omega)) (fun k hk => h4 (k + 1) (by simp at hk ⊢; omega)) (fun k hk => h5 (k + 1) (by simp at hk ⊢; omega)) ?_
    have e : (p :: q :: r).length - 1 = ((q :: r).length - 1) + 1 := by simp
    rw [e] at h6
    exact h6
theorem KOk.tok {ks : List (Rat × Rat)} (o : KOk ks) : TOk 0 ks := by
  cases ks with
  | nil => exact absurd rfl o.ne
  | cons p r => exact tok_of r 0 p (by decide) o.pos o.asc o.up o.one o.last
theorem ok_of_tok : ∀ (r : List (Rat × Rat)) (b : Rat) (p : Rat × Rat), TOk b (p :: r) →
    b < 1 ∧ (1 < (p :: r).length → b < sl (p :: r) 0) ∧
    (∀ k, k + 1 < (p :: r).length → (kAt (p :: r) k).1 < (kAt (p :: r) (k + 1)).1) ∧ (∀ k, k + 2 < (p :: r).length → sl (p :: r) k < sl (p :: r) (k + 1)) ∧ (∀ k, k + 1 < (p :: r).length → sl (p :: r) k < 1) ∧
    (kAt (p :: r) ((p :: r).length - 1)).1 = (kAt (p :: r) ((p :: r).length - 1)).2
  | [], b, p, h => ⟨h.lt1, fun hh => by simp at hh, fun k hk => by simp at hk, fun k hk => by simp at hk, fun k hk => by simp at hk, h.2.1⟩
  | q :: r, b, p, h => by
    obtain ⟨a1, a2, a3, a4, a5, a6⟩ := ok_of_tok r _ q h.2.2
    have ea : aft p (q :: r) = sl (p :: q :: r) 0 := rfl
    rw [ea] at a1 a2
    refine ⟨h.lt1, fun _ => h.1, fun k hk => ?_, fun k hk => ?_, fun k hk => ?_, ?_⟩
    · cases k with
      | zero => exact h.2.1
      | succ k => exact a3 k (by simp at hk ⊢; omega)
    · cases k with
      | zero => exact a2 (by simp at hk ⊢; omega)
      | succ k => exact a4 k (by simp at hk ⊢; omega)
    · cases k with
      | zero => exact a1
      | succ k => exact a5 k (by simp at hk ⊢; omega)
    · have e : (p :: q :: r).length - 1 = ((q :: r).length - 1) + 1 := by simp
      rw [e]
      exact a6
theorem TOk.kok {ks : List (Rat × Rat)} (h : TOk 0 ks) : KOk ks := by
  cases ks with
  | nil => exact absurd h (by show ¬ (0 : Rat) = 1; decide)
  | cons p r =>
    obtain ⟨_, a2, a3, a4, a5, a6⟩ := ok_of_tok r _ p h
    exact ⟨by simp, a3, a2, a4, a5, a6⟩
def seg1 (ks : List (Rat × Rat)) (x : Rat) : Rat := match segLt ks x with
  | some i => sl ks i
  | none => 1
theorem segLt_cons (p q : Rat × Rat) (r : List (Rat × Rat)) (x : Rat) : segLt (p :: q :: r) x = if x < q.1 then some 0 else (segLt (q :: r) x).map (· + 1) := by
  unfold segLt
  have e : (p :: q :: r).length - 1 = ((q :: r).length - 1) + 1 := by simp
  rw [e, List.range_succ_eq_map, List.find?_cons]
  by_cases h : x < q.1
  · have : decide (x < (kAt (p :: q :: r) (0 + 1)).1) = true := decide_eq_true h
    rw [this, if_pos h]
  · have : decide (x < (kAt (p :: q :: r) (0 + 1)).1) = false := decide_eq_false h
    rw [this, if_neg h, List.find?_map]
    rfl
theorem seg1_slS : ∀ (r : List (Rat × Rat)) (p : Rat × Rat) (x : Rat), seg1 (p :: r) x = slS (aft p r) r x
  | [], p, x => rfl
  | q :: r, p, x => by
    have ih := seg1_slS r q x
    unfold seg1 at ih ⊢
    rw [segLt_cons]
    show _ = if x < q.1 then aft p (q :: r) else slS (aft q r) r x
    by_cases h : x < q.1
    · rw [if_pos h, if_pos h]; rfl
    · rw [if_neg h, if_neg h, ← ih]
      cases segLt (q :: r) x <;> rfl
theorem slopeK_slS (ks : List (Rat × Rat)) (hne : ks ≠ []) (x : Rat) : slopeK ks x = slS 0 ks x := by
  cases ks with
  | nil => exact absurd rfl hne
  | cons p r =>
    unfold slopeK
    show (if x < p.1 then 0 else seg1 (p :: r) x) = if x < p.1 then 0 else slS (aft p r) r x
    rw [seg1_slS]
theorem slopeK_uniq {ks qs : List (Rat × Rat)} (o : KOk ks) (p : KOk qs) (h : ∀ x, slopeK ks x = slopeK qs x) : ks = qs :=
  slS_uniq ks qs 0 o.tok p.tok fun x => by rw [← slopeK_slS ks o.ne, ← slopeK_slS qs p.ne, h x]
theorem straight_ok {ps : List (Rat × Rat)} (h : WOk 0 ps) : KOk (stR 0 ps) := (st_ok ps 0 h).kok
theorem straight_slope {ps : List (Rat × Rat)} (h : WOk 0 ps) (x : Rat) : slopeK (stR 0 ps) x = slS 0 ps x := by
  rw [slopeK_slS _ (straight_ok h).ne, st_slope ps 0 h]
end Q

set_option Elab.async false
set_option linter.all false
set_option maxRecDepth 100000
set_option maxHeartbeats 1000000
namespace Q
open PySem L2
/-! ### the points of a product -/
def vP (f : Rat → Rat) : List Rat → Rat
  | [] => 0
  | [a] => a
  | a :: b :: r => vP f (b :: r) - f a * (b - a)
def prodP (f : Rat → Rat) : List Rat → List (Rat × Rat)
  | [] => []
  | a :: r => (a, vP f (a :: r)) :: prodP f r
theorem prodP_len (f : Rat → Rat) : ∀ A : List Rat, (prodP f A).length = A.length
  | [] => rfl
  | a :: r => by rw [prodP, List.length_cons, prodP_len f r, List.length_cons]
theorem aft_prod (f : Rat → Rat) {a b : Rat} {r : List Rat} (h : a < b) : aft (a, vP f (a :: b :: r)) (prodP f (b :: r)) = f a := by
  refine slP_of h ?_
  show vP f (b :: r) - (vP f (b :: r) - f a * (b - a)) = f a * (b - a)
  grind
theorem prod_wok (f : Rat → Rat) (hm : ∀ x y, x ≤ y → f x ≤ f y) (h1 : ∀ x, f x ≤ 1) : ∀ (r : List Rat) (a b : Rat), (a :: r).Pairwise (· < ·) → b ≤ f a → WOk b (prodP f (a :: r))
  | [], a, b, _, hb => ⟨Rat.le_trans hb (h1 a), rfl, rfl⟩
  | c :: r, a, b, h, hb => by
    have h' := List.pairwise_cons.mp h
    have hac : a < c := h'.1 c (by simp)
    have e := aft_prod f (r := r) hac
    refine ⟨by rw [e]; exact hb, hac, ?_⟩
    rw [e]
    exact prod_wok f hm h1 r c (f a) h'.2 (hm a c (Rat.le_of_lt hac))
def Cst (f : Rat → Rat) : List Rat → Prop
  | [] => True
  | [a] => ∀ x, a ≤ x → f x = 1
  | a :: b :: r => (∀ x, a ≤ x → x < b → f x = f a) ∧ Cst f (b :: r)
theorem prod_slope (f : Rat → Rat) : ∀ (r : List Rat) (a b : Rat), (a :: r).Pairwise (· < ·) → Cst f (a :: r) → ∀ x, a ≤ x → slS b (prodP f (a :: r)) x = f x
  | [], a, b, _, hc, x, hx => by
    show (if x < a then b else 1) = f x
    rw [if_neg (by grind), hc x hx]
  | c :: r, a, b, h, hc, x, hx => by
    have h' := List.pairwise_cons.mp h
    have hac : a < c := h'.1 c (by simp)
    show (if x < a then b else slS (aft (a, vP f (a :: c :: r)) (prodP f (c :: r))) (prodP f (c :: r)) x) = f x
    rw [if_neg (by grind), aft_prod f hac]
    by_cases hxc : x < c
    · rw [hc.1 x hx hxc]
      exact if_pos hxc
    · exact prod_slope f r c (f a) h'.2 hc.2 x (by grind)
theorem slS_const : ∀ (ks : List (Rat × Rat)) (b x y : Rat), (∀ p ∈ ks, x < p.1 ↔ y < p.1) → slS b ks x = slS b ks y
  | [], _, _, _, _ => rfl
  | p :: r, b, x, y, h => by
    have hp := h p (by simp)
    have ih := slS_const r (aft p r) x y fun q hq => h q (by simp [hq])
    show (if x < p.1 then b else slS (aft p r) r x) = if y < p.1 then b else slS (aft p r) r y
    by_cases c : x < p.1
    · rw [if_pos c, if_pos (hp.mp c)]
    · rw [if_neg c, if_neg (mt hp.mpr c), ih]
theorem cst_of {ks qs : List (Rat × Rat)} (o : KOk ks) (p : KOk qs) : ∀ (r : List Rat) (a : Rat), (a :: r).Pairwise (· < ·) → (∀ z ∈ ks ++ qs, z.1 ≤ a ∨ z.1 ∈ r) → Cst (fun x => slopeK ks x * slopeK qs x) (a :: r)
  | [], a, _, h => fun x hx => by
    have e1 : slopeK ks x = 1 := by
      rw [slopeK_slS ks o.ne]
      exact slS_big ks 0 x o.tok fun q hq => by
        rcases h q (by simp [hq]) with h | h
        · grind
        · simp at h
    have e2 : slopeK qs x = 1 := by
      rw [slopeK_slS qs p.ne]
      exact slS_big qs 0 x p.tok fun q hq => by
        rcases h q (by simp [hq]) with h | h
        · grind
        · simp at h
    show slopeK ks x * slopeK qs x = 1
    rw [e1, e2, Rat.one_mul]
  | c :: r, a, hs, h => by
    have h' := List.pairwise_cons.mp hs
    have hac : a < c := h'.1 c (by simp)
    have hc := List.pairwise_cons.mp h'.2
    refine ⟨fun x h1 h2 => ?_, cst_of o p r c h'.2 fun z hz => ?_⟩
    · have key : ∀ z ∈ ks ++ qs, x < z.1 ↔ a < z.1 := fun z hz => by
        rcases h z hz with h | h
        · constructor <;> intro hh <;> grind
        · have : c ≤ z.1 := by
            rcases List.mem_cons.mp h with h | h
            · rw [h]; exact Rat.le_refl
            · exact Rat.le_of_lt (hc.1 _ h)
          constructor <;> intro hh <;> grind
      show slopeK ks x * slopeK qs x = slopeK ks a * slopeK qs a
      rw [slopeK_slS ks o.ne, slopeK_slS ks o.ne, slopeK_slS qs p.ne, slopeK_slS qs p.ne, slS_const ks 0 x a fun q hq => key q (by simp [hq]), slS_const qs 0 x a fun q hq => key q (by simp [hq])]
    · rcases h z hz with h | h
      · exact .inl (by grind)
      · rcases List.mem_cons.mp h with h | h
        · exact .inl (by rw [h]; exact Rat.le_refl)
        · exact .inr h
/-- the knots of a product, over amounts A -/
def mulK (ks qs : List (Rat × Rat)) (A : List Rat) : List (Rat × Rat) := prodP (fun x => slopeK ks x * slopeK qs x) A
theorem mul_nn {a b : Rat} (h1 : 0 ≤ a) (h2 : 0 ≤ b) : 0 ≤ a * b := Rat.mul_nonneg h1 h2
theorem mulK_ok {ks qs : List (Rat × Rat)} (o : KOk ks) (p : KOk qs) {A : List Rat} (hs : A.Pairwise (· < ·)) (hm : ∀ a, a ∈ A ↔ a ∈ ks.map (·.1) ++ qs.map (·.1)) :
    WOk 0 (mulK ks qs A) ∧ ∀ x, slS 0 (mulK ks qs A) x = slopeK ks x * slopeK qs x := by
  cases A with
  | nil =>
    have := (hm (kAt ks 0).1).mpr (by
      refine List.mem_append_left _ (List.mem_map.mpr ⟨_, kAt_mem o.len, rfl⟩))
    simp at this
  | cons a r =>
    have hle : ∀ z ∈ ks ++ qs, z.1 = a ∨ z.1 ∈ r := fun z hz => by
      have : z.1 ∈ a :: r := (hm z.1).mpr (by
        rw [← List.map_append]
        exact List.mem_map.mpr ⟨z, hz, rfl⟩)
      exact List.mem_cons.mp this
    have mono : ∀ x y, x ≤ y → slopeK ks x * slopeK qs x ≤ slopeK ks y * slopeK qs y := fun x y h => by
      have a1 := slopeK_mono o h
      have a2 := slopeK_mono p h
      obtain ⟨b1, b2⟩ := slopeK_bounds o x
      obtain ⟨c1, c2⟩ := slopeK_bounds p y
      exact Rat.le_trans (Rat.mul_le_mul_of_nonneg_left a2 b1) (Rat.mul_le_mul_of_nonneg_right a1 c1)
    have le1 : ∀ x, slopeK ks x * slopeK qs x ≤ 1 := fun x => by
      obtain ⟨b1, b2⟩ := slopeK_bounds o x
      obtain ⟨c1, c2⟩ := slopeK_bounds p x
      have := Rat.mul_le_mul_of_nonneg_right b2 c1
      rw [Rat.one_mul] at this
      exact Rat.le_trans this c2
    have nn : ∀ x, 0 ≤ slopeK ks x * slopeK qs x := fun x => mul_nn (slopeK_bounds o x).1 (slopeK_bounds p x).1
    refine ⟨prod_wok _ mono le1 r a 0 hs (nn a), fun x => ?_⟩
    by_cases hx : x < a
    · have low : ∀ z ∈ ks ++ qs, x < z.1 := fun z hz => by
        rcases hle z hz with h | h
        · rw [h]; exact hx
        · have := (List.pairwise_cons.mp hs).1 _ h
          grind
      have e1 : slS 0 (mulK ks qs (a :: r)) x = 0 := if_pos hx
      have e2 : slopeK ks x = 0 := if_pos (low _ (by simp [kAt_mem o.len]))
      rw [e1, e2, Rat.zero_mul]
    · exact prod_slope _ r a 0 hs (cst_of o p r a hs fun z hz => by
        rcases hle z hz with h | h
        · exact .inl (by rw [h]; exact Rat.le_refl)
        · exact .inr h) x (by grind)
end Q

set_option Elab.async false
set_option linter.all false
set_option maxRecDepth 100000
set_option maxHeartbeats 1000000
namespace Q
open PySem L2
/-! ### sizes, tops and products as curves -/
structure KZ (a s v : Nat) (ks : List (Rat × Rat)) : Prop where
  am : ∀ p ∈ ks, sz p.1 ≤ a
  sl : ∀ k, k + 1 < ks.length → sz (sl ks k) ≤ s
  va : ∀ p ∈ ks, sz p.2 ≤ v
theorem KZ.ksz {a s v c : Nat} {ks : List (Rat × Rat)} (h : KZ a s v ks) (h1 : a ≤ c) (h2 : v ≤ c) : KSz c ks := fun p hp => ⟨Nat.le_trans (h.am p hp) h1, Nat.le_trans (h.va p hp) h2⟩
theorem KZ.mono {a s v a' s' v' : Nat} {ks : List (Rat × Rat)} (h : KZ a s v ks) (h1 : a ≤ a') (h2 : s ≤ s') (h3 : v ≤ v') : KZ a' s' v' ks :=
  ⟨fun p hp => Nat.le_trans (h.am p hp) h1, fun k hk => Nat.le_trans (h.sl k hk) h2, fun p hp => Nat.le_trans (h.va p hp) h3⟩
theorem slopeK_sz {ks : List (Rat × Rat)} {a s v : Nat} (h : KZ a s v ks) (hs : 1 ≤ s) (x : Rat) : sz (slopeK ks x) ≤ s := by
  unfold slopeK
  split
  · rw [sz_zero]; exact hs
  · split
    · rename_i i hi
      have := (seg_lt hi).1
      exact h.sl i (by omega)
    · rw [sz_one]; exact hs
theorem slope_at_knot {ks : List (Rat × Rat)} (o : KOk ks) {i : Nat} (hi : i + 1 < ks.length) : slopeK ks (kAt ks i).1 = sl ks i := by
  unfold slopeK
  have h0 : ¬ (kAt ks i).1 < (kAt ks 0).1 := Rat.not_lt.mpr (k_mono o (by omega) (by omega))
  rw [if_neg h0]
  have hs : segLt ks (kAt ks i).1 = some i := by
    unfold segLt
    refine (List.find?_range_eq_some).mpr ⟨decide_eq_true (o.asc i hi), List.mem_range.mpr (by omega), fun j hj => ?_⟩
    have : ¬ (kAt ks i).1 < (kAt ks (j + 1)).1 := Rat.not_lt.mpr (k_mono o (by omega) (by omega))
    simp [this]
  rw [hs]
theorem stR_mem : ∀ (ps : List (Rat × Rat)) (b : Rat) (p : Rat × Rat), p ∈ stR b ps → p ∈ ps
  | [], _, p, h => h
  | q :: r, b, p, h => by
    unfold stR at h
    split at h
    · exact List.mem_cons_of_mem _ (stR_mem r _ p h)
    · rcases List.mem_cons.mp h with h | h
      · rw [h]; exact List.mem_cons_self ..
      · exact List.mem_cons_of_mem _ (stR_mem r _ p h)
theorem stR_len : ∀ (ps : List (Rat × Rat)) (b : Rat), (stR b ps).length ≤ ps.length
  | [], _ => Nat.le_refl _
  | q :: r, b => by
    unfold stR
    have := stR_len r (aft q r)
    split
    · rw [List.length_cons]; omega
    · rw [List.length_cons, List.length_cons]; omega
theorem vP_sz {f : Rat → Rat} {a s : Nat} (hs : ∀ x, sz (f x) ≤ s) : ∀ A : List Rat, (∀ x ∈ A, sz x ≤ a) → sz (vP f A) ≤ a + 1 + A.length * (s + 2 * a + 5)
  | [], _ => by
    have : sz (vP f []) = 1 := sz_zero
    omega
  | [x], h => by
    have : sz (vP f [x]) ≤ a := h x (by simp)
    omega
  | x :: y :: r, h => by
    have ih := vP_sz hs (y :: r) fun z hz => h z (List.mem_cons_of_mem _ hz)
    have h1 := h x (by simp)
    have h2 := h y (by simp)
    have h3 := hs x
    have z1 := sz_sub y x
    have z2 := sz_mul (f x) (y - x)
    have z3 := sz_sub (vP f (y :: r)) (f x * (y - x))
    show sz (vP f (y :: r) - f x * (y - x)) ≤ _
    rw [List.length_cons (a := x), Nat.add_mul]
    omega
theorem prodP_mem {f : Rat → Rat} {a s : Nat} (hs : ∀ x, sz (f x) ≤ s) : ∀ (A : List Rat), (∀ x ∈ A, sz x ≤ a) → ∀ p ∈ prodP f A, p.1 ∈ A ∧ sz p.2 ≤ a + 1 + A.length * (s + 2 * a + 5)
  | [], _, p, h => by simp [prodP] at h
  | x :: r, hA, p, h => by
    rcases List.mem_cons.mp h with h | h
    · subst h
      exact ⟨List.mem_cons_self .., vP_sz hs _ hA⟩
    · obtain ⟨h1, h2⟩ := prodP_mem hs r (fun z hz => hA z (List.mem_cons_of_mem _ hz)) p h
      refine ⟨List.mem_cons_of_mem _ h1, ?_⟩
      rw [List.length_cons, Nat.add_mul]
      omega
/-- a curve that is the product of two -/
structure PrK (ks qs R : List (Rat × Rat)) : Prop where
  ok : KOk R
  sp : ∀ x, slopeK R x = slopeK ks x * slopeK qs x
theorem PrK.uniq {ks qs R S : List (Rat × Rat)} (h : PrK ks qs R) (h' : PrK ks qs S) : R = S := slopeK_uniq h.ok h'.ok fun x => by rw [h.sp, h'.sp]
theorem PrK.comm {ks qs R : List (Rat × Rat)} (h : PrK ks qs R) : PrK qs ks R := ⟨h.ok, fun x => by rw [h.sp, Rat.mul_comm]⟩
theorem prod_res {ks qs : List (Rat × Rat)} (o : KOk ks) (p : KOk qs) {A : List Rat} (hs : A.Pairwise (· < ·)) (hm : ∀ a, a ∈ A ↔ a ∈ ks.map (·.1) ++ qs.map (·.1)) {a s s' v v' : Nat} (z : KZ a s v ks) (z' : KZ a s' v' qs) (h1 : 1 ≤ s) (h2 : 1 ≤ s') :
    PrK ks qs (stR 0 (mulK ks qs A)) ∧ KZ a (s + s') (a + 1 + A.length * (s + s' + 2 * a + 5)) (stR 0 (mulK ks qs A)) ∧ (stR 0 (mulK ks qs A)).length ≤ A.length := by
  obtain ⟨w, e⟩ := mulK_ok o p hs hm
  have ok := straight_ok w
  have sp : ∀ x, slopeK (stR 0 (mulK ks qs A)) x = slopeK ks x * slopeK qs x := fun x => by rw [straight_slope w, e]
  have hf : ∀ x, sz (slopeK ks x * slopeK qs x) ≤ s + s' := fun x => by
    have a1 := slopeK_sz z h1 x
    have a2 := slopeK_sz z' h2 x
    have := sz_mul (slopeK ks x) (slopeK qs x)
    omega
  have hA : ∀ x ∈ A, sz x ≤ a := fun x hx => by
    rcases List.mem_append.mp ((hm x).mp hx) with h | h
    · obtain ⟨q, hq, rfl⟩ := List.mem_map.mp h
      exact z.am q hq
    · obtain ⟨q, hq, rfl⟩ := List.mem_map.mp h
      exact z'.am q hq
  have mem : ∀ q ∈ stR 0 (mulK ks qs A), q.1 ∈ A ∧ sz q.2 ≤ a + 1 + A.length * (s + s' + 2 * a + 5) := fun q hq => prodP_mem hf A hA q (stR_mem _ _ q hq)
  refine ⟨⟨ok, sp⟩, ⟨fun q hq => hA _ (mem q hq).1, fun k hk => ?_, fun q hq => (mem q hq).2⟩, ?_⟩
  · rw [← slope_at_knot ok hk, sp]
    exact hf _
  · have := stR_len (mulK ks qs A) 0
    unfold mulK at this
    rw [prodP_len] at this
    exact this
/-! ### the top -/
def topK (ks : List (Rat × Rat)) : Rat := (kAt ks (ks.length - 1)).1
theorem slS_lt1 : ∀ (r : List (Rat × Rat)) (b x : Rat), TOk b r → (∃ q ∈ r, x < q.1) → slS b r x < 1
  | [], _, _, _, ⟨q, h, _⟩ => by simp at h
  | p :: r, b, x, h, ⟨q, hq, hx⟩ => by
    have h1 := h.lt1
    show (if x < p.1 then b else slS (aft p r) r x) < 1
    split
    · exact h1
    · rename_i hn
      refine slS_lt1 r _ x h.2.2 ⟨q, ?_, hx⟩
      rcases List.mem_cons.mp hq with e | e
      · subst e; exact absurd hx hn
      · exact e
theorem mem_kAt {ks : List (Rat × Rat)} {p : Rat × Rat} (h : p ∈ ks) : ∃ k, k < ks.length ∧ p = kAt ks k := by
  obtain ⟨k, hk, rfl⟩ := List.mem_iff_getElem.mp h
  refine ⟨k, hk, ?_⟩
  unfold kAt
  rw [List.getElem?_eq_getElem hk]; rfl
theorem top_le {ks : List (Rat × Rat)} (o : KOk ks) (x : Rat) : (∀ p ∈ ks, p.1 ≤ x) ↔ topK ks ≤ x := by
  have hl := o.len
  constructor
  · exact fun h => h _ (kAt_mem (by omega))
  · intro h p hp
    obtain ⟨k, hk, rfl⟩ := mem_kAt hp
    exact Rat.le_trans (k_mono o (by omega) (by omega)) h
theorem slope_one {ks : List (Rat × Rat)} (o : KOk ks) (x : Rat) : slopeK ks x = 1 ↔ topK ks ≤ x := by
  rw [← top_le o, slopeK_slS ks o.ne]
  constructor
  · intro h p hp
    apply Classical.byContradiction
    intro hn
    have := slS_lt1 ks 0 x o.tok ⟨p, hp, Rat.not_le.mp hn⟩
    rw [h] at this
    exact absurd this (Rat.lt_irrefl)
  · exact slS_big ks 0 x o.tok
theorem one_mul_iff {a b : Rat} (a0 : 0 ≤ a) (a1 : a ≤ 1) (b0 : 0 ≤ b) (b1 : b ≤ 1) : a * b = 1 ↔ a = 1 ∧ b = 1 := by
  constructor
  · intro h
    have h1 := Rat.mul_le_mul_of_nonneg_left b1 a0
    have h2 := Rat.mul_le_mul_of_nonneg_right a1 b0
    rw [Rat.mul_one, h] at h1
    rw [Rat.one_mul, h] at h2
    exact ⟨Rat.le_antisymm a1 h1, Rat.le_antisymm b1 h2⟩
  · rintro ⟨rfl, rfl⟩
    exact Rat.one_mul 1
theorem PrK.top {ks qs R : List (Rat × Rat)} (o : KOk ks) (p : KOk qs) (h : PrK ks qs R) : topK R = if topK ks < topK qs then topK qs else topK ks := by
  have key : ∀ x, topK R ≤ x ↔ topK ks ≤ x ∧ topK qs ≤ x := fun x => by
    obtain ⟨a0, a1⟩ := slopeK_bounds o x
    obtain ⟨b0, b1⟩ := slopeK_bounds p x
    rw [← slope_one h.ok, ← slope_one o, ← slope_one p, h.sp, one_mul_iff a0 a1 b0 b1]
  have k1 := (key (topK R)).mp Rat.le_refl
  split
  · rename_i c
    exact Rat.le_antisymm ((key _).mpr ⟨Rat.le_of_lt c, Rat.le_refl⟩) k1.2
  · rename_i c
    exact Rat.le_antisymm ((key _).mpr ⟨Rat.le_refl, Rat.not_lt.mp c⟩) k1.1
/-! ### a unit -/
theorem unit_ok (l : Rat) : KOk [(l, l)] := ⟨by simp, fun k h => by simp at h, fun h => by simp at h, fun k h => by simp at h, fun k h => by simp at h, rfl⟩
theorem unit_slope (l x : Rat) : slopeK [(l, l)] x = if x < l then 0 else 1 := rfl
theorem unit_prod {ks : List (Rat × Rat)} (o : KOk ks) {l : Rat} (h : l ≤ (kAt ks 0).1) : PrK ks [(l, l)] ks := by
  refine ⟨o, fun x => ?_⟩
  rw [unit_slope]
  by_cases c : x < l
  · have : slopeK ks x = 0 := if_pos (by grind)
    rw [if_pos c, this, Rat.zero_mul]
  · rw [if_neg c, Rat.mul_one]
theorem unit_kz {l : Rat} {a : Nat} (h : sz l ≤ a) : KZ a 1 a [(l, l)] := ⟨fun p hp => by rw [List.mem_singleton.mp hp]; exact h, fun k hk => by simp at hk, fun p hp => by rw [List.mem_singleton.mp hp]; exact h⟩
theorem encK_gd (p : Rat × Rat) : (encK p).gd = true := by unfold encK; simp -implicitDefEqProofs [D.gd, D.gds, encQ_gd]
theorem encK_dep (p : Rat × Rat) : (encK p).dep = 2 := by unfold encK; simp -implicitDefEqProofs [D.dep, D.deps, encQ_dep]
theorem ks_self (ks : List (Rat × Rat)) : oEq (.fz (.tup (ks.map encK))) (.fz (.tup (ks.map encK))) = some (.fz (.bl true)) ∧ oNe (.fz (.tup (ks.map encK))) (.fz (.tup (ks.map encK))) = some (.fz (.bl false)) :=
  eq_self (by rw [D.gd]; exact gds_map encK_gd _) (by rw [D.dep]; have := deps_map (h := encK) (k := 2) (fun q => by rw [encK_dep]; omega) ks; omega)
end Q

set_option Elab.async false
set_option linter.all false
set_option maxRecDepth 100000
set_option maxHeartbeats 1000000
namespace Q
open PySem L2
/-! ### gaps of curves -/
section
variable {ks : List (Rat × Rat)} (o : KOk ks)
include o in
theorem slopeK_line2 (t : Rat) : ∃ p, Pos ks p t ∧ (p < ks.length → t < (kAt ks p).1) ∧ slopeK ks t = mL' ks p := by
  have hl := o.len
  unfold slopeK
  split
  · rename_i h
    exact ⟨0, ⟨by omega, fun z => absurd rfl z, fun _ => by grind⟩, fun _ => h, by unfold mL'; rw [if_pos rfl]⟩
  · rename_i h0
    have hge : (kAt ks 0).1 ≤ t := by grind
    split
    · rename_i i hs
      obtain ⟨hi, hp⟩ := seg_lt hs
      have hp := of_decide_eq_true hp
      refine ⟨i + 1, ⟨by omega, fun _ => ?_, fun _ => by grind⟩, fun _ => hp, ?_⟩
      · rw [Nat.add_sub_cancel]
        by_cases c : i = 0
        · subst c; exact hge
        · obtain ⟨k, rfl⟩ : ∃ k, i = k + 1 := ⟨i - 1, by omega⟩
          have := of_decide_eq_false (find_prev hs k (by omega))
          grind
      · unfold mL'
        rw [if_neg (by omega), if_pos (by omega), Nat.add_sub_cancel]
    · rename_i hs
      refine ⟨ks.length, ⟨Nat.le_refl _, fun _ => ?_, fun z => by omega⟩, fun z => by omega, ?_⟩
      · by_cases c : ks.length = 1
        · rw [c]; exact hge
        · have := List.find?_eq_none.mp hs (ks.length - 2) (List.mem_range.mpr (by omega))
          have e : ks.length - 2 + 1 = ks.length - 1 := by omega
          rw [e] at this
          have := mt decide_eq_true this
          grind
      · unfold mL'
        rw [if_neg (by omega), if_neg (by omega)]
include o in
theorem pos_val {p : Nat} {t : Rat} (h : Pos ks p t) : valK ks t = lineK ks p t := by
  obtain ⟨q, hq, e⟩ := valK_line o t
  have h1 : lineK ks q t ≤ lineK ks p t := h.max o hq.le
  have h2 := valK_ge o h.le t
  rw [e] at h2 ⊢
  exact Rat.le_antisymm h1 h2
include o in
theorem val_step {a b : Rat} (hab : a ≤ b) (hn : ∀ p ∈ ks, p.1 ≤ a ∨ b ≤ p.1) : valK ks b = valK ks a + slopeK ks a * (b - a) := by
  obtain ⟨p, hp, hlt, e⟩ := slopeK_line2 o a
  have hb : Pos ks p b := ⟨hp.le, fun h => Rat.le_trans (hp.lo h) hab, fun h => by
    rcases hn _ (kAt_mem h) with h1 | h1
    · have := hlt h
      grind
    · exact h1⟩
  rw [pos_val o hp, pos_val o hb, e]
  exact line_move p a b
include o in
theorem val_top {x : Rat} (h : topK ks ≤ x) : valK ks x = x := by
  have hl := o.len
  have hp : Pos ks ks.length x := ⟨Nat.le_refl _, fun _ => h, fun z => by omega⟩
  rw [pos_val o hp]
  unfold lineK mL'
  rw [if_neg (by omega), if_neg (by omega), ← o.last]
  grind
theorem val_low {x : Rat} (h : x ≤ (kAt ks 0).1) : valK ks x = (kAt ks 0).2 := if_pos h
include o in
theorem low_le {x : Rat} (h : ∀ p ∈ ks, x ≤ p.1) : valK ks x = (kAt ks 0).2 := val_low (h _ (kAt_mem o.len))
end
/-! ascending rows of amounts -/
theorem asc_ex : ∀ B : List Rat, ∃ A : List Rat, A.Pairwise (· < ·) ∧ ∀ a, a ∈ A ↔ a ∈ B
  | [] => ⟨[], List.Pairwise.nil, fun a => Iff.rfl⟩
  | b :: B => by
    obtain ⟨A, h1, h2⟩ := asc_ex B
    refine ⟨A.filter (fun x => decide (x < b)) ++ b :: A.filter (fun x => decide (b < x)), ?_, fun a => ?_⟩
    · rw [List.pairwise_append]
      refine ⟨h1.filter _, List.pairwise_cons.mpr ⟨fun x hx => of_decide_eq_true (List.mem_filter.mp hx).2, h1.filter _⟩, fun x hx y hy => ?_⟩
      have hx := of_decide_eq_true (List.mem_filter.mp hx).2
      rcases List.mem_cons.mp hy with h | h
      · rw [h]; exact hx
      · have := of_decide_eq_true (List.mem_filter.mp h).2
        grind
    · rw [List.mem_append, List.mem_cons, List.mem_filter, List.mem_filter, h2, List.mem_cons]
      constructor
      · rintro (h | h | h)
        · exact .inr h.1
        · exact .inl h
        · exact .inr h.1
      · rintro (h | h)
        · exact .inr (.inl h)
        · by_cases c1 : a < b
          · exact .inl ⟨h, decide_eq_true c1⟩
          · by_cases c2 : b < a
            · exact .inr (.inr ⟨h, decide_eq_true c2⟩)
            · exact .inr (.inl (by grind))
/-- an ascending row from x on with all amounts of B above x -/
theorem asc_from (B : List Rat) (x : Rat) : ∃ r : List Rat, (x :: r).Pairwise (· < ·) ∧ ∀ a ∈ B, a ≤ x ∨ a ∈ r := by
  obtain ⟨A, h1, h2⟩ := asc_ex B
  refine ⟨A.filter (fun y => decide (x < y)), List.pairwise_cons.mpr ⟨fun y hy => of_decide_eq_true (List.mem_filter.mp hy).2, h1.filter _⟩, fun a ha => ?_⟩
  by_cases c : x < a
  · exact .inr (List.mem_filter.mpr ⟨(h2 a).mpr ha, decide_eq_true c⟩)
  · exact .inl (by grind)
theorem asc_gap {a c : Rat} {r : List Rat} (h : (a :: c :: r).Pairwise (· < ·)) {z : Rat} (hz : z ≤ a ∨ z ∈ c :: r) : z ≤ a ∨ c ≤ z := by
  have h' := List.pairwise_cons.mp h
  have hc := List.pairwise_cons.mp h'.2
  rcases hz with h | h
  · exact .inl h
  · rcases List.mem_cons.mp h with h | h
    · exact .inr (by rw [h]; exact Rat.le_refl)
    · exact .inr (Rat.le_of_lt (hc.1 _ h))
theorem asc_next {a c : Rat} {r : List Rat} (h : (a :: c :: r).Pairwise (· < ·)) {z : Rat} (hz : z ≤ a ∨ z ∈ c :: r) : z ≤ c ∨ z ∈ r := by
  have h' := List.pairwise_cons.mp h
  rcases hz with h | h
  · exact .inl (Rat.le_of_lt (by have := h'.1 c (by simp); grind))
  · rcases List.mem_cons.mp h with h | h
    · exact .inl (by rw [h]; exact Rat.le_refl)
    · exact .inr h
theorem top_of {ks : List (Rat × Rat)} (o : KOk ks) {a : Rat} (h : ∀ p ∈ ks, p.1 ≤ a ∨ p.1 ∈ ([] : List Rat)) : topK ks ≤ a := by
  rcases h _ (kAt_mem (k := ks.length - 1) (by have := o.len; omega)) with h | h
  · exact h
  · simp at h
/-! the gaps at the knots bound all gaps -/
theorem gap_right {ks qs : List (Rat × Rat)} (o : KOk ks) (p : KOk qs) {L : Rat} (h0 : 0 ≤ L) : ∀ (r : List Rat) (a : Rat), (a :: r).Pairwise (· < ·) → (∀ z ∈ ks, z.1 ≤ a ∨ z.1 ∈ r) → (∀ z ∈ qs, z.1 ≤ a ∨ z.1 ∈ r) →
    (∀ y ∈ a :: r, valK qs y - valK ks y ≤ L) → ∀ x, a ≤ x → valK qs x - valK ks x ≤ L
  | [], a, _, h1, h2, _, x, hx => by
    rw [val_top o (Rat.le_trans (top_of o h1) hx), val_top p (Rat.le_trans (top_of p h2) hx)]
    grind
  | c :: r, a, hs, h1, h2, hL, x, hx => by
    have h' := List.pairwise_cons.mp hs
    have hac : a < c := h'.1 c (by simp)
    by_cases hxc : c ≤ x
    · exact gap_right o p h0 r c h'.2 (fun z hz => asc_next hs (h1 z hz)) (fun z hz => asc_next hs (h2 z hz)) (fun y hy => hL y (List.mem_cons_of_mem _ hy)) x hxc
    · have g1 : ∀ z ∈ ks, z.1 ≤ a ∨ c ≤ z.1 := fun z hz => asc_gap hs (h1 z hz)
      have g2 : ∀ z ∈ qs, z.1 ≤ a ∨ c ≤ z.1 := fun z hz => asc_gap hs (h2 z hz)
      have e1 := val_step o (Rat.le_of_lt hac) g1
      have e2 := val_step p (Rat.le_of_lt hac) g2
      have e3 := val_step o hx (fun z hz => by rcases g1 z hz with h | h <;> grind)
      have e4 := val_step p hx (fun z hz => by rcases g2 z hz with h | h <;> grind)
      have b1 := hL a (by simp)
      have b2 := hL c (by simp)
      rw [e3, e4]
      rw [e1, e2] at b2
      generalize slopeK ks a = s1 at *
      generalize slopeK qs a = s2 at *
      by_cases d : s2 ≤ s1
      · have := Rat.mul_le_mul_of_nonneg_right d (show 0 ≤ x - a by grind)
        grind
      · have := Rat.mul_le_mul_of_nonneg_right (show s1 ≤ s2 by grind) (show 0 ≤ c - x by grind)
        grind
theorem gap_all {ks qs : List (Rat × Rat)} (o : KOk ks) (p : KOk qs) {L : Rat} (h0 : 0 ≤ L) (hk : ∀ z ∈ ks, valK qs z.1 - valK ks z.1 ≤ L) (hq : ∀ z ∈ qs, valK qs z.1 - valK ks z.1 ≤ L) (x : Rat) : valK qs x - valK ks x ≤ L := by
  obtain ⟨A, h1, h2⟩ := asc_ex (ks.map (·.1) ++ qs.map (·.1))
  have hm : ∀ y ∈ A, valK qs y - valK ks y ≤ L := fun y hy => by
    rcases List.mem_append.mp ((h2 y).mp hy) with h | h
    · obtain ⟨z, hz, rfl⟩ := List.mem_map.mp h
      exact hk z hz
    · obtain ⟨z, hz, rfl⟩ := List.mem_map.mp h
      exact hq z hz
  have mk : ∀ z ∈ ks, z.1 ∈ A := fun z hz => (h2 _).mpr (List.mem_append_left _ (List.mem_map.mpr ⟨z, hz, rfl⟩))
  have mq : ∀ z ∈ qs, z.1 ∈ A := fun z hz => (h2 _).mpr (List.mem_append_right _ (List.mem_map.mpr ⟨z, hz, rfl⟩))
  cases A with
  | nil =>
    have := mk _ (kAt_mem o.len)
    simp at this
  | cons a r =>
    have low : ∀ z ∈ a :: r, a ≤ z := fun z hz => by
      rcases List.mem_cons.mp hz with h | h
      · rw [h]; exact Rat.le_refl
      · exact Rat.le_of_lt ((List.pairwise_cons.mp h1).1 z h)
    by_cases c : a ≤ x
    · refine gap_right o p h0 r a h1 (fun z hz => ?_) (fun z hz => ?_) hm x c
      · rcases List.mem_cons.mp (mk z hz) with h | h
        · exact .inl (by rw [h]; exact Rat.le_refl)
        · exact .inr h
      · rcases List.mem_cons.mp (mq z hz) with h | h
        · exact .inl (by rw [h]; exact Rat.le_refl)
        · exact .inr h
    · have b := hm a (by simp)
      rw [low_le o fun z hz => low _ (mk z hz), low_le p fun z hz => low _ (mq z hz)] at b
      rw [low_le o fun z hz => Rat.le_trans (by grind) (low _ (mk z hz)), low_le p fun z hz => Rat.le_trans (by grind) (low _ (mq z hz))]
      exact b
/-! products by one curve shrink the gaps -/
theorem shrink_num {Pa Qa fa ga Pc Qc fc gc s t h h2 d L : Rat} (hd : 0 ≤ d) (hh : h ≤ h2) (eP : Pc = Pa + s * h * d) (eQ : Qc = Qa + t * h * d) (ef : fc = fa + s * d) (eg : gc = ga + t * d) (hL : gc - fc ≤ L)
    (ih : Qc - Pc ≤ h2 * (gc - fc) + (1 - h2) * L) : Qa - Pa ≤ h * (ga - fa) + (1 - h) * L := by
  have k := mul_nn (show 0 ≤ h2 - h by grind) (show 0 ≤ L - (gc - fc) by grind)
  subst eP
  subst eQ
  subst ef
  subst eg
  grind
theorem shrink_at {ks qs hs P S : List (Rat × Rat)} (o : KOk ks) (p : KOk qs) (w : KOk hs) (hP : PrK ks hs P) (hS : PrK qs hs S) {L : Rat} (hL : ∀ x, valK qs x - valK ks x ≤ L) : ∀ (r : List Rat) (a : Rat), (a :: r).Pairwise (· < ·) →
    (∀ z ∈ ks ++ (qs ++ (hs ++ (P ++ S))), z.1 ≤ a ∨ z.1 ∈ r) → valK S a - valK P a ≤ slopeK hs a * (valK qs a - valK ks a) + (1 - slopeK hs a) * L
  | [], a, _, h => by
    have t1 := top_of o fun z hz => h z (by simp [hz])
    have t2 := top_of p fun z hz => h z (by simp [hz])
    have t3 := top_of w fun z hz => h z (by simp [hz])
    have t4 := top_of hP.ok fun z hz => h z (by simp [hz])
    have t5 := top_of hS.ok fun z hz => h z (by simp [hz])
    rw [val_top o t1, val_top p t2, val_top hP.ok t4, val_top hS.ok t5, (slope_one w a).mpr t3]
    grind
  | c :: r, a, hsr, h => by
    have h' := List.pairwise_cons.mp hsr
    have hac : a < c := h'.1 c (by simp)
    have ih := shrink_at o p w hP hS hL r c h'.2 fun z hz => asc_next hsr (h z hz)
    have g : ∀ z ∈ ks ++ (qs ++ (hs ++ (P ++ S))), z.1 ≤ a ∨ c ≤ z.1 := fun z hz => asc_gap hsr (h z hz)
    have e1 := val_step o (Rat.le_of_lt hac) fun z hz => g z (by simp [hz])
    have e2 := val_step p (Rat.le_of_lt hac) fun z hz => g z (by simp [hz])
    have e3 := val_step hP.ok (Rat.le_of_lt hac) fun z hz => g z (by simp [hz])
    have e4 := val_step hS.ok (Rat.le_of_lt hac) fun z hz => g z (by simp [hz])
    rw [hP.sp] at e3
    rw [hS.sp] at e4
    exact shrink_num (show 0 ≤ c - a by grind) (slopeK_mono w (Rat.le_of_lt hac)) e3 e4 e1 e2 (hL c) ih
theorem shrink {ks qs hs P S : List (Rat × Rat)} (o : KOk ks) (p : KOk qs) (w : KOk hs) (hP : PrK ks hs P) (hS : PrK qs hs S) {L : Rat} (hL : ∀ x, valK qs x - valK ks x ≤ L) (x : Rat) : valK S x - valK P x ≤ L := by
  obtain ⟨r, h1, h2⟩ := asc_from ((ks ++ (qs ++ (hs ++ (P ++ S)))).map (·.1)) x
  have h := shrink_at o p w hP hS hL r x h1 fun z hz => h2 _ (List.mem_map.mpr ⟨z, hz, rfl⟩)
  obtain ⟨b1, b2⟩ := slopeK_bounds w x
  have k := mul_nn b1 (show 0 ≤ L - (valK qs x - valK ks x) by have := hL x; grind)
  grind
/-! less slope, more value -/
theorem val_of_slope_at {ks P : List (Rat × Rat)} (o : KOk ks) (p : KOk P) (hl : ∀ x, slopeK P x ≤ slopeK ks x) : ∀ (r : List Rat) (a : Rat), (a :: r).Pairwise (· < ·) → (∀ z ∈ ks ++ P, z.1 ≤ a ∨ z.1 ∈ r) → valK ks a ≤ valK P a
  | [], a, _, h => by
    rw [val_top o (top_of o fun z hz => h z (by simp [hz])), val_top p (top_of p fun z hz => h z (by simp [hz]))]
    exact Rat.le_refl
  | c :: r, a, hsr, h => by
    have h' := List.pairwise_cons.mp hsr
    have hac : a < c := h'.1 c (by simp)
    have ih := val_of_slope_at o p hl r c h'.2 fun z hz => asc_next hsr (h z hz)
    have e1 := val_step o (Rat.le_of_lt hac) fun z hz => asc_gap hsr (h z (by simp [hz]))
    have e2 := val_step p (Rat.le_of_lt hac) fun z hz => asc_gap hsr (h z (by simp [hz]))
    have k := Rat.mul_le_mul_of_nonneg_right (hl a) (show 0 ≤ c - a by grind)
    rw [e1, e2] at ih
    grind
theorem val_of_slope {ks P : List (Rat × Rat)} (o : KOk ks) (p : KOk P) (hl : ∀ x, slopeK P x ≤ slopeK ks x) (x : Rat) : valK ks x ≤ valK P x := by
  obtain ⟨r, h1, h2⟩ := asc_from ((ks ++ P).map (·.1)) x
  exact val_of_slope_at o p hl r x h1 fun z hz => h2 _ (List.mem_map.mpr ⟨z, hz, rfl⟩)
theorem floor_ge {ks P : List (Rat × Rat)} (o : KOk ks) (p : KOk P) (hl : ∀ x, slopeK P x ≤ slopeK ks x) : (kAt ks 0).2 ≤ (kAt P 0).2 := by
  have h := val_of_slope o p hl (if (kAt ks 0).1 ≤ (kAt P 0).1 then (kAt ks 0).1 else (kAt P 0).1)
  rw [val_low (ks := ks) (by split <;> grind), val_low (ks := P) (by split <;> grind)] at h
  exact h
end Q

set_option Elab.async false
set_option linter.all false
set_option maxRecDepth 100000
set_option maxHeartbeats 1000000
namespace Q
open PySem L2
/-! ### xs.pop(i) as an expression -/
def mPopAt (i : Nat) (mk : EM O) : EM O := fun env => (lsAt i env).bind fun _ => (mk env).bind fun p => match p.1 with
  | .fz (.int z) => (lsAt i p.2).bind fun os => if 0 ≤ z ∧ z < 9223372036854775808 then (os[z.toNat]?).bind fun o => some (o, p.2.set i (.has (.ls (os.eraseIdx z.toNat)))) else none
  | _ => none
theorem zip_erase {α β : Type} {xs : List α} {us : List β} {k : Nat} {x : α} (h : xs.length = us.length) (hx : xs[k]? = some x) : ∃ y, us[k]? = some y ∧ (xs.zip us).Perm ((xs.eraseIdx k).zip (us.eraseIdx k) ++ [(x, y)]) := by
  obtain ⟨hk, rfl⟩ := List.getElem?_eq_some_iff.mp hx
  have hk2 : k < us.length := by omega
  refine ⟨us[k], List.getElem?_eq_getElem hk2, ?_⟩
  have e1 : xs = xs.take k ++ xs[k] :: xs.drop (k + 1) := by rw [← List.drop_eq_getElem_cons hk, List.take_append_drop]
  have e2 : us = us.take k ++ us[k] :: us.drop (k + 1) := by rw [← List.drop_eq_getElem_cons hk2, List.take_append_drop]
  have e3 : xs.zip us = (xs.take k).zip (us.take k) ++ (xs[k], us[k]) :: (xs.drop (k + 1)).zip (us.drop (k + 1)) := by
    calc xs.zip us = (xs.take k ++ xs[k] :: xs.drop (k + 1)).zip (us.take k ++ us[k] :: us.drop (k + 1)) := by rw [← e1, ← e2]
      _ = _ := by rw [zip_append' (by simp; omega), List.zip_cons_cons]
  have e4 : (xs.eraseIdx k).zip (us.eraseIdx k) = (xs.take k).zip (us.take k) ++ (xs.drop (k + 1)).zip (us.drop (k + 1)) := by
    rw [List.eraseIdx_eq_take_drop_succ, List.eraseIdx_eq_take_drop_succ, zip_append' (by simp; omega)]
  rw [e3, e4, List.append_assoc]
  refine List.Perm.append_left _ ?_
  exact (List.perm_append_comm (l₁ := [(xs[k], us[k])])
    )
section
variable {X : Cx} {a b e e' : Expr} {ma mb m mk : EM O} {x : Str} {p0 p1 cpos pos p : PySem.Pos} {i : Nat}
theorem qew_popAt (hN : X.N[i]? = some x) (hk : QV X e' mk) (hv : L2.Vis X.env.scope x := by first | exact Or.inl rfl | exact Or.inr (Or.inl rfl) | exact Or.inr (Or.inr rfl)) (hd : (x == ("__debug__" : Str)) = false := by decide)
    (hcd : (x == ("__classdict__" : Str)) = false := by decide)
    (hbase : attributeBase (.Name x p0) "pop" X.env (eval (.Name x p0) X.env) = eval (.Name x p0) X.env := by rfl)
    (hfew : ((backTo cpos (starEach [e'] X.env)).all (fun x => !x.1) && (backToKw cpos (keywordEach [] X.env)).all (fun x => x.1.isSome) && decide ([e'].length + ([] : List Keyword).length + (if ([] : List Keyword).isEmpty then 0 else 1) < 30)) = true := by rfl)
    (hline : (p1.endLine == cpos.line) = true := by rfl) (hst : starEach [e'] X.env = (false, eval e' X.env) :: starEach [] X.env := by rfl) (hplain : (backTo cpos (starEach [] X.env)).any (·.1) = false := by rfl) :
    QEw X (.Call (.Attribute (.Name x p0) "pop" p1) [e'] [] cpos) (mPopAt i mk) := by
  obtain ⟨u, u1, u2⟩ := hk
  refine ⟨_, pe_bm PySem.F.plainAttrs_list PySem.F.slot_list_pop PySem.F.type_list_pop mt_popAt (pe_var hN hv hd hcd) (pa_cons u1 pa_nil hst) hbase hfew hline hst hplain, fun H0 B0 ln Γ B H σ env s o env' em Q q => ?_⟩
  obtain ⟨os0, l0, em⟩ := bind_some em
  obtain ⟨r, em2, em⟩ := bind_some em
  obtain ⟨o2, env2⟩ := r
  cases o2 with
  | fz d =>
    cases d with
    | int k =>
      obtain ⟨os, l1, em⟩ := bind_some (show (lsAt i env2).bind _ = some (o, env') from em)
      split at em
      · rename_i hz
        obtain ⟨o', g0, em⟩ := bind_some em
        cases em
        obtain ⟨v, hv0, w⟩ := s.slot (lsAt_ok l0)
        obtain ⟨a0, vs0, rfl, g00, _⟩ := asO_ok w
        refine ⟨_, hv0, .inl ⟨rfl, vs0, SqL.of g00⟩, u2 H0 B0 ln Γ B H σ env s _ _ em2 _ fun z B1 H1 e1 e2 s1 w1 => ?_⟩
        have := vw_int w1
        subst this
        obtain ⟨a, us, hv1, g1, g2, g3⟩ := Stt.mutSlot (T := []) s1 (lsAt_ok l1)
        rw [hv0] at hv1
        cases hv1
        obtain ⟨y, y1, y2⟩ := zip_erase g2 g0
        have hlt : k.toNat < us.length := (List.getElem?_eq_some_iff.mp y1).1
        have hseq : seqIndex? k us.length = some k.toNat := by
          have e1 : (if k < 0 then k + (us.length : Int) else k) = k := if_neg (by omega)
          have e2 : (decide (0 ≤ k) && decide (k < (us.length : Int))) = true := by
            rw [decide_eq_true hz.1, decide_eq_true (by omega : k < (us.length : Int))]; rfl
          simp only [seqIndex?, e1, e2, if_true]
        have hlo : -(2 ^ 63) ≤ k := by
          rw [← p63]; omega
        have hhi : k < 2 ^ 63 := by
          rw [← p63]; exact hz.2
        refine ⟨a0, us, k, k.toNat, y, rfl, rfl, g1, hlo, hhi, hseq, y1, q y B1 _ e1 ?_⟩
        exact g3 (os.eraseIdx k.toNat) (us.eraseIdx k.toNat) [(_, y)] (by rw [List.length_eraseIdx, List.length_eraseIdx, g2]) (by rw [List.append_nil]; exact y2)
      · cases em
    | _ => cases em
  | _ => cases em
/-! an own class made of an argument that changes what the frame owns -/
theorem qew_make {k n : Nat} {f : Str} {mf : List D → Option D} {me : EM O} (G : InitOk X.prog X.w X.K X.mg X.base k x f n mf) (hr : Room (k + 1) X.A) (he0 : QEw X e me) (hg : Gl X x := by rfl) (hdb : (x == ("__debug__" : Str)) = false := by decide)
    (he : starEach [e] X.env = (false, eval e X.env) :: starEach [] X.env := by rfl) (hpl : (backTo pos (starEach [] X.env)).any (·.1) = false := by rfl) : QEw X (.Call (.Name x p) [e] [] pos) (mCall mf (mCons me mNil)) := by
  obtain ⟨C, g, fd, ps, ic, hx, mk, F, hb⟩ := G.ex
  obtain ⟨t, h1, h2⟩ := he0
  refine ⟨_, pe_make mk F hr hg hx hb .nil pass0 (pa_cons h1 pa_nil he) hdb he hpl, fun H0 B0 ln Γ B H σ env s o env' em Q q => ?_⟩
  obtain ⟨p, em1, em⟩ := bind_some em
  obtain ⟨d, em2, em⟩ := bind_some em
  cases em
  obtain ⟨d1, rfl⟩ := G.one _ _ em2
  obtain ⟨p0, em3, em1⟩ := bind_some em1
  cases em1
  refine h2 H0 B0 ln Γ B H σ env s _ _ em3 _ fun v0 B1 H1 e1 s0 => ?_
  have s1 : Stt X.K H0 B0 ln ([p0.1].zip [v0] ++ Γ) B1 H1 σ p0.2 := s0
  obtain ⟨B2, e3, r, s2⟩ := Stt.frzs rfl s1
  intro a dx ha hdx hne
  rw [List.append_nil]
  have hBa : B2 a = none := s2.w.bh.none ha
  have hBd : B2 dx = none := s2.w.bh.none hdx
  have hH : ∀ b u, H1 b = some u → (upd (upd H1 dx (.own a)) a (.ins C dx [])) b = some u := fun b u h => by
    have n1 : b ≠ a := fun z => by rw [z, ha] at h; cases h
    have n2 : b ≠ dx := fun z => by rw [z, hdx] at h; cases h
    rw [upd_ne n1, upd_ne n2]; exact h
  have hHa : (upd (upd H1 dx (.own a)) a (.ins C dx [])) a = some (.ins C dx []) := upd_same
  have hHd : (upd (upd H1 dx (.own a)) a (.ins C dx [])) dx = some (.own a) := by rw [upd_ne hne, upd_same]
  refine ⟨a, dx, [v0], B2, O.frzs [p0.1], d1, rfl, hHa, fun b u h => hH b u (s2.w.bh _ _ h), r, em2, fun v B' H' w r' => ⟨rfl, ?_⟩⟩
  have hB'a : B' a = none := w.nw a hBa (by rw [hHa]; simp)
  have hB'd : B' dx = none := w.nw dx hBd (by rw [hHd]; simp)
  have x1 : Ex B' (upd (upd B' dx (.own a)) a (.ins C dx [(f, v)])) := fun b u h => by
    have n1 : b ≠ a := fun z => by rw [z, hB'a] at h; cases h
    have n2 : b ≠ dx := fun z => by rw [z, hB'd] at h; cases h
    rw [upd_ne n1, upd_ne n2]; exact h
  have w2 : Wd H1 B2 (upd (upd B' dx (.own a)) a (.ins C dx [(f, v)])) (upd H' a (.ins C dx [(f, v)])) := by
    refine ⟨w.b0.trans x1, fun b u h => ?_, fun b u h => ?_, fun b h3 h4 => ?_⟩
    · by_cases n1 : b = a
      · subst n1; rw [upd_same] at h ⊢; exact h
      · rw [upd_ne n1] at h ⊢
        by_cases n2 : b = dx
        · subst n2
          rw [upd_same] at h
          cases h
          exact w.h0 _ _ hHd
        · rw [upd_ne n2] at h
          exact w.bh _ _ h
    · have n1 : b ≠ a := fun z => by rw [z, ha] at h; cases h
      rw [upd_ne n1]
      exact w.h0 _ _ (hH b u h)
    · have n1 : b ≠ a := fun z => h4 (by rw [z]; exact ha)
      have n2 : b ≠ dx := fun z => h4 (by rw [z]; exact hdx)
      rw [upd_ne n1, upd_ne n2]
      refine w.nw b h3 fun z => h4 ?_
      rw [upd_ne n1, upd_ne n2] at z
      exact z
  refine q (.ref a) _ _ ((e1.trans e3).trans w2.b0) ((s2.step w2).push ?_)
  rw [Rp]
  refine ⟨a, C, dx, [v], rfl, ?_, ?_, ic, rfl, Rps.one (Rp.mono x1 _ _ r')⟩
  · rw [upd_same]; rfl
  · rw [upd_ne hne, upd_same]
end
@[simp] theorem e_mPopAt {i : Nat} {mk : EM O} {env : En} : mPopAt i mk env = (lsAt i env).bind fun _ => (mk env).bind fun p => match p.1 with
  | .fz (.int z) => (lsAt i p.2).bind fun os => if 0 ≤ z ∧ z < 9223372036854775808 then (os[z.toNat]?).bind fun o => some (o, p.2.set i (.has (.ls (os.eraseIdx z.toNat)))) else none
  | _ => none := rfl
end Q

set_option Elab.async false
set_option linter.all false
set_option maxRecDepth 100000
set_option maxHeartbeats 1000000
namespace Q
open PySem L2
/-! ### convex functions given by points -/
theorem mul_pos' {a b : Rat} (h1 : 0 < a) (h2 : 0 < b) : 0 < a * b := Rat.mul_pos h1 h2
def LinOn (F : Rat → Rat) (x y : Rat) : Prop := ∃ s : Rat, ∀ t, x ≤ t → t ≤ y → F t = F x + s * (t - x)
theorem LinOn.sub {F : Rat → Rat} {x y x' y' : Rat} (h : LinOn F x y) (h1 : x ≤ x') (h2 : y' ≤ y) (h3 : x' ≤ y') : LinOn F x' y' := by
  obtain ⟨s, hs⟩ := h
  refine ⟨s, fun t a b => ?_⟩
  rw [hs t (Rat.le_trans h1 a) (Rat.le_trans b h2), hs x' h1 (Rat.le_trans h3 h2)]
  grind
theorem LinOn.congr {F G : Rat → Rat} {x y : Rat} (h : LinOn F x y) (hxy : x ≤ y) (e : ∀ t, x ≤ t → t ≤ y → G t = F t) : LinOn G x y := by
  obtain ⟨s, hs⟩ := h
  refine ⟨s, fun t a b => ?_⟩
  rw [e t a b, e x Rat.le_refl hxy]
  exact hs t a b
theorem lin_val {ks : List (Rat × Rat)} (o : KOk ks) {x y : Rat} (h : ∀ p ∈ ks, p.1 ≤ x ∨ y ≤ p.1) : LinOn (valK ks) x y :=
  ⟨slopeK ks x, fun t a b => val_step o a fun p hp => by rcases h p hp with h | h <;> grind⟩
theorem lin_ge {f g : Rat → Rat} {x y : Rat} (hf : LinOn f x y) (hg : LinOn g x y) (hxy : x < y) (h1 : g x ≤ f x) (h2 : g y ≤ f y) : ∀ t, x ≤ t → t ≤ y → g t ≤ f t := fun t a b => by
  obtain ⟨s, hs⟩ := hf
  obtain ⟨u, hu⟩ := hg
  have e1 := hs t a b
  have e2 := hu t a b
  have e3 := hs y (Rat.le_of_lt hxy) Rat.le_refl
  have e4 := hu y (Rat.le_of_lt hxy) Rat.le_refl
  by_cases c : u ≤ s
  · have := Rat.mul_le_mul_of_nonneg_right c (show 0 ≤ t - x by grind)
    grind
  · have := Rat.mul_le_mul_of_nonneg_right (show s ≤ u by grind) (show 0 ≤ y - t by grind)
    grind
structure Cvx (F : Rat → Rat) : Prop where
  mono : ∀ a b, a ≤ b → F a ≤ F b
  lip : ∀ a b, a ≤ b → F b - F a ≤ b - a
  chord : ∀ a b c, a ≤ b → b ≤ c → (F b - F a) * (c - a) ≤ (F c - F a) * (b - a)
theorem cvx_val {ks : List (Rat × Rat)} (o : KOk ks) : Cvx (valK ks) := ⟨fun a b h => (valK_mono o h).1, fun a b h => (valK_mono o h).2.1, fun a b c h1 h2 => valK_chord o h1 h2⟩
/-! points of a function -/
structure Pts (F : Rat → Rat) (ps : List (Rat × Rat)) : Prop where
  val : ∀ i, i < ps.length → (kAt ps i).2 = F (kAt ps i).1
  asc : ∀ i, i + 1 < ps.length → (kAt ps i).1 < (kAt ps (i + 1)).1
  lin : ∀ i, i + 1 < ps.length → LinOn F (kAt ps i).1 (kAt ps (i + 1)).1
theorem Pts.nil (F : Rat → Rat) : Pts F [] := ⟨fun i h => by simp at h, fun i h => by simp at h, fun i h => by simp at h⟩
theorem kAt_app {ps qs : List (Rat × Rat)} {i : Nat} (h : i < ps.length) : kAt (ps ++ qs) i = kAt ps i := by
  unfold kAt
  rw [List.getElem?_append_left h]
theorem kAt_last {ps : List (Rat × Rat)} {q : Rat × Rat} : kAt (ps ++ [q]) ps.length = q := by
  unfold kAt
  rw [List.getElem?_append_right (Nat.le_refl _), Nat.sub_self]; rfl
theorem Pts.snoc {F : Rat → Rat} {ps : List (Rat × Rat)} (h : Pts F ps) {q : Rat × Rat} (hv : q.2 = F q.1) (hn : ps ≠ [] → (kAt ps (ps.length - 1)).1 < q.1 ∧ LinOn F (kAt ps (ps.length - 1)).1 q.1) : Pts F (ps ++ [q]) := by
  have hl : (ps ++ [q]).length = ps.length + 1 := by simp
  refine ⟨fun i hi => ?_, fun i hi => ?_, fun i hi => ?_⟩
  · rw [hl] at hi
    by_cases c : i < ps.length
    · rw [kAt_app c]; exact h.val i c
    · have : i = ps.length := by omega
      subst this
      rw [kAt_last]; exact hv
  · rw [hl] at hi
    by_cases c : i + 1 < ps.length
    · rw [kAt_app c, kAt_app (by omega)]; exact h.asc i c
    · have e : i + 1 = ps.length := by omega
      rw [kAt_app (by omega), e, kAt_last]
      have := (hn (fun z => by rw [z] at e; simp at e)).1
      rwa [show ps.length - 1 = i by omega] at this
  · rw [hl] at hi
    by_cases c : i + 1 < ps.length
    · rw [kAt_app c, kAt_app (by omega)]; exact h.lin i c
    · have e : i + 1 = ps.length := by omega
      rw [kAt_app (by omega), e, kAt_last]
      have := (hn (fun z => by rw [z] at e; simp at e)).2
      rwa [show ps.length - 1 = i by omega] at this
theorem Pts.tail {F : Rat → Rat} {p : Rat × Rat} {r : List (Rat × Rat)} (h : Pts F (p :: r)) : Pts F r :=
  ⟨fun i hi => h.val (i + 1) (by simp; omega), fun i hi => h.asc (i + 1) (by simp; omega), fun i hi => h.lin (i + 1) (by simp; omega)⟩
theorem slP_le {F : Rat → Rat} (cv : Cvx F) {p q r : Rat × Rat} (h1 : p.1 < q.1) (h2 : q.1 < r.1) (e1 : p.2 = F p.1) (e2 : q.2 = F q.1) (e3 : r.2 = F r.1) : slP p q ≤ slP q r := by
  have m1 := slP_mul h1
  have m2 := slP_mul h2
  have ch := cv.chord p.1 q.1 r.1 (Rat.le_of_lt h1) (Rat.le_of_lt h2)
  rw [← e1, ← e2, ← e3] at ch
  generalize slP p q = u at *
  generalize slP q r = w at *
  refine Rat.not_lt.mp fun hlt => ?_
  have k := mul_pos' (mul_pos' (show 0 < u - w by grind) (show 0 < r.1 - q.1 by grind)) (show 0 < q.1 - p.1 by grind)
  have e4 : r.2 - p.2 = u * (q.1 - p.1) + w * (r.1 - q.1) := by grind
  rw [e4, ← m1] at ch
  grind
theorem slP_ge0 {F : Rat → Rat} (cv : Cvx F) {p q : Rat × Rat} (h1 : p.1 < q.1) (e1 : p.2 = F p.1) (e2 : q.2 = F q.1) : 0 ≤ slP p q ∧ slP p q ≤ 1 := by
  have m1 := slP_mul h1
  have a1 := cv.mono p.1 q.1 (Rat.le_of_lt h1)
  have a2 := cv.lip p.1 q.1 (Rat.le_of_lt h1)
  rw [← e1, ← e2] at a1 a2
  generalize slP p q = u at *
  constructor
  · refine Rat.not_lt.mp fun hlt => ?_
    have k := mul_pos' (show 0 < -u by grind) (show 0 < q.1 - p.1 by grind)
    grind
  · refine Rat.not_lt.mp fun hlt => ?_
    have k := mul_pos' (show 0 < u - 1 by grind) (show 0 < q.1 - p.1 by grind)
    grind
theorem kAt0 (p : Rat × Rat) (r : List (Rat × Rat)) : kAt (p :: r) 0 = p := rfl
theorem kAt1 (p q : Rat × Rat) (r : List (Rat × Rat)) : kAt (p :: q :: r) 1 = q := rfl
theorem pts_wok {F : Rat → Rat} (cv : Cvx F) : ∀ (r : List (Rat × Rat)) (p : Rat × Rat) (b : Rat), Pts F (p :: r) → (kAt (p :: r) r.length).1 = (kAt (p :: r) r.length).2 → b ≤ aft p r → WOk b (p :: r)
  | [], p, b, h, hl, hb => ⟨hb, hl, rfl⟩
  | q :: r, p, b, h, hl, hb => by
    have h1 : p.1 < q.1 := h.asc 0 (by simp)
    have v1 : p.2 = F p.1 := h.val 0 (by simp)
    have v2 : q.2 = F q.1 := h.val 1 (by simp)
    refine ⟨hb, h1, pts_wok cv r q _ h.tail hl ?_⟩
    show slP p q ≤ aft q r
    cases r with
    | nil => exact (slP_ge0 cv h1 v1 v2).2
    | cons z r => exact slP_le cv h1 (h.asc 1 (by simp)) v1 v2 (h.val 2 (by simp))
theorem aft_bd {F : Rat → Rat} (cv : Cvx F) {p : Rat × Rat} {r : List (Rat × Rat)} (h : Pts F (p :: r)) : 0 ≤ aft p r := by
  cases r with
  | nil => show (0 : Rat) ≤ 1; decide
  | cons q r => exact (slP_ge0 cv (h.asc 0 (by simp)) (h.val 0 (by simp)) (h.val 1 (by simp))).1
/-- along the points the function is as the slopes say -/
theorem pts_line {F : Rat → Rat} : ∀ (r : List (Rat × Rat)) (p : Rat × Rat) (b : Rat), Pts F (p :: r) → (∀ x, (kAt (p :: r) r.length).1 ≤ x → F x = x) → ∀ a c, p.1 ≤ a → a ≤ c → (∀ q ∈ p :: r, q.1 ≤ a ∨ c ≤ q.1) → F c = F a + slS b (p :: r) a * (c - a)
  | [], p, b, h, hi, a, c, h1, h2, hn => by
    have e : slS b [p] a = 1 := by
      show (if a < p.1 then b else 1) = 1
      rw [if_neg (by grind)]
    rw [e, hi a h1, hi c (Rat.le_trans h1 h2)]
    grind
  | q :: r, p, b, h, hi, a, c, h1, h2, hn => by
    have e : slS b (p :: q :: r) a = slS (slP p q) (q :: r) a := by
      show (if a < p.1 then b else _) = _
      rw [if_neg (by grind)]; rfl
    rw [e]
    by_cases ha : a < q.1
    · have e2 : slS (slP p q) (q :: r) a = slP p q := if_pos ha
      have hc : c ≤ q.1 := by
        rcases hn q (by simp) with h | h
        · grind
        · exact h
      have hpq : p.1 < q.1 := h.asc 0 (by simp)
      obtain ⟨s, hs⟩ := h.lin 0 (by simp)
      have hs : ∀ t, p.1 ≤ t → t ≤ q.1 → F t = F p.1 + s * (t - p.1) := hs
      have v1 : p.2 = F p.1 := h.val 0 (by simp)
      have v2 : q.2 = F q.1 := h.val 1 (by simp)
      have es : slP p q = s := slP_of hpq (by rw [v1, v2, hs q.1 (Rat.le_of_lt hpq) Rat.le_refl]; grind)
      rw [e2, es, hs a h1 (Rat.le_of_lt ha), hs c (Rat.le_trans h1 h2) hc]
      grind
    · exact pts_line r q _ h.tail hi a c (by grind) h2 fun z hz => hn z (List.mem_cons_of_mem _ hz)
theorem pts_shape {F : Rat → Rat} {p : Rat × Rat} {r : List (Rat × Rat)} (h : Pts F (p :: r)) (lo : ∀ x, x ≤ p.1 → F x = p.2) (hi : ∀ x, (kAt (p :: r) r.length).1 ≤ x → F x = x) {a c : Rat} (hac : a ≤ c) (hn : ∀ q ∈ p :: r, q.1 ≤ a ∨ c ≤ q.1) :
    F c = F a + slS 0 (p :: r) a * (c - a) := by
  by_cases h1 : p.1 ≤ a
  · exact pts_line r p 0 h hi a c h1 hac hn
  · have hc : c ≤ p.1 := by
      rcases hn p (by simp) with h | h
      · exact absurd h h1
      · exact h
    have e : slS 0 (p :: r) a = 0 := if_pos (by grind)
    rw [e, lo a (by grind), lo c hc, Rat.zero_mul, Rat.add_zero]
theorem shape_val_at {F : Rat → Rat} {ps R : List (Rat × Rat)} (o : KOk R) (hs : ∀ x, slopeK R x = slS 0 ps x) (line : ∀ a c, a ≤ c → (∀ q ∈ ps, q.1 ≤ a ∨ c ≤ q.1) → F c = F a + slS 0 ps a * (c - a)) (top : ∀ x, (∀ q ∈ ps, q.1 ≤ x) → F x = x) :
    ∀ (r : List Rat) (a : Rat), (a :: r).Pairwise (· < ·) → (∀ z ∈ ps ++ R, z.1 ≤ a ∨ z.1 ∈ r) → valK R a = F a
  | [], a, _, h => by
    rw [val_top o (top_of o fun z hz => h z (by simp [hz])), top a fun z hz => by
      rcases h z (by simp [hz]) with h | h
      · exact h
      · simp at h]
  | c :: r, a, hsr, h => by
    have h' := List.pairwise_cons.mp hsr
    have hac : a < c := h'.1 c (by simp)
    have ih := shape_val_at o hs line top r c h'.2 fun z hz => asc_next hsr (h z hz)
    have e1 := val_step o (Rat.le_of_lt hac) fun z hz => asc_gap hsr (h z (by simp [hz]))
    have e2 := line a c (Rat.le_of_lt hac) fun z hz => asc_gap hsr (h z (by simp [hz]))
    rw [hs] at e1
    rw [e1, e2] at ih
    grind
theorem kAt_low {F : Rat → Rat} {ps : List (Rat × Rat)} (h : Pts F ps) {i : Nat} : ∀ d : Nat, i + d < ps.length → (kAt ps i).1 ≤ (kAt ps (i + d)).1
  | 0, _ => Rat.le_refl
  | d + 1, hd => Rat.le_trans (kAt_low h d (by omega)) (Rat.le_of_lt (h.asc (i + d) (by omega)))
/-- the curve of the points -/
theorem pts_curve {F : Rat → Rat} (cv : Cvx F) {ps : List (Rat × Rat)} (h : Pts F ps) (hne : ps ≠ []) (lo : ∀ x, x ≤ (kAt ps 0).1 → F x = F (kAt ps 0).1) (hi : ∀ x, (kAt ps (ps.length - 1)).1 ≤ x → F x = x) :
    WOk 0 ps ∧ KOk (stR 0 ps) ∧ ∀ x, valK (stR 0 ps) x = F x := by
  cases ps with
  | nil => exact absurd rfl hne
  | cons p r =>
    have el : (p :: r).length - 1 = r.length := by simp
    rw [el] at hi
    have vl := h.val r.length (by simp)
    have w : WOk 0 (p :: r) := pts_wok cv r p 0 h (by rw [vl, hi _ Rat.le_refl]) (aft_bd cv h)
    have o := straight_ok w
    refine ⟨w, o, fun x => ?_⟩
    have lo' : ∀ x, x ≤ p.1 → F x = p.2 := fun x hx => by
      have v0 : p.2 = F p.1 := h.val 0 (by simp)
      rw [v0]; exact lo x hx
    obtain ⟨A, h1, h2⟩ := asc_from (((p :: r) ++ stR 0 (p :: r)).map (·.1)) x
    refine shape_val_at o (fun x => straight_slope w x) (fun a c hac hn => pts_shape h lo' hi hac hn) (fun x hx => ?_) A x h1 fun z hz => h2 _ (List.mem_map.mpr ⟨z, hz, rfl⟩)
    exact hi x (hx _ (kAt_mem (by simp)))
/-! values tell the curve -/
theorem next_ex (B : List Rat) (x : Rat) : ∃ c, x < c ∧ ∀ a ∈ B, a ≤ x ∨ c ≤ a := by
  obtain ⟨r, h1, h2⟩ := asc_from B x
  cases r with
  | nil => exact ⟨x + 1, by grind, fun a ha => by
      rcases h2 a ha with h | h
      · exact .inl h
      · simp at h⟩
  | cons c r => exact ⟨c, (List.pairwise_cons.mp h1).1 c (by simp), fun a ha => asc_gap h1 (h2 a ha)⟩
theorem val_uniq {R S : List (Rat × Rat)} (o : KOk R) (p : KOk S) (h : ∀ x, valK R x = valK S x) : R = S :=
  slopeK_uniq o p fun x => by
    obtain ⟨c, hc, hn⟩ := next_ex ((R ++ S).map (·.1)) x
    have e1 := val_step o (Rat.le_of_lt hc) fun z hz => hn z.1 (List.mem_map.mpr ⟨z, by simp [hz], rfl⟩)
    have e2 := val_step p (Rat.le_of_lt hc) fun z hz => hn z.1 (List.mem_map.mpr ⟨z, by simp [hz], rfl⟩)
    rw [h c, h x, e2] at e1
    have e3 : slopeK S x * (c - x) = slopeK R x * (c - x) := by grind
    have hne : c - x ≠ 0 := by grind
    have e4 : slopeK S x * (c - x) / (c - x) = slopeK R x * (c - x) / (c - x) := by rw [e3]
    rw [Rat.mul_div_cancel hne, Rat.mul_div_cancel hne] at e4
    exact e4.symm
/-! ### the greater of two -/
def mx (a b : Rat) : Rat := if a < b then b else a
theorem mx_l (a b : Rat) : a ≤ mx a b := by unfold mx; split <;> grind
theorem mx_r (a b : Rat) : b ≤ mx a b := by unfold mx; split <;> grind
theorem mx_or (a b : Rat) : mx a b = a ∨ mx a b = b := by unfold mx; split <;> simp
theorem mx_comm (a b : Rat) : mx a b = mx b a := by unfold mx; split <;> split <;> grind
theorem mx_self (a : Rat) : mx a a = a := by unfold mx; split <;> rfl
theorem cvx_mx {f g : Rat → Rat} (cf : Cvx f) (cg : Cvx g) : Cvx (fun x => mx (f x) (g x)) := by
  refine ⟨fun a b h => ?_, fun a b h => ?_, fun a b c h1 h2 => ?_⟩
  · have l1 := mx_l (f b) (g b)
    have l2 := mx_r (f b) (g b)
    have m1 := cf.mono a b h
    have m2 := cg.mono a b h
    show mx (f a) (g a) ≤ mx (f b) (g b)
    rcases mx_or (f a) (g a) with e | e <;> rw [e] <;> grind
  · have l1 := mx_l (f a) (g a)
    have l2 := mx_r (f a) (g a)
    have m1 := cf.lip a b h
    have m2 := cg.lip a b h
    show mx (f b) (g b) - mx (f a) (g a) ≤ b - a
    rcases mx_or (f b) (g b) with e | e <;> rw [e] <;> grind
  · have l1 := mx_l (f a) (g a)
    have l2 := mx_r (f a) (g a)
    have l3 := mx_l (f c) (g c)
    have l4 := mx_r (f c) (g c)
    have m1 := cf.chord a b c h1 h2
    have m2 := cg.chord a b c h1 h2
    show (mx (f b) (g b) - mx (f a) (g a)) * (c - a) ≤ (mx (f c) (g c) - mx (f a) (g a)) * (b - a)
    generalize mx (f a) (g a) = Fa at *
    generalize mx (f c) (g c) = Fc at *
    have hab : 0 ≤ b - a := by grind
    have hbc : 0 ≤ c - b := by grind
    rcases mx_or (f b) (g b) with e | e
    · rw [e]
      have k1 := mul_nn (show 0 ≤ Fa - f a by grind) hbc
      have k2 := mul_nn (show 0 ≤ Fc - f c by grind) hab
      grind
    · rw [e]
      have k1 := mul_nn (show 0 ≤ Fa - g a by grind) hbc
      have k2 := mul_nn (show 0 ≤ Fc - g c by grind) hab
      grind
theorem lin_mx {f g : Rat → Rat} {x y : Rat} (hf : LinOn f x y) (hg : LinOn g x y) (hxy : x < y) (h : (g x ≤ f x ∧ g y ≤ f y) ∨ (f x ≤ g x ∧ f y ≤ g y)) : LinOn (fun t => mx (f t) (g t)) x y := by
  rcases h with ⟨h1, h2⟩ | ⟨h1, h2⟩
  · have := lin_ge hf hg hxy h1 h2
    exact hf.congr (Rat.le_of_lt hxy) fun t a b => by
      show mx (f t) (g t) = f t
      unfold mx
      rw [if_neg (Rat.not_lt.mpr (this t a b))]
  · have := lin_ge hg hf hxy h1 h2
    exact hg.congr (Rat.le_of_lt hxy) fun t a b => by
      show mx (f t) (g t) = g t
      have := this t a b
      unfold mx
      split <;> grind
/-- the amount at which two straight lines cross -/
def crosB (gl gr : Rat) : Prop := (0 < gl ∧ gr < 0) ∨ (gl < 0 ∧ 0 < gr)
def crosX (gl gr x y : Rat) : Rat := x + gl / (gl - gr) * (y - x)
theorem cros_no {f g : Rat → Rat} {x y : Rat} (hf : LinOn f x y) (hg : LinOn g x y) (hxy : x < y) (h : ¬ crosB (f x - g x) (f y - g y)) : LinOn (fun t => mx (f t) (g t)) x y := by
  refine lin_mx hf hg hxy ?_
  unfold crosB at h
  by_cases c1 : g x ≤ f x
  · by_cases c2 : g y ≤ f y
    · exact .inl ⟨c1, c2⟩
    · refine .inr ⟨?_, by grind⟩
      refine Rat.not_lt.mp fun hlt => h (.inl ⟨by grind, by grind⟩)
  · refine .inr ⟨by grind, ?_⟩
    refine Rat.not_lt.mp fun hlt => h (.inr ⟨by grind, by grind⟩)
theorem cros_yes {f g : Rat → Rat} {x y : Rat} (hf : LinOn f x y) (hg : LinOn g x y) (hxy : x < y) (h : crosB (f x - g x) (f y - g y)) :
    x < crosX (f x - g x) (f y - g y) x y ∧ crosX (f x - g x) (f y - g y) x y < y ∧ f (crosX (f x - g x) (f y - g y) x y) = g (crosX (f x - g x) (f y - g y) x y) ∧
    LinOn (fun t => mx (f t) (g t)) x (crosX (f x - g x) (f y - g y) x y) ∧ LinOn (fun t => mx (f t) (g t)) (crosX (f x - g x) (f y - g y) x y) y := by
  obtain ⟨m, hm⟩ : ∃ m, m = crosX (f x - g x) (f y - g y) x y := ⟨_, rfl⟩
  rw [← hm]
  have hx : 0 < y - x := by grind
  have hne : (f x - g x) - (f y - g y) ≠ 0 := by
    rcases h with h | h <;> grind
  obtain ⟨w, hw⟩ : ∃ w, w = (f x - g x) / ((f x - g x) - (f y - g y)) := ⟨_, rfl⟩
  have em : m = x + w * (y - x) := by rw [hm, hw]; rfl
  have ew : w * ((f x - g x) - (f y - g y)) = f x - g x := by rw [hw, Rat.div_mul_cancel hne]
  have w0 : 0 < w ∧ w < 1 := by
    rcases h with ⟨h1, h2⟩ | ⟨h1, h2⟩
    · constructor
      · refine Rat.not_le.mp fun hle => ?_
        have k := mul_nn (show 0 ≤ -w by grind) (show 0 ≤ (f x - g x) - (f y - g y) by grind)
        grind
      · refine Rat.not_le.mp fun hle => ?_
        have k := mul_nn (show 0 ≤ w - 1 by grind) (show 0 ≤ (f x - g x) - (f y - g y) by grind)
        grind
    · constructor
      · refine Rat.not_le.mp fun hle => ?_
        have k := mul_nn (show 0 ≤ -w by grind) (show 0 ≤ (f y - g y) - (f x - g x) by grind)
        grind
      · refine Rat.not_le.mp fun hle => ?_
        have k := mul_nn (show 0 ≤ w - 1 by grind) (show 0 ≤ (f y - g y) - (f x - g x) by grind)
        grind
  have k1 := mul_pos' w0.1 hx
  have k2 := mul_pos' (show 0 < 1 - w by grind) hx
  have x1 : x < m := by grind
  have x2 : m < y := by grind
  have efg : f m = g m := by
    obtain ⟨s, hs⟩ := hf
    obtain ⟨u, hu⟩ := hg
    have e1 := hs m (Rat.le_of_lt x1) (Rat.le_of_lt x2)
    have e2 := hu m (Rat.le_of_lt x1) (Rat.le_of_lt x2)
    have e3 := hs y (Rat.le_of_lt hxy) Rat.le_refl
    have e4 := hu y (Rat.le_of_lt hxy) Rat.le_refl
    have e5 : m - x = w * (y - x) := by grind
    rw [e5] at e1 e2
    have e6 : f y - g y = (f x - g x) + (s - u) * (y - x) := by grind
    have e7 : f m - g m = (f x - g x) + w * ((s - u) * (y - x)) := by grind
    have e8 : (s - u) * (y - x) = (f y - g y) - (f x - g x) := by grind
    rw [e8] at e7
    grind
  refine ⟨x1, x2, efg, lin_mx (hf.sub Rat.le_refl (Rat.le_of_lt x2) (Rat.le_of_lt x1)) (hg.sub Rat.le_refl (Rat.le_of_lt x2) (Rat.le_of_lt x1)) x1 ?_, lin_mx (hf.sub (Rat.le_of_lt x1) Rat.le_refl (Rat.le_of_lt x2)) (hg.sub (Rat.le_of_lt x1) Rat.le_refl (Rat.le_of_lt x2)) x2 ?_⟩
  · rcases h with h | h
    · exact .inl ⟨by grind, by grind⟩
    · exact .inr ⟨by grind, by grind⟩
  · rcases h with h | h
    · exact .inr ⟨by grind, by grind⟩
    · exact .inl ⟨by grind, by grind⟩
theorem valK_kz {ks : List (Rat × Rat)} (o : KOk ks) {a s v : Nat} (z : KZ a s v ks) (x : Rat) : sz (valK ks x) ≤ v + s + sz x + a + 3 := by
  unfold valK
  split
  · have := z.va _ (kAt_mem o.len)
    omega
  · split
    · rename_i i hs
      obtain ⟨hi, _⟩ := seg_lt hs
      have h1 := z.va _ (kAt_mem (k := i) (by omega))
      have h2 := z.am _ (kAt_mem (k := i) (by omega))
      have h3 := z.sl i (by omega)
      have z1 := sz_sub x (kAt ks i).1
      have z2 := sz_mul (sl ks i) (x - (kAt ks i).1)
      have z3 := sz_add (kAt ks i).2 (sl ks i * (x - (kAt ks i).1))
      unfold pieceV
      omega
    · omega
end Q

set_option Elab.async false
set_option linter.all false
set_option maxRecDepth 100000
set_option maxHeartbeats 1000000
namespace Q
open PySem L2
/-! ### meets: the hull below points -/
theorem nn_of_mul {E d : Rat} (hd : 0 < d) (h : 0 ≤ E * d) : 0 ≤ E := by
  refine Rat.not_lt.mp fun hlt => ?_
  have := mul_pos' (show 0 < -E by grind) hd
  grind
def bef : List (Rat × Rat) → Rat
  | q :: u :: _ => slP u q
  | _ => 0
/-- the stack, the last point first -/
def Stk : List (Rat × Rat) → Prop
  | t :: q :: r => q.1 < t.1 ∧ bef (q :: r) ≤ slP q t ∧ Stk (q :: r)
  | _ => True
def Abv : List (Rat × Rat) → Rat × Rat → Prop
  | t :: q :: r, z => (q.1 ≤ z.1 ∧ z.1 ≤ t.1 ∧ q.2 + slP q t * (z.1 - q.1) ≤ z.2) ∨ Abv (q :: r) z
  | [t], z => z = t
  | [], _ => False
theorem abv_pop {p t q : Rat × Rat} {r : List (Rat × Rat)} (h1 : q.1 < t.1) (h2 : t.1 < p.1) (hs : slP t p ≤ slP q t) {z : Rat × Rat} (h : Abv (p :: t :: q :: r) z) : Abv (p :: q :: r) z := by
  have m1 := slP_mul h1
  have m2 := slP_mul h2
  have m3 := slP_mul (p := q) (q := p) (by grind)
  rcases h with ⟨a1, a2, a3⟩ | h
  · refine .inl ⟨by grind, a2, ?_⟩
    generalize slP q t = u at *
    generalize slP t p = w at *
    generalize slP q p = o at *
    have e : o * (p.1 - q.1) = u * (t.1 - q.1) + w * (p.1 - t.1) := by grind
    have k : 0 ≤ (u - w) * (t.1 - q.1) * (p.1 - z.1) := mul_nn (mul_nn (by grind) (by grind)) (by grind)
    have id : (u * (t.1 - q.1) + w * (z.1 - t.1) - o * (z.1 - q.1)) * (p.1 - q.1) = (u - w) * (t.1 - q.1) * (p.1 - z.1) := by
      have : (u * (t.1 - q.1) + w * (z.1 - t.1) - o * (z.1 - q.1)) * (p.1 - q.1) = (u * (t.1 - q.1) + w * (z.1 - t.1)) * (p.1 - q.1) - o * (p.1 - q.1) * (z.1 - q.1) := by grind
      rw [this, e]
      grind
    rw [← id] at k
    have := nn_of_mul (show 0 < p.1 - q.1 by grind) k
    grind
  · rcases h with ⟨a1, a2, a3⟩ | h
    · refine .inl ⟨a1, by grind, ?_⟩
      generalize slP q t = u at *
      generalize slP t p = w at *
      generalize slP q p = o at *
      have e : o * (p.1 - q.1) = u * (t.1 - q.1) + w * (p.1 - t.1) := by grind
      have k : 0 ≤ (u - w) * (p.1 - t.1) := mul_nn (by grind) (by grind)
      have id : (u - o) * (p.1 - q.1) = (u - w) * (p.1 - t.1) := by grind
      rw [← id] at k
      have k2 := nn_of_mul (show 0 < p.1 - q.1 by grind) k
      have k3 := mul_nn k2 (show 0 ≤ z.1 - q.1 by grind)
      grind
    · exact .inr h
theorem abv_push {p : Rat × Rat} : ∀ {s : List (Rat × Rat)} {z : Rat × Rat}, Abv s z → Abv (p :: s) z
  | [], _, h => False.elim h
  | _ :: _, _, h => .inr h
theorem abv_self (p : Rat × Rat) : ∀ s : List (Rat × Rat), (∀ q ∈ s.head?, q.1 < p.1) → Abv (p :: s) p
  | [], _ => rfl
  | q :: r, h => .inl ⟨Rat.le_of_lt (h q rfl), Rat.le_refl, by rw [slP_mul (h q rfl)]; grind⟩
theorem stk_push {p : Rat × Rat} {s : List (Rat × Rat)} (h : Stk s) (h1 : ∀ q ∈ s.head?, q.1 < p.1 ∧ bef s ≤ slP q p) : Stk (p :: s) := by
  cases s with
  | nil => trivial
  | cons q r => exact ⟨(h1 q rfl).1, (h1 q rfl).2, h⟩
theorem stk_pop {t : Rat × Rat} {s : List (Rat × Rat)} (h : Stk (t :: s)) : Stk s := by
  cases s with
  | nil => trivial
  | cons q r => exact h.2.2
/-- the points of a stack in order -/
theorem stk_wok : ∀ (s : List (Rat × Rat)) (t : Rat × Rat) (r : List (Rat × Rat)), Stk (t :: s) → bef (t :: s) ≤ aft t r → nxt t r → WOk (aft t r) r → WOk 0 ((t :: s).reverse ++ r)
  | [], t, r, _, hb, hn, hw => ⟨hb, hn, hw⟩
  | q :: s, t, r, h, hb, hn, hw => by
    have e : (t :: q :: s).reverse ++ r = (q :: s).reverse ++ (t :: r) := by simp
    rw [e]
    refine stk_wok s q (t :: r) h.2.2 h.2.1 h.1 ?_
    exact ⟨hb, hn, hw⟩
theorem wok_asc : ∀ (r : List (Rat × Rat)) (p : Rat × Rat) (b : Rat), WOk b (p :: r) → ∀ z ∈ p :: r, p.1 ≤ z.1
  | [], p, b, _, z, hz => by rw [List.mem_singleton.mp hz]; exact Rat.le_refl
  | q :: r, p, b, h, z, hz => by
    rcases List.mem_cons.mp hz with e | e
    · rw [e]; exact Rat.le_refl
    · exact Rat.le_trans (Rat.le_of_lt h.2.1) (wok_asc r q _ h.2.2 z e)
theorem wok_val {R : List (Rat × Rat)} (o : KOk R) : ∀ (r : List (Rat × Rat)) (p : Rat × Rat) (b : Rat), WOk b (p :: r) → (∀ x, p.1 ≤ x → slopeK R x = slS b (p :: r) x) → (∀ z ∈ R, z.1 ≤ p.1 ∨ z ∈ p :: r) → ∀ q ∈ p :: r, valK R q.1 = q.2
  | [], p, b, h, hs, hR, q, hq => by
    rw [List.mem_singleton.mp hq, val_top o ((top_le o p.1).mp fun z hz => by
      rcases hR z hz with h | h
      · exact h
      · rw [List.mem_singleton.mp h]; exact Rat.le_refl)]
    exact h.2.1
  | t :: r, p, b, h, hs, hR, q, hq => by
    have hpt : p.1 < t.1 := h.2.1
    have asc := wok_asc r t _ h.2.2
    have sl2 : ∀ x, p.1 ≤ x → slopeK R x = slS (slP p t) (t :: r) x := fun x hx => by
      rw [hs x hx]
      show (if x < p.1 then b else _) = _
      rw [if_neg (by grind)]; rfl
    have ih := wok_val o r t (slP p t) h.2.2 (fun x hx => sl2 x (by grind)) fun z hz => by
      rcases hR z hz with h | h
      · exact .inl (by grind)
      · rcases List.mem_cons.mp h with e | e
        · rw [e]; exact .inl (Rat.le_of_lt hpt)
        · exact .inr e
    rcases List.mem_cons.mp hq with e | e
    · subst e
      have e1 := val_step o (Rat.le_of_lt hpt) fun z hz => by
        rcases hR z hz with h | h
        · exact .inl h
        · rcases List.mem_cons.mp h with e | e
          · rw [e]; exact .inl Rat.le_refl
          · exact .inr (asc z e)
      have e2 : slS (slP q t) (t :: r) q.1 = slP q t := if_pos hpt
      have m := slP_mul hpt
      rw [ih t (by simp), sl2 q.1 Rat.le_refl, e2, m] at e1
      grind
    · exact ih q e
/-- values of the curve of points at the points -/
theorem wok_vals {ps : List (Rat × Rat)} (h : WOk 0 ps) : ∀ q ∈ ps, valK (stR 0 ps) q.1 = q.2 := by
  cases ps with
  | nil => intro q hq; simp at hq
  | cons p r => exact wok_val (straight_ok h) r p 0 h (fun x _ => straight_slope h x) fun z hz => .inr (stR_mem _ _ z hz)
theorem abv_val {F : Rat → Rat} (cv : Cvx F) : ∀ (s : List (Rat × Rat)), Stk s → (∀ q ∈ s, F q.1 = q.2) → ∀ z, Abv s z → F z.1 ≤ z.2
  | [], _, _, z, h => False.elim h
  | [t], _, hv, z, h => by
    have h : z = t := h
    rw [h, hv t (by simp)]; exact Rat.le_refl
  | t :: q :: r, hs, hv, z, h => by
    rcases h with ⟨a1, a2, a3⟩ | h
    · have c := cv.chord q.1 z.1 t.1 a1 a2
      have m := slP_mul hs.1
      rw [hv q (by simp), hv t (by simp), ← m] at c
      generalize slP q t = u at *
      have k : 0 ≤ (u * (z.1 - q.1) - (F z.1 - q.2)) * (t.1 - q.1) := by grind
      have := nn_of_mul (show 0 < t.1 - q.1 by have := hs.1; grind) k
      grind
    · exact abv_val cv (q :: r) hs.2.2 (fun x hx => hv x (List.mem_cons_of_mem _ hx)) z h
/-! a convex function below a curve at its knots is below it -/
theorem below_at {T : Rat → Rat} (cT : Cvx T) {R : List (Rat × Rat)} (o : KOk R) : ∀ (r : List Rat) (a : Rat), (a :: r).Pairwise (· < ·) → (∀ z ∈ R, z.1 ≤ a ∨ z.1 ∈ r) → (∀ y ∈ a :: r, T y ≤ valK R y) → ∀ x, a ≤ x → T x ≤ valK R x
  | [], a, _, h1, hL, x, hx => by
    have t := top_of o h1
    have b := hL a (by simp)
    rw [val_top o t] at b
    rw [val_top o (Rat.le_trans t hx)]
    have := cT.lip a x hx
    grind
  | c :: r, a, hs, h1, hL, x, hx => by
    have h' := List.pairwise_cons.mp hs
    have hac : a < c := h'.1 c (by simp)
    by_cases hxc : c ≤ x
    · exact below_at cT o r c h'.2 (fun z hz => asc_next hs (h1 z hz)) (fun y hy => hL y (List.mem_cons_of_mem _ hy)) x hxc
    · have g1 : ∀ z ∈ R, z.1 ≤ a ∨ c ≤ z.1 := fun z hz => asc_gap hs (h1 z hz)
      have e1 := val_step o (Rat.le_of_lt hac) g1
      have e3 := val_step o hx (fun z hz => by rcases g1 z hz with h | h <;> grind)
      have b1 := hL a (by simp)
      have b2 := hL c (by simp)
      have ch := cT.chord a x c hx (by grind)
      rw [e1] at b2
      rw [e3]
      generalize slopeK R a = s at *
      generalize valK R a = Ra at *
      have k1 := mul_nn (show 0 ≤ Ra - T a by grind) (show 0 ≤ c - x by grind)
      have k2 := mul_nn (show 0 ≤ Ra + s * (c - a) - T c by grind) (show 0 ≤ x - a by grind)
      have k : 0 ≤ (Ra + s * (x - a) - T x) * (c - a) := by grind
      have := nn_of_mul (show 0 < c - a by grind) k
      grind
theorem below_all {T : Rat → Rat} (cT : Cvx T) {R : List (Rat × Rat)} (o : KOk R) (h : ∀ z ∈ R, T z.1 ≤ valK R z.1) (x : Rat) : T x ≤ valK R x := by
  obtain ⟨A, h1, h2⟩ := asc_ex (R.map (·.1))
  have hm : ∀ y ∈ A, T y ≤ valK R y := fun y hy => by
    obtain ⟨z, hz, rfl⟩ := List.mem_map.mp ((h2 y).mp hy)
    exact h z hz
  have mk : ∀ z ∈ R, z.1 ∈ A := fun z hz => (h2 _).mpr (List.mem_map.mpr ⟨z, hz, rfl⟩)
  cases A with
  | nil =>
    have := mk _ (kAt_mem o.len)
    simp at this
  | cons a r =>
    have low : ∀ z ∈ a :: r, a ≤ z := fun z hz => by
      rcases List.mem_cons.mp hz with h | h
      · rw [h]; exact Rat.le_refl
      · exact Rat.le_of_lt ((List.pairwise_cons.mp h1).1 z h)
    by_cases c : a ≤ x
    · refine below_at cT o r a h1 (fun z hz => ?_) hm x c
      rcases List.mem_cons.mp (mk z hz) with h | h
      · exact .inl (by rw [h]; exact Rat.le_refl)
      · exact .inr h
    · have b := hm a (by simp)
      have m := cT.mono x a (by grind)
      rw [low_le o fun z hz => low _ (mk z hz)] at b
      rw [low_le o fun z hz => Rat.le_trans (by grind) (low _ (mk z hz))]
      grind
/-! ### the meet of two curves -/
def mn (a b : Rat) : Rat := if b < a then b else a
theorem mn_l (a b : Rat) : mn a b ≤ a := by unfold mn; split <;> grind
theorem mn_r (a b : Rat) : mn a b ≤ b := by unfold mn; split <;> grind
theorem mn_or (a b : Rat) : mn a b = a ∨ mn a b = b := by unfold mn; split <;> simp
theorem mn_ge {a b c : Rat} (h1 : c ≤ a) (h2 : c ≤ b) : c ≤ mn a b := by rcases mn_or a b with e | e <;> rw [e] <;> assumption
structure MeetK (ks qs R : List (Rat × Rat)) : Prop where
  ok : KOk R
  l : ∀ x, valK R x ≤ valK ks x
  r : ∀ x, valK R x ≤ valK qs x
  max : ∀ T, KOk T → (∀ x, valK T x ≤ valK ks x) → (∀ x, valK T x ≤ valK qs x) → ∀ x, valK T x ≤ valK R x
  on : ∀ p ∈ R, p.2 = valK ks p.1 ∨ p.2 = valK qs p.1
theorem MeetK.uniq {ks qs R S : List (Rat × Rat)} (h : MeetK ks qs R) (h' : MeetK ks qs S) : R = S :=
  val_uniq h.ok h'.ok fun x => Rat.le_antisymm (h'.max R h.ok h.l h.r x) (h.max S h'.ok h'.l h'.r x)
theorem MeetK.comm {ks qs R : List (Rat × Rat)} (h : MeetK ks qs R) : MeetK qs ks R := ⟨h.ok, h.r, h.l, fun T o a b => h.max T o b a, fun p hp => (h.on p hp).symm⟩
theorem meet_self {ks : List (Rat × Rat)} (o : KOk ks) : MeetK ks ks ks :=
  ⟨o, fun _ => Rat.le_refl, fun _ => Rat.le_refl, fun _ _ h _ => h, fun p hp => .inl (by
    obtain ⟨k, hk, rfl⟩ := mem_kAt hp
    rw [pos_val o (p := k) ⟨by omega, fun h => k_mono o (by omega) hk, fun _ => Rat.le_refl⟩, line_at o hk])⟩
theorem val_knot {ks : List (Rat × Rat)} (o : KOk ks) {p : Rat × Rat} (hp : p ∈ ks) : valK ks p.1 = p.2 := by
  obtain ⟨k, hk, rfl⟩ := mem_kAt hp
  rw [pos_val o (p := k) ⟨by omega, fun h => k_mono o (by omega) hk, fun _ => Rat.le_refl⟩, line_at o hk]
/-- the stack after all points -/
structure StkI (ks qs : List (Rat × Rat)) (Z : List Rat) (s : List (Rat × Rat)) : Prop where
  stk : Stk s
  mem : ∀ q ∈ s, q.1 ∈ Z ∧ q.2 = mn (valK ks q.1) (valK qs q.1)
  abv : ∀ y ∈ Z, Abv s (y, mn (valK ks y) (valK qs y))
theorem meet_res {ks qs : List (Rat × Rat)} (o : KOk ks) (p : KOk qs) {A : List Rat} (hm : ∀ a, a ∈ A ↔ a ∈ ks.map (·.1) ++ qs.map (·.1)) {t : Rat × Rat} {s : List (Rat × Rat)} (h : StkI ks qs A (t :: s)) (ht : ∀ a ∈ A, a ≤ t.1) :
    WOk 0 (t :: s).reverse ∧ MeetK ks qs (stR 0 (t :: s).reverse) := by
  have mk : ∀ q ∈ ks, q.1 ∈ A := fun q hq => (hm _).mpr (List.mem_append_left _ (List.mem_map.mpr ⟨q, hq, rfl⟩))
  have mq : ∀ q ∈ qs, q.1 ∈ A := fun q hq => (hm _).mpr (List.mem_append_right _ (List.mem_map.mpr ⟨q, hq, rfl⟩))
  have t1 : t.1 = t.2 := by
    rw [(h.mem t (by simp)).2, val_top o ((top_le o _).mp fun q hq => ht _ (mk q hq)), val_top p ((top_le p _).mp fun q hq => ht _ (mq q hq))]
    rcases mn_or t.1 t.1 with e | e <;> exact e.symm
  have w : WOk 0 (t :: s).reverse := by
    have := stk_wok s t [] h.stk (by
      show bef (t :: s) ≤ 1
      cases s with
      | nil => show (0 : Rat) ≤ 1; decide
      | cons q r =>
        show slP q t ≤ 1
        have hlt := h.stk.1
        have m := slP_mul hlt
        have e := (h.mem q (by simp)).2
        have g : q.1 ≤ q.2 := by rw [e]; exact mn_ge (valK_self o q.1) (valK_self p q.1)
        generalize slP q t = u at *
        have k : 0 ≤ (1 - u) * (t.1 - q.1) := by grind
        have := nn_of_mul (show 0 < t.1 - q.1 by grind) k
        grind) t1 rfl
    rwa [List.append_nil] at this
  have ok := straight_ok w
  have vals := wok_vals w
  have cv := cvx_val ok
  have hpts : ∀ q ∈ stR 0 (t :: s).reverse, q ∈ t :: s := fun q hq => List.mem_reverse.mp (stR_mem _ _ q hq)
  have vs : ∀ q ∈ t :: s, valK (stR 0 (t :: s).reverse) q.1 = q.2 := fun q hq => vals q (List.mem_reverse.mpr hq)
  have le : ∀ y ∈ A, valK (stR 0 (t :: s).reverse) y ≤ mn (valK ks y) (valK qs y) := fun y hy => abv_val cv _ h.stk vs _ (h.abv y hy)
  have inA : ∀ q ∈ stR 0 (t :: s).reverse, q.1 ∈ A := fun q hq => (h.mem q (hpts q hq)).1
  refine ⟨w, ok, fun x => ?_, fun x => ?_, fun T oT h1 h2 x => ?_, fun q hq => ?_⟩
  · have g := gap_all o ok (L := 0) Rat.le_refl (fun z hz => by have := le _ (mk z hz); have := mn_l (valK ks z.1) (valK qs z.1); grind) (fun z hz => by have := le _ (inA z hz); have := mn_l (valK ks z.1) (valK qs z.1); grind) x
    grind
  · have g := gap_all p ok (L := 0) Rat.le_refl (fun z hz => by have := le _ (mq z hz); have := mn_r (valK ks z.1) (valK qs z.1); grind) (fun z hz => by have := le _ (inA z hz); have := mn_r (valK ks z.1) (valK qs z.1); grind) x
    grind
  · refine below_all (cvx_val oT) ok (fun z hz => ?_) x
    rw [vs z (hpts z hz), (h.mem z (hpts z hz)).2]
    exact mn_ge (h1 _) (h2 _)
  · rw [(h.mem q (hpts q hq)).2]
    exact mn_or _ _
end Q

set_option Elab.async false
set_option linter.all false
set_option maxRecDepth 100000
set_option maxHeartbeats 4000000
namespace Lw
open PySem L2 Q
abbrev d_ZERO : D := .tup [.int 0, .int 1]
abbrev d_ONE : D := .tup [.int 1, .int 1]
noncomputable def b1__wall : SM :=
  sNext
noncomputable def m__wall : SM :=
  sWhile (mTru oTru (mC (.bl true))) (b1__wall)
noncomputable def f__wall : List D → Option D := runD 1 1 m__wall
noncomputable def m_common_divisor : SM :=
  sRet (mL gGcd (mCons (mView 0) (mCons (mView 1) (mNil))))
noncomputable def f_common_divisor : List D → Option D := runD 2 2 m_common_divisor
noncomputable def m_make_ratio : SM :=
  sSeq (sIf (mTst (m2 oEq (mView 1) (mC (.int 0)))) (sNever) (sNext))
  (sSeq (sAsg 2 (mCall f_common_divisor (mCons (mName 0) (mCons (mName 1) (mNil)))))
  (sSeq (sIf (mTst (m2 oLt (mView 1) (mC (.int 0)))) (sAsg 2 (m1 oNeg (mView 2))) (sNext))
  (sRet (mTup (mCons (m2 oFdiv (mView 0) (mView 2)) (mCons (m2 oFdiv (mView 1) (mView 2)) (mNil)))))))
noncomputable def f_make_ratio : List D → Option D := runD 2 3 m_make_ratio
noncomputable def m_add : SM :=
  sRet (mCall f_make_ratio (mCons (m2 oAdd (m2 oMul (m2 oIx (mView 0) (mC (.int 0))) (m2 oIx (mView 1) (mC (.int 1)))) (m2 oMul (m2 oIx (mView 1) (mC (.int 0))) (m2 oIx (mView 0) (mC (.int 1))))) (mCons (m2 oMul (m2 oIx (mView 0) (mC (.int 1))) (m2 oIx (mView 1) (mC (.int 1)))) (mNil))))
noncomputable def f_add : List D → Option D := runD 2 2 m_add
noncomputable def m_subtract : SM :=
  sRet (mCall f_make_ratio (mCons (m2 oSub (m2 oMul (m2 oIx (mView 0) (mC (.int 0))) (m2 oIx (mView 1) (mC (.int 1)))) (m2 oMul (m2 oIx (mView 1) (mC (.int 0))) (m2 oIx (mView 0) (mC (.int 1))))) (mCons (m2 oMul (m2 oIx (mView 0) (mC (.int 1))) (m2 oIx (mView 1) (mC (.int 1)))) (mNil))))
noncomputable def f_subtract : List D → Option D := runD 2 2 m_subtract
noncomputable def m_multiply : SM :=
  sRet (mCall f_make_ratio (mCons (m2 oMul (m2 oIx (mView 0) (mC (.int 0))) (m2 oIx (mView 1) (mC (.int 0)))) (mCons (m2 oMul (m2 oIx (mView 0) (mC (.int 1))) (m2 oIx (mView 1) (mC (.int 1)))) (mNil))))
noncomputable def f_multiply : List D → Option D := runD 2 2 m_multiply
noncomputable def m_divide : SM :=
  sSeq (sIf (mTst (m2 oEq (m2 oIx (mView 1) (mC (.int 0))) (mC (.int 0)))) (sNever) (sNext))
  (sRet (mCall f_make_ratio (mCons (m2 oMul (m2 oIx (mView 0) (mC (.int 0))) (m2 oIx (mView 1) (mC (.int 1)))) (mCons (m2 oMul (m2 oIx (mView 0) (mC (.int 1))) (m2 oIx (mView 1) (mC (.int 0)))) (mNil)))))
noncomputable def f_divide : List D → Option D := runD 2 2 m_divide
noncomputable def m_compare : SM :=
  sSeq (sAsg 2 (m2 oMul (m2 oIx (mView 0) (mC (.int 0))) (m2 oIx (mView 1) (mC (.int 1)))))
  (sSeq (sAsg 3 (m2 oMul (m2 oIx (mView 1) (mC (.int 0))) (m2 oIx (mView 0) (mC (.int 1)))))
  (sSeq (sIf (mTst (m2 oLt (mView 2) (mView 3))) (sRet (m1 oNeg (mC (.int 1)))) (sNext))
  (sSeq (sIf (mTst (m2 oGt (mView 2) (mView 3))) (sRet (mC (.int 1))) (sNext))
  (sRet (mC (.int 0))))))
noncomputable def f_compare : List D → Option D := runD 2 4 m_compare
noncomputable def m_line_slope : SM :=
  sRet (mCall f_divide (mCons (mCall f_subtract (mCons (mFz (m2 oIx (mView 1) (mC (.int 1)))) (mCons (mFz (m2 oIx (mView 0) (mC (.int 1)))) (mNil)))) (mCons (mCall f_subtract (mCons (mFz (m2 oIx (mView 1) (mC (.int 0)))) (mCons (mFz (m2 oIx (mView 0) (mC (.int 0)))) (mNil)))) (mNil))))
noncomputable def f_line_slope : List D → Option D := runD 2 2 m_line_slope
noncomputable def b1_value_at : SM :=
  sIf (mTst (m2 oLe (mCall f_compare (mCons (mName 1) (mCons (mFz (m2 oIx (m2 oIx (mView 0) (mView 2)) (mC (.int 0)))) (mNil)))) (mC (.int 0)))) (sSeq (sAsg 3 (mCall f_line_slope (mCons (mFz (m2 oIx (mView 0) (m2 oSub (mView 2) (mC (.int 1))))) (mCons (mFz (m2 oIx (mView 0) (mView 2))) (mNil)))))
  (sRet (mCall f_add (mCons (mFz (m2 oIx (m2 oIx (mView 0) (m2 oSub (mView 2) (mC (.int 1)))) (mC (.int 1)))) (mCons (mCall f_multiply (mCons (mName 3) (mCons (mCall f_subtract (mCons (mName 1) (mCons (mFz (m2 oIx (m2 oIx (mView 0) (m2 oSub (mView 2) (mC (.int 1)))) (mC (.int 0)))) (mNil)))) (mNil)))) (mNil)))))) (sNext)
noncomputable def m_value_at : SM :=
  sSeq (sIf (mTst (m2 oLe (mCall f_compare (mCons (mName 1) (mCons (mFz (m2 oIx (m2 oIx (mView 0) (mC (.int 0))) (mC (.int 0)))) (mNil)))) (mC (.int 0)))) (sRet (mFz (m2 oIx (m2 oIx (mView 0) (mC (.int 0))) (mC (.int 1))))) (sNext))
  (sSeq (sFor (mR2 (mCons (mC (.int 1)) (mCons (mL gLen (mCons (mView 0) (mNil))) (mNil)))) (gsName 2) (b1_value_at))
  (sRet (mName 1)))
noncomputable def f_value_at : List D → Option D := runD 2 4 m_value_at
noncomputable def b1_slope_at : SM :=
  sIf (mTst (m2 oLt (mCall f_compare (mCons (mName 1) (mCons (mFz (m2 oIx (m2 oIx (mView 0) (mView 2)) (mC (.int 0)))) (mNil)))) (mC (.int 0)))) (sRet (mCall f_line_slope (mCons (mFz (m2 oIx (mView 0) (m2 oSub (mView 2) (mC (.int 1))))) (mCons (mFz (m2 oIx (mView 0) (mView 2))) (mNil))))) (sNext)
noncomputable def m_slope_at : SM :=
  sSeq (sIf (mTst (m2 oLt (mCall f_compare (mCons (mName 1) (mCons (mFz (m2 oIx (m2 oIx (mView 0) (mC (.int 0))) (mC (.int 0)))) (mNil)))) (mC (.int 0)))) (sRet (mC d_ZERO)) (sNext))
  (sSeq (sFor (mR2 (mCons (mC (.int 1)) (mCons (mL gLen (mCons (mView 0) (mNil))) (mNil)))) (gsName 2) (b1_slope_at))
  (sRet (mC d_ONE)))
noncomputable def f_slope_at : List D → Option D := runD 2 3 m_slope_at
noncomputable def b1_first_wrong : SM :=
  sSeq (sIf (mTst (m2 oGt (mView 2) (mC (.int 0)))) (sSeq (sIf (mTst (m2 oLe (mCall f_compare (mCons (mFz (m2 oIx (m2 oIx (mView 0) (mView 2)) (mC (.int 0)))) (mCons (mFz (m2 oIx (m2 oIx (mView 0) (m2 oSub (mView 2) (mC (.int 1)))) (mC (.int 0)))) (mNil)))) (mC (.int 0)))) (sRet (mName 2)) (sNext))
  (sSeq (sAsg 3 (mCall f_line_slope (mCons (mFz (m2 oIx (mView 0) (m2 oSub (mView 2) (mC (.int 1))))) (mCons (mFz (m2 oIx (mView 0) (mView 2))) (mNil)))))
  (sSeq (sIf (mOr (mTst (m2 oGe (mCall f_compare (mCons (mName 3) (mCons (mC d_ONE) (mNil)))) (mC (.int 0)))) (mTst (m2 oLe (mCall f_compare (mCons (mName 3) (mCons (mName 1) (mNil)))) (mC (.int 0))))) (sRet (mName 2)) (sNext))
  (sAsg 1 (mName 3))))) (sNext))
  (sIf (mAnd (mTst (m2 oEq (mView 2) (m2 oSub (mL gLen (mCons (mView 0) (mNil))) (mC (.int 1))))) (mTst (m2 oNe (mCall f_compare (mCons (mFz (m2 oIx (m2 oIx (mView 0) (mView 2)) (mC (.int 0)))) (mCons (mFz (m2 oIx (m2 oIx (mView 0) (mView 2)) (mC (.int 1)))) (mNil)))) (mC (.int 0))))) (sRet (mName 2)) (sNext))
noncomputable def m_first_wrong : SM :=
  sSeq (sAsg 1 (mC d_ZERO))
  (sSeq (sFor (mR1 (mCons (mL gLen (mCons (mView 0) (mNil))) (mNil))) (gsName 2) (b1_first_wrong))
  (sRet (mC .non)))
noncomputable def f_first_wrong : List D → Option D := runD 1 4 m_first_wrong
noncomputable def b1_straightened : SM :=
  sSeq (sAsg 4 (mC d_ONE))
  (sSeq (sIf (mTst (m2 oLt (m2 oAdd (mView 3) (mC (.int 1))) (mL gLen (mCons (mView 0) (mNil))))) (sAsg 4 (mCall f_line_slope (mCons (mFz (m2 oIx (mView 0) (mView 3))) (mCons (mFz (m2 oIx (mView 0) (m2 oAdd (mView 3) (mC (.int 1))))) (mNil))))) (sNext))
  (sSeq (sIf (mTst (m2 oNe (mCall f_compare (mCons (mName 2) (mCons (mName 4) (mNil)))) (mC (.int 0)))) (sApp 1 (mFz (m2 oIx (mView 0) (mView 3)))) (sNext))
  (sAsg 2 (mName 4))))
noncomputable def m_straightened : SM :=
  sSeq (sAsg 1 (mLst (mNil)))
  (sSeq (sAsg 2 (mC d_ZERO))
  (sSeq (sFor (mR1 (mCons (mL gLen (mCons (mView 0) (mNil))) (mNil))) (gsName 3) (b1_straightened))
  (sRet (mL gTuple (mCons (mView 1) (mNil))))))
noncomputable def f_straightened : List D → Option D := runD 1 5 m_straightened
noncomputable def b1_merged_amounts : SM :=
  sSeq (sAsg 5 (mC (.int 1)))
  (sSeq (sIf (mTst (m2 oGe (mView 4) (mL gLen (mCons (mView 1) (mNil))))) (sAsg 5 (m1 oNeg (mC (.int 1)))) (sIf (mTst (m2 oLt (mView 3) (mL gLen (mCons (mView 0) (mNil))))) (sAsg 5 (mCall f_compare (mCons (mFz (m2 oIx (m2 oIx (mView 0) (mView 3)) (mC (.int 0)))) (mCons (mFz (m2 oIx (m2 oIx (mView 1) (mView 4)) (mC (.int 0)))) (mNil))))) (sNext)))
  (sSeq (sIf (mTst (m2 oLe (mView 5) (mC (.int 0)))) (sSeq (sApp 2 (mFz (m2 oIx (m2 oIx (mView 0) (mView 3)) (mC (.int 0)))))
  (sAug 3 (fun i j => i + j) (mC (.int 1)))) (sApp 2 (mFz (m2 oIx (m2 oIx (mView 1) (mView 4)) (mC (.int 0))))))
  (sIf (mTst (m2 oGe (mView 5) (mC (.int 0)))) (sAug 4 (fun i j => i + j) (mC (.int 1))) (sNext))))
noncomputable def m_merged_amounts : SM :=
  sSeq (sAsg 2 (mLst (mNil)))
  (sSeq (sAsg 3 (mC (.int 0)))
  (sSeq (sAsg 4 (mC (.int 0)))
  (sSeq (sWhile (mOr (mTst (m2 oLt (mView 3) (mL gLen (mCons (mView 0) (mNil))))) (mTst (m2 oLt (mView 4) (mL gLen (mCons (mView 1) (mNil)))))) (b1_merged_amounts))
  (sRet (mName 2)))))
noncomputable def f_merged_amounts : List D → Option D := runD 2 6 m_merged_amounts
noncomputable def b1_product_knots : SM :=
  sSeq (sAsg 6 (mCall f_multiply (mCons (mCall f_slope_at (mCons (mName 0) (mCons (mFz (m2 oIx (mView 2) (mView 5))) (mNil)))) (mCons (mCall f_slope_at (mCons (mName 1) (mCons (mFz (m2 oIx (mView 2) (mView 5))) (mNil)))) (mNil)))))
  (sSeq (sAsg 3 (mCall f_subtract (mCons (mName 3) (mCons (mCall f_multiply (mCons (mName 6) (mCons (mCall f_subtract (mCons (mFz (m2 oIx (mView 2) (m2 oAdd (mView 5) (mC (.int 1))))) (mCons (mFz (m2 oIx (mView 2) (mView 5))) (mNil)))) (mNil)))) (mNil)))))
  (sApp 4 (mTup (mCons (mFz (m2 oIx (mView 2) (mView 5))) (mCons (mName 3) (mNil))))))
noncomputable def m_product_knots : SM :=
  sSeq (sAsg 2 (mCall f_merged_amounts (mCons (mName 0) (mCons (mName 1) (mNil)))))
  (sSeq (sAsg 3 (mFz (m2 oIx (mView 2) (m1 oNeg (mC (.int 1))))))
  (sSeq (sAsg 4 (mLst (mCons (mTup (mCons (mFz (m2 oIx (mView 2) (m1 oNeg (mC (.int 1))))) (mCons (mName 3) (mNil)))) (mNil))))
  (sSeq (sFor (mR3 (mCons (m2 oSub (mL gLen (mCons (mView 2) (mNil))) (mC (.int 2))) (mCons (m1 oNeg (mC (.int 1))) (mCons (m1 oNeg (mC (.int 1))) (mNil))))) (gsName 5) (b1_product_knots))
  (sSeq (sRev 4)
  (sRet (mCall f_straightened (mCons (mName 4) (mNil))))))))
noncomputable def f_product_knots : List D → Option D := runD 2 7 m_product_knots
noncomputable def m_crossing : SM :=
  sSeq (sAsg 4 (mCall f_subtract (mCons (mCall f_value_at (mCons (mName 0) (mCons (mName 2) (mNil)))) (mCons (mCall f_value_at (mCons (mName 1) (mCons (mName 2) (mNil)))) (mNil)))))
  (sSeq (sAsg 5 (mCall f_subtract (mCons (mCall f_value_at (mCons (mName 0) (mCons (mName 3) (mNil)))) (mCons (mCall f_value_at (mCons (mName 1) (mCons (mName 3) (mNil)))) (mNil)))))
  (sSeq (sIf (mTst (m2 oGe (m2 oMul (mCall f_compare (mCons (mName 4) (mCons (mC d_ZERO) (mNil)))) (mCall f_compare (mCons (mName 5) (mCons (mC d_ZERO) (mNil))))) (mC (.int 0)))) (sRet (mC .non)) (sNext))
  (sSeq (sAsg 6 (mCall f_divide (mCons (mName 4) (mCons (mCall f_subtract (mCons (mName 4) (mCons (mName 5) (mNil)))) (mNil)))))
  (sRet (mCall f_add (mCons (mName 2) (mCons (mCall f_multiply (mCons (mName 6) (mCons (mCall f_subtract (mCons (mName 3) (mCons (mName 2) (mNil)))) (mNil)))) (mNil))))))))
noncomputable def f_crossing : List D → Option D := runD 4 7 m_crossing
noncomputable def b1_join_knots : SM :=
  sSeq (sIf (mTst (m2 oGt (mView 4) (mC (.int 0)))) (sSeq (sAsg 5 (mCall f_crossing (mCons (mName 0) (mCons (mName 1) (mCons (mFz (m2 oIx (mView 2) (m2 oSub (mView 4) (mC (.int 1))))) (mCons (mFz (m2 oIx (mView 2) (mView 4))) (mNil)))))))
  (sIf (mTst (m2 oIsNot (mView 5) (mC .non))) (sApp 3 (mTup (mCons (mName 5) (mCons (mCall f_value_at (mCons (mName 0) (mCons (mName 5) (mNil)))) (mNil))))) (sNext))) (sNext))
  (sSeq (sAsg 6 (mCall f_value_at (mCons (mName 0) (mCons (mFz (m2 oIx (mView 2) (mView 4))) (mNil)))))
  (sSeq (sAsg 7 (mCall f_value_at (mCons (mName 1) (mCons (mFz (m2 oIx (mView 2) (mView 4))) (mNil)))))
  (sSeq (sIf (mTst (m2 oLt (mCall f_compare (mCons (mName 6) (mCons (mName 7) (mNil)))) (mC (.int 0)))) (sAsg 6 (mName 7)) (sNext))
  (sApp 3 (mTup (mCons (mFz (m2 oIx (mView 2) (mView 4))) (mCons (mName 6) (mNil))))))))
noncomputable def m_join_knots : SM :=
  sSeq (sAsg 2 (mCall f_merged_amounts (mCons (mName 0) (mCons (mName 1) (mNil)))))
  (sSeq (sAsg 3 (mLst (mNil)))
  (sSeq (sFor (mR1 (mCons (mL gLen (mCons (mView 2) (mNil))) (mNil))) (gsName 4) (b1_join_knots))
  (sRet (mCall f_straightened (mCons (mName 3) (mNil))))))
noncomputable def f_join_knots : List D → Option D := runD 2 8 m_join_knots
noncomputable def b1_meet_knots : SM :=
  sPop 2
noncomputable def b2_meet_knots : SM :=
  sSeq (sAsg 4 (mCall f_value_at (mCons (mName 0) (mCons (mName 3) (mNil)))))
  (sSeq (sAsg 5 (mCall f_value_at (mCons (mName 1) (mCons (mName 3) (mNil)))))
  (sSeq (sIf (mTst (m2 oLt (mCall f_compare (mCons (mName 5) (mCons (mName 4) (mNil)))) (mC (.int 0)))) (sAsg 4 (mName 5)) (sNext))
  (sSeq (sAsg 6 (mTup (mCons (mName 3) (mCons (mName 4) (mNil)))))
  (sSeq (sWhile (mAnd (mTst (m2 oGt (mL gLen (mCons (mView 2) (mNil))) (mC (.int 1)))) (mTst (m2 oGe (mCall f_compare (mCons (mCall f_line_slope (mCons (mFz (m2 oIx (mView 2) (m1 oNeg (mC (.int 2))))) (mCons (mFz (m2 oIx (mView 2) (m1 oNeg (mC (.int 1))))) (mNil)))) (mCons (mCall f_line_slope (mCons (mFz (m2 oIx (mView 2) (m1 oNeg (mC (.int 1))))) (mCons (mName 6) (mNil)))) (mNil)))) (mC (.int 0))))) (b1_meet_knots))
  (sApp 2 (mName 6))))))
noncomputable def m_meet_knots : SM :=
  sSeq (sAsg 2 (mLst (mNil)))
  (sSeq (sFor (mItF (mCall f_merged_amounts (mCons (mName 0) (mCons (mName 1) (mNil))))) (gsName 3) (b2_meet_knots))
  (sRet (mCall f_straightened (mCons (mName 2) (mNil)))))
noncomputable def f_meet_knots : List D → Option D := runD 2 7 m_meet_knots
noncomputable def m__law_cell : SM :=
  sSeq (sIf (mTst (m2 oLt (mView 1) (mL gLen (mCons (mView 0) (mNil))))) (sRet (mFz (m2 oIx (mView 0) (mView 1)))) (sNext))
  (sRet (m2 oAdd (m2 oMul (mC (.int 5)) (mView 1)) (mC (.int 3))))
noncomputable def f__law_cell : List D → Option D := runD 2 2 m__law_cell
noncomputable def b1__law_draws : SM :=
  sIf (mAnd (mTru oTru (mView 3)) (mTst (m2 oGt (mView 2) (mC (.int 0))))) (sSeq (sApp 5 (m2 oMod (mL gInt (mCons (mView 2) (mNil))) (mC (.int 5040))))
  (sAsg 2 (m2 oFdiv (mView 2) (mC (.int 5040))))) (sSeq (sAsg 7 (m2 oMod (mL gInt (mCons (m2 oAdd (m2 oAdd (m2 oMul (mView 4) (mC (.int 48271))) (m2 oMul (m2 oAdd (mView 6) (mC (.int 1))) (mC (.int 69621)))) (mC (.int 11))) (mNil))) (mC (.int 2147483647))))
  (sSeq (sAsg 7 (m2 oMod (mL gInt (mCons (m2 oAdd (m2 oMul (mView 7) (mView 7)) (m2 oMul (mC (.int 40692)) (m2 oAdd (mView 6) (mC (.int 3))))) (mNil))) (mC (.int 2147483399))))
  (sApp 5 (m2 oMod (mL gInt (mCons (m2 oFdiv (mView 7) (mC (.int 64))) (mNil))) (mC (.int 5040))))))
noncomputable def m__law_draws : SM :=
  sSeq (sAsg 2 (mL gAbs (mCons (mL gInt (mCons (mView 0) (mNil))) (mNil))))
  (sSeq (sAsg 3 (m2 oGe (mView 2) (m2 oPow (mC (.int 10)) (mC (.int 18)))))
  (sSeq (sAsg 4 (mName 2))
  (sSeq (sAsg 5 (mLst (mNil)))
  (sSeq (sFor (mR1 (mCons (mView 1) (mNil))) (gsName 6) (b1__law_draws))
  (sRet (mName 5))))))
noncomputable def f__law_draws : List D → Option D := runD 2 8 m__law_draws
noncomputable def m__law_head : SM :=
  sRet (mCall f__law_draws (mCons (mCall f__law_cell (mCons (mName 0) (mCons (mC (.int 0)) (mNil)))) (mCons (mC (.int 3)) (mNil))))
noncomputable def f__law_head : List D → Option D := runD 1 1 m__law_head
noncomputable def b1__law_low : SM :=
  sSeq (sAsg 4 (m2 oMod (mL gInt (mCons (mView 2) (mNil))) (mView 3)))
  (sSeq (sAsg 2 (mName 3))
  (sAsg 3 (mName 4)))
noncomputable def m__law_low : SM :=
  sSeq (sAsg 2 (mL gAbs (mCons (mView 0) (mNil))))
  (sSeq (sAsg 3 (mL gAbs (mCons (mView 1) (mNil))))
  (sSeq (sWhile (mTst (m2 oGt (mView 3) (mC (.int 0)))) (b1__law_low))
  (sSeq (sIf (mTst (m2 oLt (mView 1) (mC (.int 0)))) (sSeq (sAsg 0 (m2 oSub (mC (.int 0)) (mView 0)))
  (sAsg 1 (m2 oSub (mC (.int 0)) (mView 1)))) (sNext))
  (sRet (mTup (mCons (m2 oFdiv (mView 0) (mView 2)) (mCons (m2 oFdiv (mView 1) (mView 2)) (mNil))))))))
noncomputable def f__law_low : List D → Option D := runD 2 5 m__law_low
noncomputable def m__law_is_integer : SM :=
  sRet (mAndV (m1 (fun o => some (.fz (.bl (isiO .int o)))) (mView 0)) (mNotV (m1 (fun o => some (.fz (.bl (isiO .bool o)))) (mView 0))))
noncomputable def f__law_is_integer : List D → Option D := runD 1 1 m__law_is_integer
noncomputable def m__law_is_ratio : SM :=
  sSeq (sIf (mOr (mNot (mTru oTru (m1 (fun o => some (.fz (.bl (isiO .tup o)))) (mView 0)))) (mTst (m2 oNe (mL gLen (mCons (mView 0) (mNil))) (mC (.int 2))))) (sRet (mC (.bl false))) (sNext))
  (sSeq (sIf (mOr (mNot (mTru oTru (mCall f__law_is_integer (mCons (mFz (m2 oIx (mView 0) (mC (.int 0)))) (mNil))))) (mOr (mNot (mTru oTru (mCall f__law_is_integer (mCons (mFz (m2 oIx (mView 0) (mC (.int 1)))) (mNil))))) (mTst (m2 oLt (m2 oIx (mView 0) (mC (.int 1))) (mC (.int 1)))))) (sRet (mC (.bl false))) (sNext))
  (sRet (m2 oEq (mCall f__law_low (mCons (mFz (m2 oIx (mView 0) (mC (.int 0)))) (mCons (mFz (m2 oIx (mView 0) (mC (.int 1)))) (mNil)))) (mView 0))))
noncomputable def f__law_is_ratio : List D → Option D := runD 1 1 m__law_is_ratio
noncomputable def m__law_add : SM :=
  sRet (mCall f__law_low (mCons (m2 oAdd (m2 oMul (m2 oIx (mView 0) (mC (.int 0))) (m2 oIx (mView 1) (mC (.int 1)))) (m2 oMul (m2 oIx (mView 1) (mC (.int 0))) (m2 oIx (mView 0) (mC (.int 1))))) (mCons (m2 oMul (m2 oIx (mView 0) (mC (.int 1))) (m2 oIx (mView 1) (mC (.int 1)))) (mNil))))
noncomputable def f__law_add : List D → Option D := runD 2 2 m__law_add
noncomputable def m__law_sub : SM :=
  sRet (mCall f__law_low (mCons (m2 oSub (m2 oMul (m2 oIx (mView 0) (mC (.int 0))) (m2 oIx (mView 1) (mC (.int 1)))) (m2 oMul (m2 oIx (mView 1) (mC (.int 0))) (m2 oIx (mView 0) (mC (.int 1))))) (mCons (m2 oMul (m2 oIx (mView 0) (mC (.int 1))) (m2 oIx (mView 1) (mC (.int 1)))) (mNil))))
noncomputable def f__law_sub : List D → Option D := runD 2 2 m__law_sub
noncomputable def m__law_mul : SM :=
  sRet (mCall f__law_low (mCons (m2 oMul (m2 oIx (mView 0) (mC (.int 0))) (m2 oIx (mView 1) (mC (.int 0)))) (mCons (m2 oMul (m2 oIx (mView 0) (mC (.int 1))) (m2 oIx (mView 1) (mC (.int 1)))) (mNil))))
noncomputable def f__law_mul : List D → Option D := runD 2 2 m__law_mul
noncomputable def m__law_div : SM :=
  sRet (mCall f__law_low (mCons (m2 oMul (m2 oIx (mView 0) (mC (.int 0))) (m2 oIx (mView 1) (mC (.int 1)))) (mCons (m2 oMul (m2 oIx (mView 0) (mC (.int 1))) (m2 oIx (mView 1) (mC (.int 0)))) (mNil))))
noncomputable def f__law_div : List D → Option D := runD 2 2 m__law_div
noncomputable def m__law_less : SM :=
  sRet (m2 oLt (m2 oMul (m2 oIx (mView 0) (mC (.int 0))) (m2 oIx (mView 1) (mC (.int 1)))) (m2 oMul (m2 oIx (mView 1) (mC (.int 0))) (m2 oIx (mView 0) (mC (.int 1)))))
noncomputable def f__law_less : List D → Option D := runD 2 2 m__law_less
noncomputable def m__law_fraction : SM :=
  sRet (mCall f__law_low (mCons (m2 oSub (m2 oMod (mL gInt (mCons (mView 0) (mNil))) (mC (.int 13))) (mC (.int 6))) (mCons (m2 oAdd (mC (.int 1)) (m2 oMod (m2 oFdiv (mL gInt (mCons (mView 0) (mNil))) (mC (.int 13))) (mC (.int 4)))) (mNil))))
noncomputable def f__law_fraction : List D → Option D := runD 1 1 m__law_fraction
noncomputable def e1__law_knots : EM O :=
  m2 oAdd (mC (.int 1)) (m2 oMod (mL gInt (mCons (m2 oIx (mView 3) (m2 oAdd (mC (.int 2)) (mView 8))) (mNil))) (mC (.int 5)))
noncomputable def b1__law_knots : SM :=
  sSeq (sAsg 9 (mCall f__law_low (mCons (m2 oAdd (mC (.int 1)) (m2 oMod (mL gInt (mCons (m2 oIx (mView 3) (m2 oAdd (m2 oAdd (mC (.int 2)) (mView 1)) (mView 8))) (mNil))) (mC (.int 7)))) (mCons (m2 oAdd (mC (.int 1)) (m2 oMod (mL gInt (mCons (m2 oIx (mView 3) (m2 oAdd (m2 oAdd (mC (.int 2)) (m2 oMul (mC (.int 2)) (mView 1))) (mView 8))) (mNil))) (mC (.int 4)))) (mNil)))))
  (sSeq (sIf (mTru oTru (mView 2)) (sAsg 9 (mTup (mCons (m2 oMul (m2 oIx (mView 9) (mC (.int 0))) (m2 oPow (mC (.int 10)) (mC (.int 28)))) (mCons (mFz (m2 oIx (mView 9) (mC (.int 1)))) (mNil))))) (sNext))
  (sApp 7 (mCall f__law_add (mCons (mFz (m2 oIx (mView 7) (mView 8))) (mCons (mCall f__law_low (mCons (mFz (m2 oIx (mView 9) (mC (.int 0)))) (mCons (mFz (m2 oIx (mView 9) (mC (.int 1)))) (mNil)))) (mNil))))))
noncomputable def b2__law_knots : SM :=
  sSeq (sAsg 12 (mCall f__law_low (mCons (mL gSum (mCons (mSlice (mView 5) (mONone) (mOSome (m2 oAdd (mView 8) (mC (.int 1))))) (mNil))) (mCons (mL gSum (mCons (mView 5) (mNil))) (mNil)))))
  (sSeq (sAsg 10 (mCall f__law_sub (mCons (mName 10) (mCons (mCall f__law_mul (mCons (mName 12) (mCons (mCall f__law_sub (mCons (mFz (m2 oIx (mView 7) (m2 oAdd (mView 8) (mC (.int 1))))) (mCons (mFz (m2 oIx (mView 7) (mView 8))) (mNil)))) (mNil)))) (mNil)))))
  (sIns 11 (mC (.int 0)) (mTup (mCons (mFz (m2 oIx (mView 7) (mView 8))) (mCons (mName 10) (mNil))))))
noncomputable def m__law_knots : SM :=
  sSeq (sAsg 3 (mCall f__law_draws (mCons (mName 0) (mCons (m2 oAdd (mC (.int 2)) (m2 oMul (mC (.int 3)) (mView 1))) (mNil)))))
  (sSeq (sAsg 4 (m2 oAdd (mC (.int 1)) (m2 oMod (mL gInt (mCons (m2 oIx (mView 3) (mC (.int 0))) (mNil))) (mView 1))))
  (sSeq (sAsg 5 (mLc [8] (mR1 (mCons (mView 4) (mNil))) (gsName 8) (mYes) (e1__law_knots)))
  (sSeq (sAsg 6 (mCall f__law_fraction (mCons (mFz (m2 oIx (mView 3) (mC (.int 1)))) (mNil))))
  (sSeq (sIf (mTru oTru (mView 2)) (sAsg 6 (mCall f__law_add (mCons (mTup (mCons (m2 oMul (m2 oIx (mView 6) (mC (.int 0))) (m2 oPow (mC (.int 10)) (mC (.int 30)))) (mCons (mFz (m2 oIx (mView 6) (mC (.int 1)))) (mNil)))) (mCons (mTup (mCons (m2 oMod (mL gInt (mCons (mView 0) (mNil))) (m2 oPow (mC (.int 10)) (mC (.int 30)))) (mCons (mC (.int 1)) (mNil)))) (mNil))))) (sNext))
  (sSeq (sAsg 7 (mLst (mCons (mName 6) (mNil))))
  (sSeq (sFor (mR1 (mCons (m2 oSub (mView 4) (mC (.int 1))) (mNil))) (gsName 8) (b1__law_knots))
  (sSeq (sAsg 10 (mFz (m2 oIx (mView 7) (m2 oSub (mView 4) (mC (.int 1))))))
  (sSeq (sAsg 11 (mLst (mCons (mTup (mCons (mName 10) (mCons (mName 10) (mNil)))) (mNil))))
  (sSeq (sFor (mR3 (mCons (m2 oSub (mView 4) (mC (.int 2))) (mCons (m1 oNeg (mC (.int 1))) (mCons (m1 oNeg (mC (.int 1))) (mNil))))) (gsName 8) (b2__law_knots))
  (sRet (mL gTuple (mCons (mView 11) (mNil)))))))))))))
noncomputable def f__law_knots : List D → Option D := runD 3 13 m__law_knots
noncomputable def b1__law_value : SM :=
  sIf (mNot (mTru oTru (mCall f__law_less (mCons (mFz (m2 oIx (m2 oIx (mView 0) (mView 2)) (mC (.int 0)))) (mCons (mName 1) (mNil)))))) (sSeq (sAsg 3 (mCall f__law_sub (mCons (mFz (m2 oIx (m2 oIx (mView 0) (mView 2)) (mC (.int 0)))) (mCons (mFz (m2 oIx (m2 oIx (mView 0) (m2 oSub (mView 2) (mC (.int 1)))) (mC (.int 0)))) (mNil)))))
  (sSeq (sAsg 4 (mCall f__law_mul (mCons (mCall f__law_sub (mCons (mFz (m2 oIx (m2 oIx (mView 0) (mView 2)) (mC (.int 1)))) (mCons (mFz (m2 oIx (m2 oIx (mView 0) (m2 oSub (mView 2) (mC (.int 1)))) (mC (.int 1)))) (mNil)))) (mCons (mCall f__law_sub (mCons (mName 1) (mCons (mFz (m2 oIx (m2 oIx (mView 0) (m2 oSub (mView 2) (mC (.int 1)))) (mC (.int 0)))) (mNil)))) (mNil)))))
  (sRet (mCall f__law_add (mCons (mFz (m2 oIx (m2 oIx (mView 0) (m2 oSub (mView 2) (mC (.int 1)))) (mC (.int 1)))) (mCons (mCall f__law_div (mCons (mName 4) (mCons (mName 3) (mNil)))) (mNil))))))) (sNext)
noncomputable def m__law_value : SM :=
  sSeq (sIf (mNot (mTru oTru (mCall f__law_less (mCons (mFz (m2 oIx (m2 oIx (mView 0) (mC (.int 0))) (mC (.int 0)))) (mCons (mName 1) (mNil)))))) (sRet (mFz (m2 oIx (m2 oIx (mView 0) (mC (.int 0))) (mC (.int 1))))) (sNext))
  (sSeq (sFor (mR2 (mCons (mC (.int 1)) (mCons (mL gLen (mCons (mView 0) (mNil))) (mNil)))) (gsName 2) (b1__law_value))
  (sRet (mName 1)))
noncomputable def f__law_value : List D → Option D := runD 2 5 m__law_value
noncomputable def b1__law_slope : SM :=
  sIf (mTru oTru (mCall f__law_less (mCons (mName 1) (mCons (mFz (m2 oIx (m2 oIx (mView 0) (mView 2)) (mC (.int 0)))) (mNil))))) (sSeq (sAsg 3 (mCall f__law_sub (mCons (mFz (m2 oIx (m2 oIx (mView 0) (mView 2)) (mC (.int 1)))) (mCons (mFz (m2 oIx (m2 oIx (mView 0) (m2 oSub (mView 2) (mC (.int 1)))) (mC (.int 1)))) (mNil)))))
  (sRet (mCall f__law_div (mCons (mName 3) (mCons (mCall f__law_sub (mCons (mFz (m2 oIx (m2 oIx (mView 0) (mView 2)) (mC (.int 0)))) (mCons (mFz (m2 oIx (m2 oIx (mView 0) (m2 oSub (mView 2) (mC (.int 1)))) (mC (.int 0)))) (mNil)))) (mNil)))))) (sNext)
noncomputable def m__law_slope : SM :=
  sSeq (sIf (mTru oTru (mCall f__law_less (mCons (mName 1) (mCons (mFz (m2 oIx (m2 oIx (mView 0) (mC (.int 0))) (mC (.int 0)))) (mNil))))) (sRet (mTup (mCons (mC (.int 0)) (mCons (mC (.int 1)) (mNil))))) (sNext))
  (sSeq (sFor (mR2 (mCons (mC (.int 1)) (mCons (mL gLen (mCons (mView 0) (mNil))) (mNil)))) (gsName 2) (b1__law_slope))
  (sRet (mTup (mCons (mC (.int 1)) (mCons (mC (.int 1)) (mNil))))))
noncomputable def f__law_slope : List D → Option D := runD 2 4 m__law_slope
noncomputable def b1__law_is_curve : SM :=
  sSeq (sIf (mOr (mNot (mTru oTru (m1 (fun o => some (.fz (.bl (isiO .tup o)))) (m2 oIx (mView 0) (mView 2))))) (mTst (m2 oNe (mL gLen (mCons (m2 oIx (mView 0) (mView 2)) (mNil))) (mC (.int 2))))) (sRet (mC (.bl false))) (sNext))
  (sSeq (sIf (mOr (mNot (mTru oTru (mCall f__law_is_ratio (mCons (mFz (m2 oIx (m2 oIx (mView 0) (mView 2)) (mC (.int 0)))) (mNil))))) (mNot (mTru oTru (mCall f__law_is_ratio (mCons (mFz (m2 oIx (m2 oIx (mView 0) (mView 2)) (mC (.int 1)))) (mNil)))))) (sRet (mC (.bl false))) (sNext))
  (sIf (mTst (m2 oGt (mView 2) (mC (.int 0)))) (sSeq (sIf (mNot (mTru oTru (mCall f__law_less (mCons (mFz (m2 oIx (m2 oIx (mView 0) (m2 oSub (mView 2) (mC (.int 1)))) (mC (.int 0)))) (mCons (mFz (m2 oIx (m2 oIx (mView 0) (mView 2)) (mC (.int 0)))) (mNil)))))) (sRet (mC (.bl false))) (sNext))
  (sSeq (sAsg 3 (mCall f__law_slope (mCons (mSlice (mView 0) (mONone) (mOSome (m2 oAdd (mView 2) (mC (.int 1))))) (mCons (mFz (m2 oIx (m2 oIx (mView 0) (m2 oSub (mView 2) (mC (.int 1)))) (mC (.int 0)))) (mNil)))))
  (sSeq (sIf (mOr (mNot (mTru oTru (mCall f__law_less (mCons (mName 1) (mCons (mName 3) (mNil)))))) (mNot (mTru oTru (mCall f__law_less (mCons (mName 3) (mCons (mTup (mCons (mC (.int 1)) (mCons (mC (.int 1)) (mNil)))) (mNil))))))) (sRet (mC (.bl false))) (sNext))
  (sAsg 1 (mName 3))))) (sNext)))
noncomputable def m__law_is_curve : SM :=
  sSeq (sIf (mOr (mNot (mTru oTru (m1 (fun o => some (.fz (.bl (isiO .tup o)))) (mView 0)))) (mTst (m2 oEq (mL gLen (mCons (mView 0) (mNil))) (mC (.int 0))))) (sRet (mC (.bl false))) (sNext))
  (sSeq (sAsg 1 (mTup (mCons (mC (.int 0)) (mCons (mC (.int 1)) (mNil)))))
  (sSeq (sFor (mR1 (mCons (mL gLen (mCons (mView 0) (mNil))) (mNil))) (gsName 2) (b1__law_is_curve))
  (sRet (m2 oEq (m2 oIx (m2 oIx (mView 0) (m2 oSub (mL gLen (mCons (mView 0) (mNil))) (mC (.int 1)))) (mC (.int 0))) (m2 oIx (m2 oIx (mView 0) (m2 oSub (mL gLen (mCons (mView 0) (mNil))) (mC (.int 1)))) (mC (.int 1)))))))
noncomputable def f__law_is_curve : List D → Option D := runD 1 4 m__law_is_curve
noncomputable def b1__law_not_above : SM :=
  sIf (mTru oTru (mCall f__law_less (mCons (mCall f__law_value (mCons (mName 1) (mCons (mFz (m2 oIx (mView 2) (mC (.int 0)))) (mNil)))) (mCons (mCall f__law_value (mCons (mName 0) (mCons (mFz (m2 oIx (mView 2) (mC (.int 0)))) (mNil)))) (mNil))))) (sRet (mC (.bl false))) (sNext)
noncomputable def m__law_not_above : SM :=
  sSeq (sFor (mItF (m2 oAdd (mView 0) (mView 1))) (gsName 2) (b1__law_not_above))
  (sRet (mC (.bl true)))
noncomputable def f__law_not_above : List D → Option D := runD 2 3 m__law_not_above
noncomputable def i_Curve : Addr → En → Option D :=
  iSeq (sAsg 2 (mL gTuple (mCons (mView 1) (mNil))))
  (iSeq (sIf (mNot (mTru oTru (mView 2))) (sNever) (sNext))
  (iSeq (sAsg 3 (mCall f_first_wrong (mCons (mName 2) (mNil))))
  (iSeq (sIf (mTst (m2 oIsNot (mView 3) (mC .non))) (sNever) (sNext))
  (iStore (mName 2)))))
noncomputable def f_Curve : List D → Option D := valI "Curve" "knots" 1 4 i_Curve
noncomputable def m_Curve___and__ : SM :=
  sRet (mCall f_Curve (mCons (mCall f_meet_knots (mCons (m1 (oFld "Curve" "knots") (mView 0)) (mCons (m1 (oFld "Curve" "knots") (mView 1)) (mNil)))) (mNil)))
noncomputable def f_Curve___and__ : List D → Option D := runD 2 2 m_Curve___and__
noncomputable def b1_law : SM :=
  sIf (mAnd (mTst (m2 oNe (m2 oIx (mView 7) (mC (.int 1))) (mCall f__law_value (mCons (mName 2) (mCons (mFz (m2 oIx (mView 7) (mC (.int 0)))) (mNil)))))) (mTst (m2 oNe (m2 oIx (mView 7) (mC (.int 1))) (mCall f__law_value (mCons (mName 3) (mCons (mFz (m2 oIx (mView 7) (mC (.int 0)))) (mNil))))))) (sRet (mC (.bl false))) (sNext)
noncomputable def u14_law : SM :=
  sRet (mAndV (mCall f__law_is_curve (mCons (mName 9) (mNil))) (mCall f__law_not_above (mCons (mName 9) (mCons (m1 (oFld "Curve" "knots") (mView 5)) (mNil)))))
noncomputable def u13_law : SM :=
  sSeq (sAsg 9 (m1 (oFld "Curve" "knots") (m2 (oOwn "Curve" f_Curve___and__) (mCall f_Curve (mCons (mName 8) (mNil))) (mCall f_Curve (mCons (mName 3) (mNil))))))
  (u14_law)
noncomputable def u12_law : SM :=
  sSeq (sIf (mAnd (mTru oTru (mCall f__law_not_above (mCons (mName 8) (mCons (mName 2) (mNil))))) (mAnd (mTru oTru (mCall f__law_not_above (mCons (mName 8) (mCons (mName 3) (mNil))))) (mNot (mTru oTru (mCall f__law_not_above (mCons (mName 8) (mCons (m1 (oFld "Curve" "knots") (mView 5)) (mNil)))))))) (sRet (mC (.bl false))) (sNext))
  (u13_law)
noncomputable def u11_law : SM :=
  sSeq (sIf (mNot (mTru oTru (mCall f__law_is_curve (mCons (mName 8) (mNil))))) (sRet (mC (.bl false))) (sNext))
  (u12_law)
noncomputable def u10_law : SM :=
  sSeq (sAsg 8 (m1 (oFld "Curve" "knots") (m2 (oOwn "Curve" f_Curve___and__) (mCall f_Curve (mCons (mName 2) (mNil))) (mCall f_Curve (mCons (mName 4) (mNil))))))
  (u11_law)
noncomputable def u9_law : SM :=
  sSeq (sIf (mTst (m2 oNe (m1 (oFld "Curve" "knots") (m2 (oOwn "Curve" f_Curve___and__) (mCall f_Curve (mCons (mName 2) (mNil))) (mCall f_Curve (mCons (mName 2) (mNil))))) (mView 2))) (sRet (mC (.bl false))) (sNext))
  (u10_law)
noncomputable def u8_law : SM :=
  sSeq (sFor (mItF (m1 (oFld "Curve" "knots") (mView 5))) (gsName 7) (b1_law))
  (u9_law)
noncomputable def u7_law : SM :=
  sSeq (sIf (mOr (mNot (mTru oTru (mCall f__law_not_above (mCons (m1 (oFld "Curve" "knots") (mView 5)) (mCons (mName 2) (mNil)))))) (mNot (mTru oTru (mCall f__law_not_above (mCons (m1 (oFld "Curve" "knots") (mView 5)) (mCons (mName 3) (mNil))))))) (sRet (mC (.bl false))) (sNext))
  (u8_law)
noncomputable def u6_law : SM :=
  sSeq (sIf (mOr (mNot (mTru oTru (mCall f__law_is_curve (mCons (m1 (oFld "Curve" "knots") (mView 5)) (mNil))))) (mOr (mNot (mTru oTru (mCall f__law_is_curve (mCons (m1 (oFld "Curve" "knots") (mView 6)) (mNil))))) (mTst (m2 oNe (m1 (oFld "Curve" "knots") (mView 5)) (m1 (oFld "Curve" "knots") (mView 6)))))) (sRet (mC (.bl false))) (sNext))
  (u7_law)
noncomputable def u5_law : SM :=
  sSeq (sAsg 6 (m2 (oOwn "Curve" f_Curve___and__) (mCall f_Curve (mCons (mName 3) (mNil))) (mCall f_Curve (mCons (mName 2) (mNil)))))
  (u6_law)
noncomputable def u4_law : SM :=
  sSeq (sAsg 5 (m2 (oOwn "Curve" f_Curve___and__) (mCall f_Curve (mCons (mName 2) (mNil))) (mCall f_Curve (mCons (mName 3) (mNil)))))
  (u5_law)
noncomputable def u3_law : SM :=
  sSeq (sAsg 4 (mCall f__law_knots (mCons (mCall f__law_cell (mCons (mName 0) (mCons (mC (.int 3)) (mNil)))) (mCons (mC (.int 4)) (mCons (mName 1) (mNil))))))
  (u4_law)
noncomputable def u2_law : SM :=
  sSeq (sAsg 3 (mCall f__law_knots (mCons (mCall f__law_cell (mCons (mName 0) (mCons (mC (.int 2)) (mNil)))) (mCons (mC (.int 5)) (mCons (mName 1) (mNil))))))
  (u3_law)
noncomputable def u1_law : SM :=
  sSeq (sAsg 2 (mCall f__law_knots (mCons (mCall f__law_cell (mCons (mName 0) (mCons (mC (.int 1)) (mNil)))) (mCons (mC (.int 5)) (mCons (mName 1) (mNil))))))
  (u2_law)
noncomputable def m_law : SM :=
  sSeq (sAsg 1 (m2 oEq (m2 oMod (mL gInt (mCons (m2 oIx (mCall f__law_head (mCons (mName 0) (mNil))) (mC (.int 0))) (mNil))) (mC (.int 8))) (mC (.int 5))))
  (u1_law)
noncomputable def f_law : List D → Option D := runD 1 10 m_law
end Lw

set_option Elab.async false
set_option linter.all false
set_option maxRecDepth 100000
set_option maxHeartbeats 1000000
namespace Lw
open PySem L2 Q
theorem common_divisor_spec (a b : Int) : f_common_divisor [.int a, .int b] = some (.int ((Nat.gcd a.natAbs b.natAbs : Nat) : Int)) := by
  refine (run_eq (by rfl)).trans ?_
  simp -implicitDefEqProofs [m_common_divisor, startE]
theorem make_ratio_spec (n d : Int) (h : d ≠ 0) : f_make_ratio [.int n, .int d] = some (encQ (Rat.divInt n d)) := by
  have hg : (((Nat.gcd n.natAbs d.natAbs : Nat) : Int)) ≠ 0 := by
    have : Nat.gcd n.natAbs d.natAbs ≠ 0 := Nat.gcd_ne_zero_right (by omega)
    omega
  refine (run_eq (by rfl)).trans ?_
  by_cases hs : d < 0
  · obtain ⟨e1, e2⟩ := divInt_parts_neg n hs
    simp -implicitDefEqProofs [m_make_ratio, startE, common_divisor_spec, h, hs, encQ, e1, e2, hg]
  · obtain ⟨e1, e2⟩ := divInt_parts_pos n (d := d) (by omega)
    simp -implicitDefEqProofs [m_make_ratio, startE, common_divisor_spec, h, hs, encQ, e1, e2, hg]
theorem add_spec {a b : Rat} (h' : sz a + sz b ≤ 134217728 := by omega) : f_add [encQ a, encQ b] = some (encQ (a + b)) := by
  refine (run_eq (by rfl)).trans ?_
  obtain ⟨h1, h2, h3, h4, h5⟩ := oks h'
  have e := make_ratio_spec (a.num * b.den + b.num * a.den) (a.den * b.den) (Int.mul_ne_zero (den_ne a) (den_ne b))
  rw [add_divInt] at e
  skip
  simp -implicitDefEqProofs [m_add, startE, encQ, h1, h2, h3, h4, h5]
  simp -implicitDefEqProofs [encQ] at e
  simp -implicitDefEqProofs [e]
theorem subtract_spec {a b : Rat} (h' : sz a + sz b ≤ 134217728 := by omega) : f_subtract [encQ a, encQ b] = some (encQ (a - b)) := by
  refine (run_eq (by rfl)).trans ?_
  obtain ⟨h1, h2, h3, h4, h5⟩ := oks h'
  have e := make_ratio_spec (a.num * b.den - b.num * a.den) (a.den * b.den) (Int.mul_ne_zero (den_ne a) (den_ne b))
  rw [sub_divInt] at e
  skip
  simp -implicitDefEqProofs [m_subtract, startE, encQ, h1, h2, h3, h4, h5]
  simp -implicitDefEqProofs [encQ] at e
  simp -implicitDefEqProofs [e]
theorem multiply_spec {a b : Rat} (h' : sz a + sz b ≤ 134217728 := by omega) : f_multiply [encQ a, encQ b] = some (encQ (a * b)) := by
  refine (run_eq (by rfl)).trans ?_
  obtain ⟨h1, h2, h3, h4, h5⟩ := oks h'
  have e := make_ratio_spec (a.num * b.num) (a.den * b.den) (Int.mul_ne_zero (den_ne a) (den_ne b))
  rw [mul_divInt] at e
  skip
  simp -implicitDefEqProofs [m_multiply, startE, encQ, h1, h2, h3, h4, h5]
  simp -implicitDefEqProofs [encQ] at e
  simp -implicitDefEqProofs [e]
theorem divide_spec {a b : Rat} (h0 : b ≠ 0) (h' : sz a + sz b ≤ 134217728 := by omega) : f_divide [encQ a, encQ b] = some (encQ (a / b)) := by
  refine (run_eq (by rfl)).trans ?_
  obtain ⟨h1, h2, h3, h4, h5⟩ := oks h'
  have e := make_ratio_spec (a.num * b.den) (a.den * b.num) (Int.mul_ne_zero (den_ne a) (num_ne h0))
  rw [div_divInt] at e
  have h6 := num_ne h0
  simp -implicitDefEqProofs [m_divide, startE, encQ, h1, h2, h3, h4, h5, h6]
  simp -implicitDefEqProofs [encQ] at e
  simp -implicitDefEqProofs [e]
theorem compare_spec {a b : Rat} (h' : sz a + sz b ≤ 134217728 := by omega) : f_compare [encQ a, encQ b] = some (.int (cmpQ a b)) := by
  refine (run_eq (by rfl)).trans ?_
  obtain ⟨h1, h2, h3, h4, h5⟩ := oks h'
  have l1 := lt_cross a b
  have l2 := lt_cross b a
  by_cases c1 : a < b
  · simp -implicitDefEqProofs [m_compare, startE, encQ, h1, h2, l1.mpr c1, cmpQ, c1]
  · have n1 := mt l1.mp c1
    by_cases c2 : b < a
    · simp -implicitDefEqProofs [m_compare, startE, encQ, h1, h2, n1, l2.mpr c2, cmpQ, c1, c2]
    · simp -implicitDefEqProofs [m_compare, startE, encQ, h1, h2, n1, mt l2.mp c2, cmpQ, c1, c2]
theorem line_slope_spec {p q : Rat × Rat} {c : Nat} (hc : c ≤ 8000000) (hp : sz p.1 ≤ c ∧ sz p.2 ≤ c) (hq : sz q.1 ≤ c ∧ sz q.2 ≤ c) (hne : q.1 - p.1 ≠ 0) : f_line_slope [encK p, encK q] = some (encQ ((q.2 - p.2) / (q.1 - p.1))) := by
  obtain ⟨p1, p2⟩ := hp
  obtain ⟨q1, q2⟩ := hq
  have z1 := sz_sub q.2 p.2
  have z2 := sz_sub q.1 p.1
  have k1 := subtract_spec (a := q.2) (b := p.2) (by omega)
  have k2 := subtract_spec (a := q.1) (b := p.1) (by omega)
  have k3 := divide_spec (a := q.2 - p.2) (b := q.1 - p.1) hne (by omega)
  refine (run_eq (by rfl)).trans ?_
  unfold encK
  generalize encQ ((q.2 - p.2) / (q.1 - p.1)) = v1 at *
  generalize encQ (q.2 - p.2) = v2 at *
  generalize encQ (q.1 - p.1) = v3 at *
  generalize encQ q.1 = v4 at *
  generalize encQ q.2 = v5 at *
  generalize encQ p.1 = v6 at *
  generalize encQ p.2 = v7 at *
  simp -implicitDefEqProofs [m_line_slope, startE, k1, k2, k3]
theorem sl_sz {ks : List (Rat × Rat)} {c : Nat} (h : KSz c ks) {k : Nat} (hk : k + 1 < ks.length) : sz (sl ks k) ≤ 4 * c + 2 := by
  obtain ⟨a1, a2⟩ := h _ (kAt_mem (k := k) (by omega))
  obtain ⟨b1, b2⟩ := h _ (kAt_mem (k := k + 1) hk)
  have z1 := sz_sub (kAt ks (k + 1)).2 (kAt ks k).2
  have z2 := sz_sub (kAt ks (k + 1)).1 (kAt ks k).1
  have z3 := sz_div ((kAt ks (k + 1)).2 - (kAt ks k).2) ((kAt ks (k + 1)).1 - (kAt ks k).1)
  unfold sl
  omega
theorem line_slope_at {ks : List (Rat × Rat)} (o : KOk ks) {c : Nat} (hc : c ≤ 8000000) (h : KSz c ks) {k : Nat} (hk : k + 1 < ks.length) : f_line_slope [encK (kAt ks k), encK (kAt ks (k + 1))] = some (encQ (sl ks k)) :=
  line_slope_spec hc (h _ (kAt_mem (by omega))) (h _ (kAt_mem hk)) (o.ne0 hk)
theorem at_k1 {ks : List (Rat × Rat)} {k : Nat} (h : k + 1 < ks.length) : atI (ks.map encK) ((k : Int) + 1) = some (encK (kAt ks (k + 1))) := by
  have := at_k h
  rwa [Int.natCast_add] at this
theorem pieceV_sz {ks : List (Rat × Rat)} {c : Nat} (h : KSz c ks) {a : Rat} (ha : sz a ≤ c) {k : Nat} (hk : k + 1 < ks.length) : sz (pieceV ks a k) ≤ 7 * c + 10 := by
  obtain ⟨a1, a2⟩ := h _ (kAt_mem (k := k) (by omega))
  have z1 := sl_sz h hk
  have z2 := sz_sub a (kAt ks k).1
  have z3 := sz_mul (sl ks k) (a - (kAt ks k).1)
  have z4 := sz_add (kAt ks k).2 (sl ks k * (a - (kAt ks k).1))
  unfold pieceV
  omega
theorem valK_sz {ks : List (Rat × Rat)} (o : KOk ks) {c : Nat} (h : KSz c ks) {a : Rat} (ha : sz a ≤ c) : sz (valK ks a) ≤ 7 * c + 10 := by
  unfold valK
  split
  · have := (h _ (kAt_mem o.len)).2
    omega
  · split
    · rename_i i hs
      obtain ⟨hi, _⟩ := seg_lt hs
      exact pieceV_sz h ha (by omega)
    · omega
theorem value_at_spec {ks : List (Rat × Rat)} (o : KOk ks) {c : Nat} (hc : c ≤ 8000000) (h : KSz c ks) (hl : ks.length ≤ 1000000) {a : Rat} (ha : sz a ≤ c) : f_value_at [.tup (ks.map encK), encQ a] = some (encQ (valK ks a)) := by
  have hlen := o.len
  have e0 : atI (ks.map encK) 0 = some (encK (kAt ks 0)) := at_k hlen
  obtain ⟨x1, x2⟩ := h _ (kAt_mem (k := 0) hlen)
  have c0 := compare_spec (a := a) (b := (kAt ks 0).1) (by omega)
  have hc0 : cmpQ a (kAt ks 0).1 ≤ 0 ↔ a ≤ (kAt ks 0).1 := by
    have := cmpQ_gt (a := a) (b := (kAt ks 0).1)
    constructor
    · intro q; have := mt this.mpr (by omega); grind
    · intro q; have := mt this.mp (by grind); omega
  have hll : ((ks.map encK).length : Int) = (ks.length : Int) := by simp
  have hri : (ks.length : Int) < 4611686018427387904 := by omega
  have hto : ((ks.length : Int) - 1).toNat = ks.length - 1 := by omega
  by_cases c1 : a ≤ (kAt ks 0).1
  · have c1' := hc0.mpr c1
    have e : valK ks a = (kAt ks 0).2 := if_pos c1
    rw [e]
    refine (run_eq (by rfl)).trans ?_
    generalize ks.map encK = KS at *
    generalize cmpQ a (kAt ks 0).1 = cz at *
    unfold encK at e0
    generalize encQ a = v1 at *
    generalize encQ (kAt ks 0).1 = v2 at *
    generalize encQ (kAt ks 0).2 = v3 at *
    simp -implicitDefEqProofs [m_value_at, startE, e0, c0, c1']
  · have c1' := mt hc0.mp c1
    have lp := for_find (T := Sl) (gs := gsName 2) (mb := b1_value_at) (fun t => [.has (.fz (.tup (ks.map encK))), .has (.fz (encQ a)), t, .un]) (fun (i : Nat) => D.int ((i : Int) + 1)) (fun i => decide (a ≤ (kAt ks (i + 1)).1)) (fun i => encQ (pieceV ks a i)) (List.range (ks.length - 1)) .un (fun i hi t => by
      have hi := List.mem_range.mp hi
      have hi1 : i + 1 < ks.length := by omega
      have e1 := at_k1 hi1
      have e2 := at_k (ks := ks) (k := i) (by omega)
      obtain ⟨y1, y2⟩ := h _ (kAt_mem hi1)
      obtain ⟨w1, w2⟩ := h _ (kAt_mem (k := i) (by omega))
      have ci := compare_spec (a := a) (b := (kAt ks (i + 1)).1) (by omega)
      have hci : cmpQ a (kAt ks (i + 1)).1 ≤ 0 ↔ a ≤ (kAt ks (i + 1)).1 := by
        have := cmpQ_gt (a := a) (b := (kAt ks (i + 1)).1)
        constructor
        · intro q; have := mt this.mpr (by omega); grind
        · intro q; have := mt this.mp (by grind); omega
      have ls := line_slope_at o hc h hi1
      have zs := sl_sz h hi1
      have z2 := sz_sub a (kAt ks i).1
      have z3 := sz_mul (sl ks i) (a - (kAt ks i).1)
      have k1 := subtract_spec (a := a) (b := (kAt ks i).1) (by omega)
      have k2 := multiply_spec (a := sl ks i) (b := a - (kAt ks i).1) (by omega)
      have k3 := add_spec (a := (kAt ks i).2) (b := sl ks i * (a - (kAt ks i).1)) (by omega)
      have k3 : f_add [encQ (kAt ks i).2, encQ (sl ks i * (a - (kAt ks i).1))] = some (encQ (pieceV ks a i)) := k3
      refine ⟨_, .has (.fz (.int ((i : Int) + 1))), rfl, fun hb => ?_, fun hb => ?_⟩
      · have hb := hci.mpr (of_decide_eq_true hb)
        generalize ks.map encK = KS at *
        generalize cmpQ a (kAt ks (i + 1)).1 = cz at *
        unfold encK at *
        generalize encQ (pieceV ks a i) = v0 at *
        generalize encQ (sl ks i * (a - (kAt ks i).1)) = v1 at *
        generalize encQ (a - (kAt ks i).1) = v2 at *
        generalize encQ (sl ks i) = v3 at *
        generalize encQ (kAt ks (i + 1)).1 = v4 at *
        generalize encQ (kAt ks (i + 1)).2 = v5 at *
        generalize encQ (kAt ks i).1 = v6 at *
        generalize encQ (kAt ks i).2 = v7 at *
        generalize encQ a = v8 at *
        simp -implicitDefEqProofs [b1_value_at, e1, e2, ci, hb, ls, k1, k2, k3]
      · have hb := mt hci.mp (of_decide_eq_false hb)
        generalize ks.map encK = KS at *
        generalize cmpQ a (kAt ks (i + 1)).1 = cz at *
        unfold encK at *
        generalize encQ (kAt ks (i + 1)).1 = v4 at *
        generalize encQ (kAt ks (i + 1)).2 = v5 at *
        generalize encQ a = v8 at *
        simp -implicitDefEqProofs [b1_value_at, e1, ci, hb])
    rw [← range1_map] at lp
    have e : valK ks a = match segLe ks a with
      | some i => pieceV ks a i
      | none => a := if_neg c1
    rw [e]
    cases hs : segLe ks a with
    | some i =>
      have hf := lp.1 i hs
      refine (run_eq (by rfl)).trans ?_
      generalize ks.map encK = KS at *
      generalize cmpQ a (kAt ks 0).1 = cz at *
      unfold encK at e0
      show _ = some (encQ (pieceV ks a i))
      generalize encQ (pieceV ks a i) = v0 at *
      generalize encQ a = v1 at *
      generalize encQ (kAt ks 0).1 = v2 at *
      generalize encQ (kAt ks 0).2 = v3 at *
      simp -implicitDefEqProofs [m_value_at, startE, e0, c0, c1', mR2, hll, hri, hto, hf]
    | none =>
      obtain ⟨t, hf⟩ := lp.2 hs
      refine (run_eq (by rfl)).trans ?_
      generalize ks.map encK = KS at *
      generalize cmpQ a (kAt ks 0).1 = cz at *
      unfold encK at e0
      show _ = some (encQ a)
      generalize encQ a = v1 at *
      generalize encQ (kAt ks 0).1 = v2 at *
      generalize encQ (kAt ks 0).2 = v3 at *
      simp -implicitDefEqProofs [m_value_at, startE, e0, c0, c1', mR2, hll, hri, hto, hf]
theorem slope_at_spec {ks : List (Rat × Rat)} (o : KOk ks) {c : Nat} (hc : c ≤ 8000000) (h : KSz c ks) (hl : ks.length ≤ 1000000) {a : Rat} (ha : sz a ≤ c) : f_slope_at [.tup (ks.map encK), encQ a] = some (encQ (slopeK ks a)) := by
  have hlen := o.len
  have e0 : atI (ks.map encK) 0 = some (encK (kAt ks 0)) := at_k hlen
  obtain ⟨x1, x2⟩ := h _ (kAt_mem (k := 0) hlen)
  have c0 := compare_spec (a := a) (b := (kAt ks 0).1) (by omega)
  have hc0 := cmpQ_lt (a := a) (b := (kAt ks 0).1)
  have hll : ((ks.map encK).length : Int) = (ks.length : Int) := by simp
  have hri : (ks.length : Int) < 4611686018427387904 := by omega
  have hto : ((ks.length : Int) - 1).toNat = ks.length - 1 := by omega
  have z0 : d_ZERO = encQ 0 := encQ_zero.symm
  have z1 : d_ONE = encQ 1 := encQ_one.symm
  by_cases c1 : a < (kAt ks 0).1
  · have c1' := hc0.mpr c1
    have e : slopeK ks a = 0 := if_pos c1
    rw [e]
    refine (run_eq (by rfl)).trans ?_
    simp only [m_slope_at, z0, z1]
    generalize encQ 0 = Z at *
    generalize encQ 1 = O1 at *
    generalize ks.map encK = KS at *
    generalize cmpQ a (kAt ks 0).1 = cz at *
    unfold encK at e0
    generalize encQ a = v1 at *
    generalize encQ (kAt ks 0).1 = v2 at *
    generalize encQ (kAt ks 0).2 = v3 at *
    simp -implicitDefEqProofs [startE, e0, c0, c1']
  · have c1' := mt hc0.mp c1
    have lp := for_find (T := Sl) (gs := gsName 2) (mb := b1_slope_at) (fun t => [.has (.fz (.tup (ks.map encK))), .has (.fz (encQ a)), t]) (fun (i : Nat) => D.int ((i : Int) + 1)) (fun i => decide (a < (kAt ks (i + 1)).1)) (fun i => encQ (sl ks i)) (List.range (ks.length - 1)) .un (fun i hi t => by
      have hi := List.mem_range.mp hi
      have hi1 : i + 1 < ks.length := by omega
      have e1 := at_k1 hi1
      have e2 := at_k (ks := ks) (k := i) (by omega)
      obtain ⟨y1, y2⟩ := h _ (kAt_mem hi1)
      have ci := compare_spec (a := a) (b := (kAt ks (i + 1)).1) (by omega)
      have hci := cmpQ_lt (a := a) (b := (kAt ks (i + 1)).1)
      have ls := line_slope_at o hc h hi1
      refine ⟨_, .has (.fz (.int ((i : Int) + 1))), rfl, fun hb => ?_, fun hb => ?_⟩
      · have hb := hci.mpr (of_decide_eq_true hb)
        generalize ks.map encK = KS at *
        generalize cmpQ a (kAt ks (i + 1)).1 = cz at *
        unfold encK at *
        generalize encQ (sl ks i) = v3 at *
        generalize encQ (kAt ks (i + 1)).1 = v4 at *
        generalize encQ (kAt ks (i + 1)).2 = v5 at *
        generalize encQ (kAt ks i).1 = v6 at *
        generalize encQ (kAt ks i).2 = v7 at *
        generalize encQ a = v8 at *
        simp -implicitDefEqProofs [b1_slope_at, e1, e2, ci, hb, ls]
      · have hb := mt hci.mp (of_decide_eq_false hb)
        generalize ks.map encK = KS at *
        generalize cmpQ a (kAt ks (i + 1)).1 = cz at *
        unfold encK at *
        generalize encQ (kAt ks (i + 1)).1 = v4 at *
        generalize encQ (kAt ks (i + 1)).2 = v5 at *
        generalize encQ a = v8 at *
        simp -implicitDefEqProofs [b1_slope_at, e1, ci, hb])
    rw [← range1_map] at lp
    have e : slopeK ks a = match segLt ks a with
      | some i => sl ks i
      | none => 1 := if_neg c1
    rw [e]
    cases hs : segLt ks a with
    | some i =>
      have hf := lp.1 i hs
      refine (run_eq (by rfl)).trans ?_
      simp only [m_slope_at, z0, z1]
      generalize encQ 0 = Z at *
      generalize encQ 1 = O1 at *
      generalize ks.map encK = KS at *
      generalize cmpQ a (kAt ks 0).1 = cz at *
      unfold encK at e0
      generalize encQ (sl ks i) = v0 at *
      generalize encQ a = v1 at *
      generalize encQ (kAt ks 0).1 = v2 at *
      generalize encQ (kAt ks 0).2 = v3 at *
      simp -implicitDefEqProofs [startE, e0, c0, c1', mR2, hll, hri, hto, hf]
    | none =>
      obtain ⟨t, hf⟩ := lp.2 hs
      refine (run_eq (by rfl)).trans ?_
      simp only [m_slope_at, z0, z1]
      generalize encQ 0 = Z at *
      generalize encQ 1 = O1 at *
      generalize ks.map encK = KS at *
      generalize cmpQ a (kAt ks 0).1 = cz at *
      unfold encK at e0
      generalize encQ a = v1 at *
      generalize encQ (kAt ks 0).1 = v2 at *
      generalize encQ (kAt ks 0).2 = v3 at *
      simp -implicitDefEqProofs [startE, e0, c0, c1', mR2, hll, hri, hto, hf]
def befK (ks : List (Rat × Rat)) (i : Nat) : Rat := if i ≤ 1 then 0 else sl ks (i - 2)
theorem first_wrong_spec {ks : List (Rat × Rat)} (o : KOk ks) {c : Nat} (hc : c ≤ 8000000) (h : KSz c ks) (hl : ks.length ≤ 1000000) : f_first_wrong [.tup (ks.map encK)] = some .non := by
  have hlen := o.len
  have hll : ((ks.map encK).length : Int) = (ks.length : Int) := by simp
  have hri : (ks.length : Int) < 4611686018427387904 := by omega
  have z0 : d_ZERO = encQ 0 := encQ_zero.symm
  have z1 : d_ONE = encQ 1 := encQ_one.symm
  obtain ⟨env', hf, i2, i3, rfl⟩ := for_inv (gs := gsName 2) (mb := b1_first_wrong) (ds := rangeD 0 ks.length) (env := [.has (.fz (.tup (ks.map encK))), .has (.fz (encQ 0)), .un, .un])
    (fun i env => ∃ i2 i3, env = [.has (.fz (.tup (ks.map encK))), .has (.fz (encQ (befK ks i))), i2, i3]) ⟨.un, .un, by unfold befK; rfl⟩ (by
      rintro i d env hd ⟨i2, i3, rfl⟩
      obtain ⟨hi, rfl⟩ := rangeD0_get hd
      have e2 := at_k hi
      obtain ⟨y1, y2⟩ := h _ (kAt_mem hi)
      -- the last check
      have cl := compare_spec (a := (kAt ks i).1) (b := (kAt ks i).2) (by omega)
      have hcl := cmpQ_eq (a := (kAt ks i).1) (b := (kAt ks i).2)
      have lastc : (i : Int) = (ks.length : Int) - 1 → cmpQ (kAt ks i).1 (kAt ks i).2 = 0 := fun hh => by
        have e : i = ks.length - 1 := by omega
        rw [hcl, e]
        exact o.last
      by_cases h0 : i = 0
      · subst h0
        have e2 : atI (ks.map encK) 0 = some (encK (kAt ks 0)) := e2
        have eb : befK ks (0 + 1) = 0 := by unfold befK; rfl
        have eb0 : befK ks 0 = 0 := by unfold befK; rfl
        rw [eb, eb0]
        refine ⟨_, _, rfl, .inl ?_, .has (.fz (.int 0)), i3, rfl⟩
        generalize ks.map encK = KS at *
        generalize cmpQ (kAt ks 0).1 (kAt ks 0).2 = cz at *
        unfold encK at e2
        generalize encQ (kAt ks 0).1 = v1 at *
        generalize encQ (kAt ks 0).2 = v2 at *
        generalize encQ 0 = Z at *
        by_cases hh : (0 : Int) = (ks.length : Int) - 1
        · have := lastc hh
          simp -implicitDefEqProofs [b1_first_wrong, hll, e2, cl, ← hh, this]
        · have hh' : ¬ ((ks.length : Int) - 1 = 0) := fun z => hh z.symm
          simp -implicitDefEqProofs [b1_first_wrong, hll, hh, hh']
      · obtain ⟨j, rfl⟩ : ∃ j, i = j + 1 := ⟨i - 1, by omega⟩
        have e1 := at_k (ks := ks) (k := j) (by omega)
        have e2 : atI (ks.map encK) ((j : Int) + 1) = some (encK (kAt ks (j + 1))) := at_k1 hi
        obtain ⟨w1, w2⟩ := h _ (kAt_mem (k := j) (by omega))
        have ca := compare_spec (a := (kAt ks (j + 1)).1) (b := (kAt ks j).1) (by omega)
        have hca : ¬ cmpQ (kAt ks (j + 1)).1 (kAt ks j).1 ≤ 0 := by
          have := cmpQ_gt.mpr (o.asc j hi)
          omega
        have ls := line_slope_at o hc h hi
        have zs := sl_sz h hi
        have cb := compare_spec (a := sl ks j) (b := 1) (by rw [sz_one]; omega)
        have hcb : ¬ 0 ≤ cmpQ (sl ks j) 1 := by
          have := cmpQ_lt.mpr (o.one j hi)
          omega
        have zb : sz (befK ks (j + 1)) ≤ 4 * c + 2 := by
          unfold befK
          split
          · rw [sz_zero]; omega
          · have := sl_sz h (k := j + 1 - 2) (by omega)
            exact this
        have hlt : befK ks (j + 1) < sl ks j := by
          unfold befK
          split
          · have : j = 0 := by omega
            subst this
            exact o.pos (by omega)
          · have e : j = (j + 1 - 2) + 1 := by omega
            have := o.up (j + 1 - 2) (by omega)
            rw [← e] at this
            exact this
        have cc := compare_spec (a := sl ks j) (b := befK ks (j + 1)) (by omega)
        have hcc : ¬ cmpQ (sl ks j) (befK ks (j + 1)) ≤ 0 := by
          have := cmpQ_gt.mpr hlt
          omega
        have eb : befK ks (j + 1 + 1) = sl ks j := by
          unfold befK
          rw [if_neg (by omega)]; rfl
        rw [eb]
        refine ⟨_, _, rfl, .inl ?_, .has (.fz (.int ((j : Int) + 1))), .has (.fz (encQ (sl ks j))), rfl⟩
        show b1_first_wrong [.has (.fz (.tup (ks.map encK))), .has (.fz (encQ (befK ks (j + 1)))), .has (.fz (.int ((j : Int) + 1))), i3] = _
        have lastc : (j : Int) + 1 = (ks.length : Int) - 1 → cmpQ (kAt ks (j + 1)).1 (kAt ks (j + 1)).2 = 0 := fun hh => lastc (by omega)
        have hpos : 0 < (j : Int) + 1 := by omega
        simp only [b1_first_wrong, z1]
        generalize ks.map encK = KS at *
        generalize cmpQ (kAt ks (j + 1)).1 (kAt ks (j + 1)).2 = cz at *
        generalize cmpQ (kAt ks (j + 1)).1 (kAt ks j).1 = cz1 at *
        generalize cmpQ (sl ks j) 1 = cz2 at *
        generalize cmpQ (sl ks j) (befK ks (j + 1)) = cz3 at *
        unfold encK at *
        generalize encQ (befK ks (j + 1)) = v0 at *
        generalize encQ (kAt ks (j + 1)).1 = v1 at *
        generalize encQ (kAt ks (j + 1)).2 = v2 at *
        generalize encQ (kAt ks j).1 = v3 at *
        generalize encQ (kAt ks j).2 = v4 at *
        generalize encQ (sl ks j) = v5 at *
        generalize encQ 1 = O1 at *
        by_cases hh : (j : Int) + 1 = (ks.length : Int) - 1
        · have := lastc hh
          have hh' := eq_true hh
          simp -implicitDefEqProofs [hll, e1, e2, ca, hca, ls, cb, hcb, cc, hcc, cl, hh', hpos, this]
        · simp -implicitDefEqProofs [hll, e1, e2, ca, hca, ls, cb, hcb, cc, hcc, hh, hpos])
  refine (run_eq (by rfl)).trans ?_
  simp only [m_first_wrong, z0]
  generalize ks.map encK = KS at *
  generalize encQ (befK ks (rangeD 0 ks.length).length) = v0 at *
  generalize encQ 0 = Z at *
  simp -implicitDefEqProofs [startE, hll, mR1, hri, hf]
theorem wok_mid : ∀ (ps : List (Rat × Rat)) (b : Rat), WOk b ps → ps = [] → b = 1
  | [], b, h, _ => h
theorem straightened_spec {ps : List (Rat × Rat)} (h : WOk 0 ps) {c : Nat} (hc : c ≤ 8000000) (hz : KSz c ps) (hl : ps.length ≤ 1000000) : f_straightened [.lst (ps.map encK)] = some (.tup ((stR 0 ps).map encK)) := by
  have hll : ((ps.map encK).length : Int) = (ps.length : Int) := by simp
  have hri : (ps.length : Int) < 4611686018427387904 := by omega
  have z0 : d_ZERO = encQ 0 := encQ_zero.symm
  have z1 : d_ONE = encQ 1 := encQ_one.symm
  obtain ⟨env', hf, acc, b, i3, i4, rfl, he, hw, hb, hacc⟩ := for_inv (gs := gsName 3) (mb := b1_straightened) (ds := rangeD 0 ps.length) (env := [.has (.fz (.lst (ps.map encK))), .has (.ls []), .has (.fz (encQ 0)), .un, .un])
    (fun i env => ∃ (acc : List (Rat × Rat)) (b : Rat) (i3 i4 : Sl), env = [.has (.fz (.lst (ps.map encK))), .has (.ls ((acc.map encK).map .fz)), .has (.fz (encQ b)), i3, i4] ∧ stR 0 ps = acc ++ stR b (ps.drop i) ∧ WOk b (ps.drop i) ∧ sz b ≤ 4 * c + 2 ∧ acc.length ≤ i)
    ⟨[], 0, .un, .un, rfl, by simp, by rw [List.drop_zero]; exact h, by rw [sz_zero]; omega, Nat.le_refl _⟩ (by
      rintro i d env hd ⟨acc, b, i3, i4, rfl, he, hw, hb, hacc⟩
      obtain ⟨hi, rfl⟩ := rangeD0_get hd
      have e1 := at_k hi
      have hdr : ps.drop i = kAt ps i :: ps.drop (i + 1) := by
        rw [List.drop_eq_getElem_cons hi]
        unfold kAt
        rw [List.getElem?_eq_getElem hi]; rfl
      rw [hdr] at he hw
      obtain ⟨w1, w2, w3⟩ := hw
      -- the slope after
      obtain ⟨a, ha⟩ : ∃ a, a = aft (kAt ps i) (ps.drop (i + 1)) := ⟨_, rfl⟩
      rw [← ha] at w1 w3
      have za : sz a ≤ 4 * c + 2 := by
        rw [ha]
        by_cases hlt : i + 1 < ps.length
        · have hdr2 : ps.drop (i + 1) = kAt ps (i + 1) :: ps.drop (i + 1 + 1) := by
            rw [List.drop_eq_getElem_cons hlt]
            unfold kAt
            rw [List.getElem?_eq_getElem hlt]; rfl
          rw [hdr2]
          exact sl_sz hz hlt
        · have hdr2 : ps.drop (i + 1) = [] := List.drop_eq_nil_iff.mpr (by omega)
          rw [hdr2]
          show sz 1 ≤ _
          rw [sz_one]; omega
      have cm := compare_spec (a := b) (b := a) (by omega)
      have hcm := cmpQ_eq (a := b) (b := a)
      have hap : (acc.map encK).map O.fz ++ [.fz (encK (kAt ps i))] = ((acc ++ [kAt ps i]).map encK).map .fz := by simp
      have hol : ((acc.map encK).map O.fz).length < 16777216 := by simp; omega
      -- the two steps of the code
      have pre : ∀ (rest : SM) (j4 : Sl), (sSeq (sAsg 4 (mC d_ONE))
        (sSeq (sIf (mTst (m2 oLt (m2 oAdd (mView 3) (mC (.int 1))) (mL gLen (mCons (mView 0) (mNil))))) (sAsg 4 (mCall f_line_slope (mCons (mFz (m2 oIx (mView 0) (mView 3))) (mCons (mFz (m2 oIx (mView 0) (m2 oAdd (mView 3) (mC (.int 1))))) (mNil))))) (sNext)) rest)) [.has (.fz (.lst (ps.map encK))), .has (.ls ((acc.map encK).map .fz)), .has (.fz (encQ b)), .has (.fz (.int (i : Int))), j4] =
          rest [.has (.fz (.lst (ps.map encK))), .has (.ls ((acc.map encK).map .fz)), .has (.fz (encQ b)), .has (.fz (.int (i : Int))), .has (.fz (encQ a))] := fun rest j4 => by
        by_cases hlt : i + 1 < ps.length
        · have hdr2 : ps.drop (i + 1) = kAt ps (i + 1) :: ps.drop (i + 1 + 1) := by
            rw [List.drop_eq_getElem_cons hlt]
            unfold kAt
            rw [List.getElem?_eq_getElem hlt]; rfl
          have e2 : atI (ps.map encK) ((i : Int) + 1) = some (encK (kAt ps (i + 1))) := at_k1 hlt
          rw [hdr2] at w2 ha
          have w2 : (kAt ps i).1 < (kAt ps (i + 1)).1 := w2
          have ls := line_slope_spec hc (hz _ (kAt_mem hi)) (hz _ (kAt_mem hlt)) (by grind)
          have ls : f_line_slope [encK (kAt ps i), encK (kAt ps (i + 1))] = some (encQ a) := by rw [ha]; exact ls
          have hlt' : (i : Int) + 1 < (ps.length : Int) := by omega
          clear hap hol he hacc cm hdr hdr2 ha
          generalize (acc.map encK).map O.fz = os at *
          generalize ps.map encK = KS at *
          generalize encK (kAt ps i) = v1 at *
          generalize encK (kAt ps (i + 1)) = v2 at *
          generalize encQ a = v3 at *
          generalize encQ b = v4 at *
          rw [z1]
          generalize encQ 1 = O1 at *
          simp -implicitDefEqProofs [hll, e1, e2, hlt', ls]
        · have hdr2 : ps.drop (i + 1) = [] := List.drop_eq_nil_iff.mpr (by omega)
          have ea : a = 1 := by rw [ha, hdr2]; rfl
          have hlt' : ¬ (i : Int) + 1 < (ps.length : Int) := by omega
          subst ea
          clear hap hol he hacc cm hdr hdr2 ha
          generalize (acc.map encK).map O.fz = os at *
          generalize ps.map encK = KS at *
          generalize encQ b = v4 at *
          rw [z1]
          generalize encQ 1 = O1 at *
          simp -implicitDefEqProofs [hll, hlt']
      by_cases q : b = a
      · have q' := hcm.mpr q
        rw [q'] at cm
        refine ⟨_, _, rfl, .inl ?_, acc, a, .has (.fz (.int (i : Int))), .has (.fz (encQ a)), rfl, ?_, w3, za, by omega⟩
        · show b1_straightened [.has (.fz (.lst (ps.map encK))), .has (.ls ((acc.map encK).map .fz)), .has (.fz (encQ b)), .has (.fz (.int (i : Int))), i4] = _
          unfold b1_straightened
          rw [pre]
          generalize (acc.map encK).map O.fz = os at *
          generalize ps.map encK = KS at *
          generalize encQ a = v3 at *
          generalize encQ b = v4 at *
          simp -implicitDefEqProofs [cm]
        · rw [he]
          congr 1
          show (if b = aft (kAt ps i) (ps.drop (i + 1)) then stR (aft (kAt ps i) (ps.drop (i + 1))) (ps.drop (i + 1)) else _) = _
          rw [← ha, if_pos q]
      · have q' := mt hcm.mp q
        refine ⟨_, _, rfl, .inl ?_, acc ++ [kAt ps i], a, .has (.fz (.int (i : Int))), .has (.fz (encQ a)), rfl, ?_, w3, za, by simp; omega⟩
        · show b1_straightened [.has (.fz (.lst (ps.map encK))), .has (.ls ((acc.map encK).map .fz)), .has (.fz (encQ b)), .has (.fz (.int (i : Int))), i4] = _
          unfold b1_straightened
          rw [pre, ← hap]
          generalize (acc.map encK).map O.fz = os at *
          generalize ps.map encK = KS at *
          generalize encK (kAt ps i) = v1 at *
          generalize encQ a = v3 at *
          generalize encQ b = v4 at *
          generalize cmpQ b a = cz at *
          simp -implicitDefEqProofs [cm, q', e1, hol]
        · rw [he, List.append_assoc]
          congr 1
          show (if b = aft (kAt ps i) (ps.drop (i + 1)) then _ else kAt ps i :: stR (aft (kAt ps i) (ps.drop (i + 1))) (ps.drop (i + 1))) = _
          rw [← ha, if_neg q]; rfl)
  rw [rangeD_len, List.drop_length] at he
  have he : stR 0 ps = acc ++ [] := he
  rw [List.append_nil] at he
  rw [he]
  have eg := e_gTupO (ds := acc.map encK)
  refine (run_eq (by rfl)).trans ?_
  simp only [m_straightened, z0]
  generalize (acc.map encK).map O.fz = os at *
  generalize acc.map encK = AS at *
  generalize ps.map encK = KS at *
  generalize encQ b = v4 at *
  generalize encQ 0 = Z at *
  simp -implicitDefEqProofs [startE, hll, mR1, hri, hf, eg]
theorem mg_loop {ks qs : List (Rat × Rat)} (o : KOk ks) (p : KOk qs) {c : Nat} (hc : c ≤ 8000000) (hz : KSz c ks) (hw : KSz c qs) (hl1 : ks.length ≤ 1000000) (hl2 : qs.length ≤ 1000000) : ∀ (d i j : Nat) (out : List Rat) (j5 : Sl), (ks.length - i) + (qs.length - j) ≤ d → Mg ks qs i j out →
    ∃ (out' : List Rat) (i5 : Sl), Mg ks qs ks.length qs.length out' ∧ whileF (mOr (mTst (m2 oLt (mView 3) (mL gLen (mCons (mView 0) (mNil))))) (mTst (m2 oLt (mView 4) (mL gLen (mCons (mView 1) (mNil)))))) b1_merged_amounts (d + 1) [.has (.fz (.tup (ks.map encK))), .has (.fz (.tup (qs.map encK))), .has (.ls ((out.map encQ).map .fz)), .has (.fz (.int (i : Int))), .has (.fz (.int (j : Int))), j5] =
      some (.nx [.has (.fz (.tup (ks.map encK))), .has (.fz (.tup (qs.map encK))), .has (.ls ((out'.map encQ).map .fz)), .has (.fz (.int (ks.length : Int))), .has (.fz (.int (qs.length : Int))), i5]) := fun d => by
  have hll1 : ((ks.map encK).length : Int) = (ks.length : Int) := by simp
  have hll2 : ((qs.map encK).length : Int) = (qs.length : Int) := by simp
  have hap : ∀ (out : List Rat) (a : Rat), (out.map encQ).map O.fz ++ [.fz (encQ a)] = ((out ++ [a]).map encQ).map .fz := fun out a => by simp
  have hlo : ∀ out : List Rat, ((out.map encQ).map O.fz).length = out.length := fun out => by simp
  induction d with
  | zero =>
    intro i j out j5 hd m
    have hi := m.i1
    have hj := m.j1
    have ei : i = ks.length := by omega
    have ej : j = qs.length := by omega
    subst ei
    subst ej
    refine ⟨out, j5, m, ?_⟩
    generalize (out.map encQ).map O.fz = os at *
    generalize ks.map encK = KS at *
    generalize qs.map encK = QS at *
    simp -implicitDefEqProofs [whileF, hll1, hll2]
  | succ d ih =>
    intro i j out j5 hd m
    have hi := m.i1
    have hj := m.j1
    by_cases h0 : i = ks.length ∧ j = qs.length
    · obtain ⟨rfl, rfl⟩ := h0
      refine ⟨out, j5, m, ?_⟩
      generalize (out.map encQ).map O.fz = os at *
      generalize ks.map encK = KS at *
      generalize qs.map encK = QS at *
      simp -implicitDefEqProofs [whileF, hll1, hll2]
    have hol : out.length < 16777216 := by have := m.len; omega
    have test : mOr (mTst (m2 oLt (mView 3) (mL gLen (mCons (mView 0) (mNil))))) (mTst (m2 oLt (mView 4) (mL gLen (mCons (mView 1) (mNil))))) [.has (.fz (.tup (ks.map encK))), .has (.fz (.tup (qs.map encK))), .has (.ls ((out.map encQ).map .fz)), .has (.fz (.int (i : Int))), .has (.fz (.int (j : Int))), j5] = some (true, [.has (.fz (.tup (ks.map encK))), .has (.fz (.tup (qs.map encK))), .has (.ls ((out.map encQ).map .fz)), .has (.fz (.int (i : Int))), .has (.fz (.int (j : Int))), j5]) := by
      generalize (out.map encQ).map O.fz = os at *
      generalize ks.map encK = KS at *
      generalize qs.map encK = QS at *
      by_cases c1 : i < ks.length
      · simp -implicitDefEqProofs [hll1, hll2, c1]
      · have c2 : j < qs.length := by omega
        simp -implicitDefEqProofs [hll1, hll2, c1, c2]
    have fin : ∀ (i2 j2 : Nat) (out2 : List Rat) (s5 : Sl), (ks.length - i2) + (qs.length - j2) ≤ d → Mg ks qs i2 j2 out2 → b1_merged_amounts [.has (.fz (.tup (ks.map encK))), .has (.fz (.tup (qs.map encK))), .has (.ls ((out.map encQ).map .fz)), .has (.fz (.int (i : Int))), .has (.fz (.int (j : Int))), j5] = some (.nx [.has (.fz (.tup (ks.map encK))), .has (.fz (.tup (qs.map encK))), .has (.ls ((out2.map encQ).map .fz)), .has (.fz (.int (i2 : Int))), .has (.fz (.int (j2 : Int))), s5]) →
        ∃ (out' : List Rat) (i5 : Sl), Mg ks qs ks.length qs.length out' ∧ whileF (mOr (mTst (m2 oLt (mView 3) (mL gLen (mCons (mView 0) (mNil))))) (mTst (m2 oLt (mView 4) (mL gLen (mCons (mView 1) (mNil)))))) b1_merged_amounts (d + 1 + 1) [.has (.fz (.tup (ks.map encK))), .has (.fz (.tup (qs.map encK))), .has (.ls ((out.map encQ).map .fz)), .has (.fz (.int (i : Int))), .has (.fz (.int (j : Int))), j5] =
          some (.nx [.has (.fz (.tup (ks.map encK))), .has (.fz (.tup (qs.map encK))), .has (.ls ((out'.map encQ).map .fz)), .has (.fz (.int (ks.length : Int))), .has (.fz (.int (qs.length : Int))), i5]) := fun i2 j2 out2 s5 h1 h2 h3 => by
      obtain ⟨out', i5, h4, h5⟩ := ih i2 j2 out2 s5 h1 h2
      refine ⟨out', i5, h4, ?_⟩
      rw [whileF, test, Option.bind_some, if_pos rfl, h3]
      exact h5
    by_cases c2 : j < qs.length
    · have e2 := at_k c2
      obtain ⟨y1, y2⟩ := hw _ (kAt_mem c2)
      by_cases c1 : i < ks.length
      · have e1 := at_k c1
        obtain ⟨x1, x2⟩ := hz _ (kAt_mem c1)
        have cm := compare_spec (a := (kAt ks i).1) (b := (kAt qs j).1) (by omega)
        have c2' : ¬ qs.length ≤ j := by omega
        by_cases q1 : (kAt ks i).1 < (kAt qs j).1
        · have g1 := cmpQ_lt.mpr q1
          have g2 : cmpQ (kAt ks i).1 (kAt qs j).1 ≤ 0 := by omega
          have g3 : ¬ 0 ≤ cmpQ (kAt ks i).1 (kAt qs j).1 := by omega
          refine fin (i + 1) j _ (.has (.fz (.int (cmpQ (kAt ks i).1 (kAt qs j).1)))) (by omega) (m.one o c1 fun _ => q1) ?_
          rw [← hap, Int.natCast_add]
          have hlo := hlo out
          generalize (out.map encQ).map O.fz = os at *
          generalize ks.map encK = KS at *
          generalize qs.map encK = QS at *
          generalize cmpQ (kAt ks i).1 (kAt qs j).1 = cz at *
          unfold encK at *
          generalize encQ (kAt ks i).1 = v1 at *
          generalize encQ (kAt ks i).2 = v2 at *
          generalize encQ (kAt qs j).1 = v3 at *
          generalize encQ (kAt qs j).2 = v4 at *
          simp -implicitDefEqProofs [b1_merged_amounts, sAug, hll1, hll2, c1, c2', e1, e2, cm, g2, g3, hlo, hol]
        · by_cases q2 : (kAt ks i).1 = (kAt qs j).1
          · have g1 := cmpQ_eq.mpr q2
            refine fin (i + 1) (j + 1) _ (.has (.fz (.int 0))) (by omega) (m.both o p c1 c2 q2) ?_
            rw [← hap, Int.natCast_add, Int.natCast_add]
            have hlo := hlo out
            rw [g1] at cm
            generalize (out.map encQ).map O.fz = os at *
            generalize ks.map encK = KS at *
            generalize qs.map encK = QS at *
            unfold encK at *
            generalize encQ (kAt ks i).1 = v1 at *
            generalize encQ (kAt ks i).2 = v2 at *
            generalize encQ (kAt qs j).1 = v3 at *
            generalize encQ (kAt qs j).2 = v4 at *
            simp -implicitDefEqProofs [b1_merged_amounts, sAug, hll1, hll2, c1, c2', e1, e2, cm, hlo, hol]
          · have q3 : (kAt qs j).1 < (kAt ks i).1 := by grind
            have g1 := cmpQ_gt.mpr q3
            have g2 : ¬ cmpQ (kAt ks i).1 (kAt qs j).1 ≤ 0 := by omega
            have g3 : 0 ≤ cmpQ (kAt ks i).1 (kAt qs j).1 := by omega
            refine fin i (j + 1) _ (.has (.fz (.int (cmpQ (kAt ks i).1 (kAt qs j).1)))) (by omega) (m.two p c2 fun _ => q3) ?_
            rw [← hap, Int.natCast_add]
            have hlo := hlo out
            generalize (out.map encQ).map O.fz = os at *
            generalize ks.map encK = KS at *
            generalize qs.map encK = QS at *
            generalize cmpQ (kAt ks i).1 (kAt qs j).1 = cz at *
            unfold encK at *
            generalize encQ (kAt ks i).1 = v1 at *
            generalize encQ (kAt ks i).2 = v2 at *
            generalize encQ (kAt qs j).1 = v3 at *
            generalize encQ (kAt qs j).2 = v4 at *
            simp -implicitDefEqProofs [b1_merged_amounts, sAug, hll1, hll2, c1, c2', e1, e2, cm, g2, g3, hlo, hol]
      · have c2' : ¬ qs.length ≤ j := by omega
        refine fin i (j + 1) _ (.has (.fz (.int 1))) (by omega) (m.two p c2 fun h => absurd h c1) ?_
        rw [← hap, Int.natCast_add]
        have hlo := hlo out
        generalize (out.map encQ).map O.fz = os at *
        generalize ks.map encK = KS at *
        generalize qs.map encK = QS at *
        unfold encK at *
        generalize encQ (kAt qs j).1 = v3 at *
        generalize encQ (kAt qs j).2 = v4 at *
        simp -implicitDefEqProofs [b1_merged_amounts, sAug, hll1, hll2, c1, c2', e2, hlo, hol]
    · have c1 : i < ks.length := by omega
      have e1 := at_k c1
      have c2' : qs.length ≤ j := by omega
      refine fin (i + 1) j _ (.has (.fz (.int (-1)))) (by omega) (m.one o c1 fun h => absurd h c2) ?_
      rw [← hap, Int.natCast_add]
      have hlo := hlo out
      generalize (out.map encQ).map O.fz = os at *
      generalize ks.map encK = KS at *
      generalize qs.map encK = QS at *
      unfold encK at *
      generalize encQ (kAt ks i).1 = v1 at *
      generalize encQ (kAt ks i).2 = v2 at *
      simp -implicitDefEqProofs [b1_merged_amounts, sAug, hll1, hll2, c1, c2', e1, hlo, hol]
theorem frz_ls (l : List D) : O.frz (.ls (l.map .fz)) = .lst l := by
  rw [O.frz]
  refine congrArg D.lst ?_
  induction l with
  | nil => rfl
  | cons x l ih => rw [List.map_cons, O.frzs, ih]; rfl
theorem merged_amounts_spec {ks qs : List (Rat × Rat)} (o : KOk ks) (p : KOk qs) {c : Nat} (hc : c ≤ 8000000) (hz : KSz c ks) (hw : KSz c qs) (hl1 : ks.length ≤ 1000000) (hl2 : qs.length ≤ 1000000) :
    ∃ A : List Rat, Mg ks qs ks.length qs.length A ∧ f_merged_amounts [.tup (ks.map encK), .tup (qs.map encK)] = some (.lst (A.map encQ)) := by
  obtain ⟨A, i5, m, h⟩ := mg_loop o p hc hz hw hl1 hl2 _ 0 0 [] .un (Nat.le_refl _) (Mg.nil ks qs)
  have h := sWhile_of h
  have hf := frz_ls (A.map encQ)
  refine ⟨A, m, ?_⟩
  refine (run_eq (by rfl)).trans ?_
  have h : sWhile (mOr (mTst (m2 oLt (mView 3) (mL gLen (mCons (mView 0) (mNil))))) (mTst (m2 oLt (mView 4) (mL gLen (mCons (mView 1) (mNil)))))) b1_merged_amounts [.has (.fz (.tup (ks.map encK))), .has (.fz (.tup (qs.map encK))), .has (.ls []), .has (.fz (.int 0)), .has (.fz (.int 0)), .un] = _ := h
  simp only [m_merged_amounts]
  generalize hsw : sWhile (mOr (mTst (m2 oLt (mView 3) (mL gLen (mCons (mView 0) (mNil))))) (mTst (m2 oLt (mView 4) (mL gLen (mCons (mView 1) (mNil)))))) b1_merged_amounts = sw at *
  generalize (A.map encQ).map O.fz = os at *
  generalize ks.map encK = KS at *
  generalize qs.map encK = QS at *
  simp -implicitDefEqProofs [startE, h, hf]
theorem drop_get {A : List Rat} {k : Nat} {x : Rat} (h : A[k]? = some x) : A.drop k = x :: A.drop (k + 1) := by
  obtain ⟨hk, rfl⟩ := List.getElem?_eq_some_iff.mp h
  exact List.drop_eq_getElem_cons hk
theorem at_get {A : List Rat} {k : Nat} {x : Rat} (h : A[k]? = some x) : atI (A.map encQ) (k : Int) = some (encQ x) := by
  obtain ⟨hk, rfl⟩ := List.getElem?_eq_some_iff.mp h
  rw [atI_nat' (by simpa using hk), List.getElem?_map, List.getElem?_eq_getElem hk]; rfl
theorem product_knots_spec {ks qs : List (Rat × Rat)} (o : KOk ks) (p : KOk qs) {a s s' v v' c m : Nat} (z : KZ a s v ks) (z' : KZ a s' v' qs) (h1 : 1 ≤ s) (h1' : 1 ≤ s') (hc : c ≤ 8000000) (ha : a ≤ c) (hv : v ≤ c) (hv' : v' ≤ c)
    (hl : ks.length + qs.length ≤ m) (hm : m ≤ 100000) (hb : a + 1 + m * (s + s' + 2 * a + 5) ≤ c) :
    ∃ R : List (Rat × Rat), PrK ks qs R ∧ KZ a (s + s') (a + 1 + m * (s + s' + 2 * a + 5)) R ∧ R.length ≤ m ∧ f_product_knots [.tup (ks.map encK), .tup (qs.map encK)] = some (.tup (R.map encK)) := by
  have hlk := o.len
  obtain ⟨A, mg, hf0⟩ := merged_amounts_spec o p hc (z.ksz ha hv) (z'.ksz ha hv') (by omega) (by omega)
  have hmem : ∀ x, x ∈ A ↔ x ∈ ks.map (·.1) ++ qs.map (·.1) := fun x => by
    rw [mg.mem, amt_mem, amt_mem, List.mem_append]
  have hlen := mg.len
  have hne : A ≠ [] := fun e => by
    have := (hmem (kAt ks 0).1).mpr (List.mem_append_left _ (List.mem_map.mpr ⟨_, kAt_mem hlk, rfl⟩))
    rw [e] at this
    simp at this
  have hpos : 1 ≤ A.length := List.length_pos_iff.mpr hne
  obtain ⟨r1, r2, r3⟩ := prod_res o p mg.asc hmem z z' h1 h1'
  have hA : ∀ x ∈ A, sz x ≤ a := fun x hx => by
    rcases List.mem_append.mp ((hmem x).mp hx) with h | h
    · obtain ⟨q, hq, rfl⟩ := List.mem_map.mp h
      exact z.am q hq
    · obtain ⟨q, hq, rfl⟩ := List.mem_map.mp h
      exact z'.am q hq
  have hX : A.length * (s + s' + 2 * a + 5) ≤ m * (s + s' + 2 * a + 5) := Nat.mul_le_mul_right _ (by omega)
  have hX1 : s + s' + 2 * a + 5 ≤ m * (s + s' + 2 * a + 5) := Nat.le_mul_of_pos_left _ (by omega)
  have hf : ∀ x, sz (slopeK ks x * slopeK qs x) ≤ s + s' := fun x => by
    have a1 := slopeK_sz z h1 x
    have a2 := slopeK_sz z' h1' x
    have := sz_mul (slopeK ks x) (slopeK qs x)
    omega
  refine ⟨_, r1, r2.mono (Nat.le_refl _) (Nat.le_refl _) (by omega), by omega, ?_⟩
  have w := (mulK_ok o p mg.asc hmem).1
  have hmk : mulK ks qs A = prodP (fun x => slopeK ks x * slopeK qs x) A := rfl
  -- the straightened points
  have hst := straightened_spec w hc (fun q hq => by
    have := prodP_mem hf A hA q (by rw [← hmk]; exact hq)
    exact ⟨Nat.le_trans (hA _ this.1) ha, by omega⟩) (by rw [hmk, prodP_len]; omega)
  obtain ⟨f, hfe⟩ : ∃ f : Rat → Rat, f = fun x => slopeK ks x * slopeK qs x := ⟨_, rfl⟩
  rw [hmk, ← hfe] at hst ⊢
  -- the last amount
  obtain ⟨y, hy⟩ : ∃ y, A[A.length - 1]? = some y := ⟨_, List.getElem?_eq_getElem (by omega)⟩
  have hlast : atI (A.map encQ) (-1) = some (encQ y) := by
    have e := atI_m1 (xs := A.map encQ) (by simpa using hne)
    obtain ⟨hk, he⟩ := List.getElem?_eq_some_iff.mp hy
    rw [e, List.getLast_eq_getElem, ← he]
    simp
  have d0 : A.drop (A.length - 1 - 0) = [y] := by
    rw [Nat.sub_zero, drop_get hy, List.drop_eq_nil_iff.mpr (by omega)]
  obtain ⟨env', hf2, i5, i6, rfl⟩ := for_inv (gs := gsName 5) (mb := b1_product_knots) (ds := rangeC ((A.length : Int) - 2) (-1) (A.length - 1)) (env := [.has (.fz (.tup (ks.map encK))), .has (.fz (.tup (qs.map encK))), .has (.fz (.lst (A.map encQ))), .has (.fz (encQ y)), .has (.ls [.fz (encK (y, y))]), .un, .un])
    (fun i env => ∃ (i5 i6 : Sl), env = [.has (.fz (.tup (ks.map encK))), .has (.fz (.tup (qs.map encK))), .has (.fz (.lst (A.map encQ))), .has (.fz (encQ (vP f (A.drop (A.length - 1 - i))))), .has (.ls (((prodP f (A.drop (A.length - 1 - i))).reverse.map encK).map .fz)), i5, i6])
    ⟨.un, .un, by rw [d0]; rfl⟩ (by
      rintro i d env hd ⟨i5, i6, rfl⟩
      have hd' : d = .int ((A.length - 2 - i : Nat) : Int) ∧ i < A.length - 1 := by
        unfold rangeC at hd
        rw [List.getElem?_map] at hd
        obtain ⟨k, hk, rfl⟩ := Option.map_eq_some_iff.mp hd
        obtain ⟨hk1, hk2⟩ := List.getElem?_eq_some_iff.mp hk
        rw [List.length_range] at hk1
        rw [List.getElem_range] at hk2
        subst hk2
        refine ⟨?_, hk1⟩
        exact congrArg D.int (by omega)
      obtain ⟨rfl, hi⟩ := hd'
      obtain ⟨k, hk⟩ : ∃ k, k = A.length - 2 - i := ⟨_, rfl⟩
      rw [← hk]
      have ek1 : A.length - 1 - i = k + 1 := by omega
      have ek2 : A.length - 1 - (i + 1) = k := by omega
      rw [ek1, ek2]
      obtain ⟨x, hx⟩ : ∃ x, A[k]? = some x := ⟨_, List.getElem?_eq_getElem (by omega)⟩
      obtain ⟨x2, hx2⟩ : ∃ x, A[k + 1]? = some x := ⟨_, List.getElem?_eq_getElem (by omega)⟩
      have dk := drop_get hx
      have dk2 := drop_get hx2
      have e1 := at_get hx
      have e2 : atI (A.map encQ) ((k : Int) + 1) = some (encQ x2) := at_get hx2
      have zx := hA x (List.mem_of_getElem? hx)
      have zx2 := hA x2 (List.mem_of_getElem? hx2)
      have s1 := slope_at_spec o hc (z.ksz ha hv) (by omega) (a := x) (by omega)
      have s2 := slope_at_spec p hc (z'.ksz ha hv') (by omega) (a := x) (by omega)
      have z1 := slopeK_sz z h1 x
      have z2 := slopeK_sz z' h1' x
      have k1 := multiply_spec (a := slopeK ks x) (b := slopeK qs x) (by omega)
      have k1 : f_multiply [encQ (slopeK ks x), encQ (slopeK qs x)] = some (encQ (f x)) := by rw [hfe]; exact k1
      have zf : sz (f x) ≤ s + s' := by rw [hfe]; exact hf x
      have zg := sz_sub x2 x
      have k2 := subtract_spec (a := x2) (b := x) (by omega)
      have zm := sz_mul (f x) (x2 - x)
      have k3 := multiply_spec (a := f x) (b := x2 - x) (by omega)
      have zv : sz (vP f (A.drop (k + 1))) ≤ c := by
        have hf' : ∀ x, sz (f x) ≤ s + s' := fun x => by rw [hfe]; exact hf x
        have := vP_sz hf' (A.drop (k + 1)) fun q hq => hA q (List.mem_of_mem_drop hq)
        have hX2 : (A.drop (k + 1)).length * (s + s' + 2 * a + 5) ≤ m * (s + s' + 2 * a + 5) := Nat.mul_le_mul_right _ (by simp; omega)
        omega
      have k4 := subtract_spec (a := vP f (A.drop (k + 1))) (b := f x * (x2 - x)) (by omega)
      have ev : vP f (A.drop k) = vP f (A.drop (k + 1)) - f x * (x2 - x) := by
        rw [dk, dk2]; rfl
      rw [← ev] at k4
      have hap : ((prodP f (A.drop (k + 1))).reverse.map encK).map O.fz ++ [.fz (encK (x, vP f (A.drop k)))] = ((prodP f (A.drop k)).reverse.map encK).map .fz := by
        have e : prodP f (A.drop k) = (x, vP f (A.drop k)) :: prodP f (A.drop (k + 1)) := by
          rw [dk]; rfl
        rw [e, List.reverse_cons]
        simp
      have hol : (((prodP f (A.drop (k + 1))).reverse.map encK).map O.fz).length < 16777216 := by
        rw [List.length_map, List.length_map, List.length_reverse, prodP_len, List.length_drop]
        omega
      refine ⟨_, _, rfl, .inl ?_, .has (.fz (.int (k : Int))), .has (.fz (encQ (f x))), rfl⟩
      rw [← hap]
      clear hap ev dk dk2 hst r1 r2 r3 w hmk hfe
      show b1_product_knots [.has (.fz (.tup (ks.map encK))), .has (.fz (.tup (qs.map encK))), .has (.fz (.lst (A.map encQ))), .has (.fz (encQ (vP f (A.drop (k + 1))))), .has (.ls (((prodP f (A.drop (k + 1))).reverse.map encK).map .fz)), .has (.fz (.int (k : Int))), i6] = _
      generalize ((prodP f (A.drop (k + 1))).reverse.map encK).map O.fz = os at *
      generalize ks.map encK = KS at *
      generalize qs.map encK = QS at *
      generalize A.map encQ = AS at *
      unfold encK at *
      generalize encQ (vP f (A.drop k)) = v1 at *
      generalize encQ (vP f (A.drop (k + 1))) = v2 at *
      generalize encQ (f x * (x2 - x)) = v3 at *
      generalize encQ (f x) = v4 at *
      generalize encQ (x2 - x) = v5 at *
      generalize encQ (slopeK ks x) = v6 at *
      generalize encQ (slopeK qs x) = v7 at *
      generalize encQ x = v8 at *
      generalize encQ x2 = v9 at *
      simp -implicitDefEqProofs [b1_product_knots, e1, e2, s1, s2, k1, k2, k3, k4, hol])
  have hlC : (rangeC ((A.length : Int) - 2) (-1) (A.length - 1)).length = A.length - 1 := by unfold rangeC; simp
  rw [hlC, Nat.sub_self, List.drop_zero] at hf2
  have hrev : (((prodP f A).reverse.map encK).map O.fz).reverse = ((prodP f A).map encK).map O.fz := by
    rw [← List.map_reverse, ← List.map_reverse, List.reverse_reverse]
  have hfr := frz_ls ((prodP f A).map encK)
  have hll : ((A.map encQ).length : Int) = (A.length : Int) := by simp
  have hto : ((A.length : Int) - 2 + 1).toNat = A.length - 1 := by omega
  have b1 : -4611686018427387904 ≤ (A.length : Int) - 2 := by omega
  have b2 : (A.length : Int) - 2 < 4611686018427387904 := by omega
  clear r1 r2 r3 w hmk hfe
  refine (run_eq (by rfl)).trans ?_
  simp only [m_product_knots]
  generalize hos : ((prodP f A).reverse.map encK).map O.fz = os at *
  generalize ((prodP f A).map encK).map O.fz = os2 at *
  generalize (prodP f A).map encK = PS at *
  generalize (stR 0 (prodP f A)).map encK = RS at *
  generalize ks.map encK = KS at *
  generalize qs.map encK = QS at *
  generalize A.map encQ = AS at *
  unfold encK at *
  generalize encQ (vP f A) = v2 at *
  generalize encQ y = v9 at *
  simp -implicitDefEqProofs [startE, hf0, hlast, mR3, hll, b1, b2, hto, hf2, sRev, lsAt, hrev, hfr, hst]
def optC : Option Rat → D
  | none => .non
  | some a => encQ a
theorem optC_is (w : Option Rat) : oIsNot (.fz (optC w)) (.fz .non) = some (.fz (.bl w.isSome)) ∧ oIs (.fz (optC w)) (.fz .non) = some (.fz (.bl w.isNone)) := by
  cases w <;> exact ⟨rfl, rfl⟩
theorem cmpQ_cases (a b : Rat) : cmpQ a b = -1 ∨ cmpQ a b = 0 ∨ cmpQ a b = 1 := by
  unfold cmpQ
  split
  · exact .inl rfl
  · split
    · exact .inr (.inr rfl)
    · exact .inr (.inl rfl)
theorem cmp_cros (a b : Rat) : cmpQ a 0 * cmpQ b 0 < 0 ↔ crosB a b := by
  have a1 := cmpQ_lt (a := a) (b := 0)
  have a2 := cmpQ_gt (a := a) (b := 0)
  have b1 := cmpQ_lt (a := b) (b := 0)
  have b2 := cmpQ_gt (a := b) (b := 0)
  unfold crosB
  rw [← a1, ← a2, ← b1, ← b2]
  rcases cmpQ_cases a 0 with e | e | e <;> rcases cmpQ_cases b 0 with f | f | f <;> rw [e, f] <;> decide
theorem crossing_spec {ks qs : List (Rat × Rat)} (o : KOk ks) (p : KOk qs) {c : Nat} (hc : c ≤ 8000000) (hz : KSz c ks) (hw : KSz c qs) (hl1 : ks.length ≤ 1000000) (hl2 : qs.length ≤ 1000000) {x y : Rat} (hx : sz x ≤ c) (hy : sz y ≤ c) {V : Nat} (hV : V ≤ 1000000)
    (v1 : sz (valK ks x) ≤ V) (v2 : sz (valK qs x) ≤ V) (v3 : sz (valK ks y) ≤ V) (v4 : sz (valK qs y) ≤ V) :
    (¬ crosB (valK ks x - valK qs x) (valK ks y - valK qs y) → f_crossing [.tup (ks.map encK), .tup (qs.map encK), encQ x, encQ y] = some (optC none)) ∧
    (crosB (valK ks x - valK qs x) (valK ks y - valK qs y) → f_crossing [.tup (ks.map encK), .tup (qs.map encK), encQ x, encQ y] = some (optC (some (crosX (valK ks x - valK qs x) (valK ks y - valK qs y) x y)))) := by
  have w1 := value_at_spec o hc hz hl1 hx
  have w2 := value_at_spec p hc hw hl2 hx
  have w3 := value_at_spec o hc hz hl1 hy
  have w4 := value_at_spec p hc hw hl2 hy
  have k1 := subtract_spec (a := valK ks x) (b := valK qs x) (by omega)
  have k2 := subtract_spec (a := valK ks y) (b := valK qs y) (by omega)
  have z1 := sz_sub (valK ks x) (valK qs x)
  have z2 := sz_sub (valK ks y) (valK qs y)
  generalize hgl : valK ks x - valK qs x = gl at *
  generalize hgr : valK ks y - valK qs y = gr at *
  have c1 := compare_spec (a := gl) (b := 0) (by rw [sz_zero]; omega)
  have c2 := compare_spec (a := gr) (b := 0) (by rw [sz_zero]; omega)
  have e0 : d_ZERO = encQ 0 := encQ_zero.symm
  have hmul : mulOk (cmpQ gl 0) (cmpQ gr 0) = true := by
    rcases cmpQ_cases gl 0 with e | e | e <;> rw [e] <;> exact mul_okL (by decide)
  have hcr := cmp_cros gl gr
  constructor
  · intro h
    have hge : 0 ≤ cmpQ gl 0 * cmpQ gr 0 := by
      have := mt hcr.mp h
      omega
    refine (run_eq (by rfl)).trans ?_
    simp only [m_crossing, e0]
    generalize ks.map encK = KS at *
    generalize qs.map encK = QS at *
    generalize cmpQ gl 0 = u at *
    generalize cmpQ gr 0 = w at *
    generalize encQ (valK ks x) = q1 at *
    generalize encQ (valK qs x) = q2 at *
    generalize encQ (valK ks y) = q3 at *
    generalize encQ (valK qs y) = q4 at *
    generalize encQ gl = q5 at *
    generalize encQ gr = q6 at *
    generalize encQ x = q7 at *
    generalize encQ y = q8 at *
    generalize encQ 0 = Z at *
    simp -implicitDefEqProofs [startE, w1, w2, w3, w4, k1, k2, c1, c2, hmul, hge, optC]
  · intro h
    have hge : ¬ 0 ≤ cmpQ gl 0 * cmpQ gr 0 := by
      have := hcr.mpr h
      omega
    have hne : gl - gr ≠ 0 := by
      rcases h with h | h <;> grind
    have z3 := sz_sub gl gr
    have z4 := sz_div gl (gl - gr)
    have z5 := sz_sub y x
    have z6 := sz_mul (gl / (gl - gr)) (y - x)
    have k3 := subtract_spec (a := gl) (b := gr) (by omega)
    have k4 := divide_spec (a := gl) (b := gl - gr) hne (by omega)
    have k5 := subtract_spec (a := y) (b := x) (by omega)
    have k6 := multiply_spec (a := gl / (gl - gr)) (b := y - x) (by omega)
    have k7 := add_spec (a := x) (b := gl / (gl - gr) * (y - x)) (by omega)
    have k7 : f_add [encQ x, encQ (gl / (gl - gr) * (y - x))] = some (encQ (crosX gl gr x y)) := k7
    refine (run_eq (by rfl)).trans ?_
    simp only [m_crossing, e0]
    generalize crosX gl gr x y = m at *
    generalize gl / (gl - gr) * (y - x) = t1 at *
    generalize gl / (gl - gr) = t2 at *
    generalize gl - gr = t3 at *
    generalize y - x = t4 at *
    generalize ks.map encK = KS at *
    generalize qs.map encK = QS at *
    generalize cmpQ gl 0 = u at *
    generalize cmpQ gr 0 = w at *
    generalize encQ (valK ks x) = q1 at *
    generalize encQ (valK qs x) = q2 at *
    generalize encQ (valK ks y) = q3 at *
    generalize encQ (valK qs y) = q4 at *
    generalize encQ gl = q5 at *
    generalize encQ gr = q6 at *
    generalize encQ x = q7 at *
    generalize encQ y = q8 at *
    generalize encQ t1 = r1 at *
    generalize encQ t2 = r2 at *
    generalize encQ t3 = r3 at *
    generalize encQ t4 = r4 at *
    generalize hr5 : encQ m = r5 at *
    generalize encQ 0 = Z at *
    simp -implicitDefEqProofs [startE, w1, w2, w3, w4, k1, k2, c1, c2, hmul, hge, k3, k4, k5, k6, k7, optC, hr5]
noncomputable def jpost : SM :=
  sSeq (sAsg 6 (mCall f_value_at (mCons (mName 0) (mCons (mFz (m2 oIx (mView 2) (mView 4))) (mNil)))))
  (sSeq (sAsg 7 (mCall f_value_at (mCons (mName 1) (mCons (mFz (m2 oIx (mView 2) (mView 4))) (mNil)))))
  (sSeq (sIf (mTst (m2 oLt (mCall f_compare (mCons (mName 6) (mCons (mName 7) (mNil)))) (mC (.int 0)))) (sAsg 6 (mName 7)) (sNext))
  (sApp 3 (mTup (mCons (mFz (m2 oIx (mView 2) (mView 4))) (mCons (mName 6) (mNil)))))))
noncomputable def jpre : SM :=
  sIf (mTst (m2 oGt (mView 4) (mC (.int 0)))) (sSeq (sAsg 5 (mCall f_crossing (mCons (mName 0) (mCons (mName 1) (mCons (mFz (m2 oIx (mView 2) (m2 oSub (mView 4) (mC (.int 1))))) (mCons (mFz (m2 oIx (mView 2) (mView 4))) (mNil)))))))
  (sIf (mTst (m2 oIsNot (mView 5) (mC .non))) (sApp 3 (mTup (mCons (mName 5) (mCons (mCall f_value_at (mCons (mName 0) (mCons (mName 5) (mNil)))) (mNil))))) (sNext))) (sNext)
theorem jbody : b1_join_knots = sSeq jpre jpost := rfl
theorem mem_drop_k {A : List Rat} {k : Nat} {x : Rat} (h : A[k]? = some x) : x ∈ A := List.mem_of_getElem? h
structure JI (F : Rat → Rat) (A : List Rat) (M : Nat) (i : Nat) (ps : List (Rat × Rat)) : Prop where
  pts : Pts F ps
  z : i = 0 → ps = []
  ne : 0 < i → ps ≠ []
  fst : ∀ y, 0 < i → A[0]? = some y → (kAt ps 0).1 = y
  lst : ∀ y, 0 < i → A[i - 1]? = some y → (kAt ps (ps.length - 1)).1 = y
  len : ps.length ≤ 2 * i
  sz : ∀ q ∈ ps, sz q.1 ≤ M ∧ sz q.2 ≤ M
theorem kAt_last' {ps : List (Rat × Rat)} {q : Rat × Rat} : kAt (ps ++ [q]) ((ps ++ [q]).length - 1) = q := by
  have : (ps ++ [q]).length - 1 = ps.length := by simp
  rw [this, kAt_last]
theorem kAt_first' {ps : List (Rat × Rat)} {q : Rat × Rat} (h : ps ≠ []) : kAt (ps ++ [q]) 0 = kAt ps 0 := kAt_app (List.length_pos_iff.mpr h)
theorem join_knots_spec {ks qs : List (Rat × Rat)} (o : KOk ks) (p : KOk qs) {a s v : Nat} (z : KZ a s v ks) (w : KZ a s v qs) (hb : a + s + v ≤ 100000) (hl1 : ks.length ≤ 1000) (hl2 : qs.length ≤ 1000) :
    ∃ R : List (Rat × Rat), KOk R ∧ (∀ x, valK R x = mx (valK ks x) (valK qs x)) ∧ KSz (16 * (a + s + v) + 30) R ∧ R.length ≤ 2 * (ks.length + qs.length) ∧ f_join_knots [.tup (ks.map encK), .tup (qs.map encK)] = some (.tup (R.map encK)) := by
  obtain ⟨M, hM⟩ : ∃ M, M = 16 * (a + s + v) + 30 := ⟨_, rfl⟩
  rw [← hM]
  have hzc : KSz 8000000 ks := z.ksz (by omega) (by omega)
  have hwc : KSz 8000000 qs := w.ksz (by omega) (by omega)
  have hlk := o.len
  obtain ⟨A, mg, hf0⟩ := merged_amounts_spec o p (c := 8000000) (by omega) hzc hwc (by omega) (by omega)
  have hmem : ∀ x, x ∈ A ↔ x ∈ ks.map (·.1) ++ qs.map (·.1) := fun x => by
    rw [mg.mem, amt_mem, amt_mem, List.mem_append]
  have hlen := mg.len
  have hne : A ≠ [] := fun e => by
    have := (hmem (kAt ks 0).1).mpr (List.mem_append_left _ (List.mem_map.mpr ⟨_, kAt_mem hlk, rfl⟩))
    rw [e] at this
    simp at this
  have hpos : 0 < A.length := List.length_pos_iff.mpr hne
  have hA : ∀ x ∈ A, sz x ≤ a := fun x hx => by
    rcases List.mem_append.mp ((hmem x).mp hx) with h | h
    · obtain ⟨q, hq, rfl⟩ := List.mem_map.mp h
      exact z.am q hq
    · obtain ⟨q, hq, rfl⟩ := List.mem_map.mp h
      exact w.am q hq
  have gap : ∀ {k : Nat} {x y : Rat}, A[k]? = some x → A[k + 1]? = some y → x < y ∧ (∀ q ∈ ks, q.1 ≤ x ∨ y ≤ q.1) ∧ (∀ q ∈ qs, q.1 ≤ x ∨ y ≤ q.1) := fun {k x y} hx hy => by
    obtain ⟨k1, rfl⟩ := List.getElem?_eq_some_iff.mp hx
    obtain ⟨k2, rfl⟩ := List.getElem?_eq_some_iff.mp hy
    have asc := List.pairwise_iff_getElem.mp mg.asc
    have key : ∀ t ∈ A, t ≤ A[k] ∨ A[k + 1] ≤ t := fun t ht => by
      obtain ⟨j, hj, rfl⟩ := List.mem_iff_getElem.mp ht
      rcases Nat.lt_trichotomy j k with h | h | h
      · exact .inl (Rat.le_of_lt (asc j k hj k1 h))
      · subst h; exact .inl Rat.le_refl
      · by_cases e : j = k + 1
        · subst e; exact .inr Rat.le_refl
        · exact .inr (Rat.le_of_lt (asc (k + 1) j k2 hj (by omega)))
    exact ⟨asc k (k + 1) k1 k2 (by omega), fun q hq => key _ ((hmem _).mpr (List.mem_append_left _ (List.mem_map.mpr ⟨q, hq, rfl⟩))), fun q hq => key _ ((hmem _).mpr (List.mem_append_right _ (List.mem_map.mpr ⟨q, hq, rfl⟩)))⟩
  have hlA : ((A.map encQ).length : Int) = (A.length : Int) := by simp
  have hri : (A.length : Int) < 4611686018427387904 := by omega
  obtain ⟨F, hF⟩ : ∃ F : Rat → Rat, F = fun x => mx (valK ks x) (valK qs x) := ⟨_, rfl⟩
  have post : ∀ (i : Nat) (y : Rat) (os : List O) (j5 j6 j7 : Sl), A[i]? = some y → os.length < 16777216 → jpost [.has (.fz (.tup (ks.map encK))), .has (.fz (.tup (qs.map encK))), .has (.fz (.lst (A.map encQ))), .has (.ls os), .has (.fz (.int (i : Int))), j5, j6, j7] =
      some (.nx [.has (.fz (.tup (ks.map encK))), .has (.fz (.tup (qs.map encK))), .has (.fz (.lst (A.map encQ))), .has (.ls (os ++ [.fz (encK (y, F y))])), .has (.fz (.int (i : Int))), j5, .has (.fz (encQ (F y))), .has (.fz (encQ (valK qs y)))]) := fun i y os j5 j6 j7 hy hol => by
    have e1 := at_get hy
    have zy := hA y (List.mem_of_getElem? hy)
    have v1 := value_at_spec o (c := 8000000) (by omega) hzc (by omega) (a := y) (by omega)
    have v2 := value_at_spec p (c := 8000000) (by omega) hwc (by omega) (a := y) (by omega)
    have y1 := valK_kz o z y
    have y2 := valK_kz p w y
    have cm := compare_spec (a := valK ks y) (b := valK qs y) (by omega)
    have hcm := cmpQ_lt (a := valK ks y) (b := valK qs y)
    have hFy : F y = mx (valK ks y) (valK qs y) := by rw [hF]
    unfold mx at hFy
    by_cases h : valK ks y < valK qs y
    · have h' := hcm.mpr h
      rw [if_pos h] at hFy
      rw [hFy]
      clear hf0
      generalize ks.map encK = KS at *
      generalize qs.map encK = QS at *
      generalize A.map encQ = AS at *
      unfold encK
      generalize cmpQ (valK ks y) (valK qs y) = u at *
      show _ = some (Out.nx [_, _, _, .has (.ls (os ++ [.fz (.tup [encQ y, encQ (valK qs y)])])), _, _, _, _])
      generalize encQ (valK ks y) = q1 at *
      generalize encQ (valK qs y) = q2 at *
      generalize encQ y = q3 at *
      simp -implicitDefEqProofs [jpost, e1, v1, v2, cm, h', hol]
    · have h' := mt hcm.mp h
      rw [if_neg h] at hFy
      rw [hFy]
      clear hf0
      generalize ks.map encK = KS at *
      generalize qs.map encK = QS at *
      generalize A.map encQ = AS at *
      unfold encK
      generalize cmpQ (valK ks y) (valK qs y) = u at *
      show _ = some (Out.nx [_, _, _, .has (.ls (os ++ [.fz (.tup [encQ y, encQ (valK ks y)])])), _, _, _, _])
      generalize encQ (valK ks y) = q1 at *
      generalize encQ (valK qs y) = q2 at *
      generalize encQ y = q3 at *
      simp -implicitDefEqProofs [jpost, e1, v1, v2, cm, h', hol]
  have zF : ∀ y, sz y ≤ a → sz (F y) ≤ M := fun y zy => by
    have y1 := valK_kz o z y
    have y2 := valK_kz p w y
    have hFy : F y = mx (valK ks y) (valK qs y) := by rw [hF]
    rw [hFy]
    rcases mx_or (valK ks y) (valK qs y) with e | e <;> rw [e] <;> omega
  obtain ⟨env', hf, ps, i4, i5, i6, i7, rfl, J⟩ := for_inv (gs := gsName 4) (mb := b1_join_knots) (ds := rangeD 0 A.length) (env := [.has (.fz (.tup (ks.map encK))), .has (.fz (.tup (qs.map encK))), .has (.fz (.lst (A.map encQ))), .has (.ls []), .un, .un, .un, .un])
    (fun i env => ∃ (ps : List (Rat × Rat)) (i4 i5 i6 i7 : Sl), env = [.has (.fz (.tup (ks.map encK))), .has (.fz (.tup (qs.map encK))), .has (.fz (.lst (A.map encQ))), .has (.ls ((ps.map encK).map .fz)), i4, i5, i6, i7] ∧ JI F A M i ps)
    ⟨[], .un, .un, .un, .un, rfl, ⟨Pts.nil F, fun _ => rfl, fun h => absurd h (Nat.lt_irrefl 0), fun _ h => absurd h (Nat.lt_irrefl 0), fun _ h => absurd h (Nat.lt_irrefl 0), Nat.zero_le _, fun q hq => by simp at hq⟩⟩ (by
      rintro i d env hd ⟨ps, i4, i5, i6, i7, rfl, J⟩
      obtain ⟨hi, rfl⟩ := rangeD0_get hd
      obtain ⟨y, hy⟩ : ∃ y, A[i]? = some y := ⟨_, List.getElem?_eq_getElem hi⟩
      have zy := hA y (List.mem_of_getElem? hy)
      have zFy := zF y zy
      have hlps := J.len
      have hap : ∀ (ps : List (Rat × Rat)) (q : Rat × Rat), (ps.map encK).map O.fz ++ [.fz (encK q)] = ((ps ++ [q]).map encK).map .fz := fun ps q => by simp
      by_cases h0 : i = 0
      · subst h0
        have e := J.z rfl
        subst e
        refine ⟨_, _, rfl, .inl ?_, [(y, F y)], .has (.fz (.int ((0 : Nat) : Int))), i5, .has (.fz (encQ (F y))), .has (.fz (encQ (valK qs y))), rfl, ?_⟩
        · show b1_join_knots [.has (.fz (.tup (ks.map encK))), .has (.fz (.tup (qs.map encK))), .has (.fz (.lst (A.map encQ))), .has (.ls []), .has (.fz (.int ((0 : Nat) : Int))), i5, i6, i7] = _
          have e1 : jpre [.has (.fz (.tup (ks.map encK))), .has (.fz (.tup (qs.map encK))), .has (.fz (.lst (A.map encQ))), .has (.ls []), .has (.fz (.int ((0 : Nat) : Int))), i5, i6, i7] = some (.nx [.has (.fz (.tup (ks.map encK))), .has (.fz (.tup (qs.map encK))), .has (.fz (.lst (A.map encQ))), .has (.ls []), .has (.fz (.int ((0 : Nat) : Int))), i5, i6, i7]) := by
            generalize ks.map encK = KS at *
            generalize qs.map encK = QS at *
            generalize A.map encQ = AS at *
            simp -implicitDefEqProofs [jpre]
          rw [jbody, e_sSeq, e1]
          exact post 0 y [] i5 i6 i7 hy (by decide)
        · refine ⟨(Pts.nil F).snoc (q := (y, F y)) rfl fun h => absurd rfl h, fun h => by omega, fun _ => by simp, fun y' _ hy' => ?_, fun y' _ hy' => ?_, by simp, fun q hq => ?_⟩
          · rw [hy] at hy'; cases hy'; rfl
          · rw [hy] at hy'; cases hy'; rfl
          · rw [List.mem_singleton.mp hq]; exact ⟨by show sz y ≤ M; omega, zFy⟩
      · obtain ⟨j, rfl⟩ : ∃ j, i = j + 1 := ⟨i - 1, by omega⟩
        obtain ⟨x, hx⟩ : ∃ x, A[j]? = some x := ⟨_, List.getElem?_eq_getElem (by omega)⟩
        have zx := hA x (List.mem_of_getElem? hx)
        obtain ⟨hxy, n1, n2⟩ := gap hx hy
        have l1 := lin_val o n1
        have l2 := lin_val p n2
        have elst := J.lst x (by omega) hx
        have hne' := J.ne (by omega)
        have y1 := valK_kz o z x
        have y2 := valK_kz p w x
        have y3 := valK_kz o z y
        have y4 := valK_kz p w y
        have cr := crossing_spec o p (c := 8000000) (by omega) hzc hwc (by omega) (by omega) (x := x) (y := y) (by omega) (by omega) (V := 8 * (a + s + v) + 30) (by omega) (by omega) (by omega) (by omega) (by omega)
        have e1 : atI (A.map encQ) (((j + 1 : Nat) : Int) - 1) = some (encQ x) := by
          have e : ((j + 1 : Nat) : Int) - 1 = (j : Int) := by omega
          rw [e]; exact at_get hx
        have e2 := at_get hy
        have hgt : 0 < ((j + 1 : Nat) : Int) := by omega
        have hol : ((ps.map encK).map O.fz).length < 16777216 := by rw [List.length_map, List.length_map]; omega
        by_cases hcb : crosB (valK ks x - valK qs x) (valK ks y - valK qs y)
        · obtain ⟨x1, x2, x3, x4, x5⟩ := cros_yes l1 l2 hxy hcb
          have hc1 := cr.2 hcb
          have zm : sz (crosX (valK ks x - valK qs x) (valK ks y - valK qs y) x y) ≤ 15 * a + 6 * s + 6 * v + 24 := by
            have z1 := sz_sub (valK ks x) (valK qs x)
            have z2 := sz_sub (valK ks y) (valK qs y)
            unfold crosX
            generalize valK ks x - valK qs x = gl at *
            generalize valK ks y - valK qs y = gr at *
            have z3 := sz_sub gl gr
            have z4 := sz_div gl (gl - gr)
            have z5 := sz_sub y x
            have z6 := sz_mul (gl / (gl - gr)) (y - x)
            have z7 := sz_add x (gl / (gl - gr) * (y - x))
            omega
          have ym := valK_kz o z (crosX (valK ks x - valK qs x) (valK ks y - valK qs y) x y)
          have vm := value_at_spec o (c := 8000000) (by omega) hzc (by omega) (a := crosX (valK ks x - valK qs x) (valK ks y - valK qs y) x y) (by omega)
          obtain ⟨m, hm⟩ : ∃ m, m = crosX (valK ks x - valK qs x) (valK ks y - valK qs y) x y := ⟨_, rfl⟩
          rw [← hm] at x1 x2 x3 x4 x5 hc1 zm ym vm
          have fm : valK ks m = F m := by
            rw [hF]
            show _ = mx (valK ks m) (valK qs m)
            rw [← x3, mx_self]
          rw [fm] at ym vm
          have hol2 : (((ps ++ [(m, F m)]).map encK).map O.fz).length < 16777216 := by rw [List.length_map, List.length_map]; simp; omega
          have p1 : Pts F (ps ++ [(m, F m)]) := J.pts.snoc rfl fun _ => ⟨by rw [elst]; exact x1, by rw [elst, hF]; exact x4⟩
          have p2 : Pts F (ps ++ [(m, F m)] ++ [(y, F y)]) := p1.snoc rfl fun _ => by
            rw [kAt_last']
            exact ⟨x2, by rw [hF]; exact x5⟩
          refine ⟨_, _, rfl, .inl ?_, ps ++ [(m, F m)] ++ [(y, F y)], .has (.fz (.int ((j + 1 : Nat) : Int))), .has (.fz (encQ m)), .has (.fz (encQ (F y))), .has (.fz (encQ (valK qs y))), rfl, ⟨p2, fun h => by omega, fun _ => by simp, fun y' _ hy' => ?_, fun y' _ hy' => ?_, by simp; omega, fun q hq => ?_⟩⟩
          · show b1_join_knots [.has (.fz (.tup (ks.map encK))), .has (.fz (.tup (qs.map encK))), .has (.fz (.lst (A.map encQ))), .has (.ls ((ps.map encK).map .fz)), .has (.fz (.int ((j + 1 : Nat) : Int))), i5, i6, i7] = _
            have pre : jpre [.has (.fz (.tup (ks.map encK))), .has (.fz (.tup (qs.map encK))), .has (.fz (.lst (A.map encQ))), .has (.ls ((ps.map encK).map .fz)), .has (.fz (.int ((j + 1 : Nat) : Int))), i5, i6, i7] = some (.nx [.has (.fz (.tup (ks.map encK))), .has (.fz (.tup (qs.map encK))), .has (.fz (.lst (A.map encQ))), .has (.ls (((ps ++ [(m, F m)]).map encK).map .fz)), .has (.fz (.int ((j + 1 : Nat) : Int))), .has (.fz (encQ m)), i6, i7]) := by
              rw [← hap]
              have hio : isN (.fz (encQ m)) = false := rfl
              clear J p1 p2 post x4 x5 l1 l2 hap hol2 hf0 hmem mg
              generalize ((j + 1 : Nat) : Int) = jj at *
              generalize (ps.map encK).map O.fz = os at *
              generalize ks.map encK = KS at *
              generalize qs.map encK = QS at *
              generalize A.map encQ = AS at *
              have hom : optC (some m) = encQ m := rfl
              rw [hom] at hc1
              unfold encK
              show _ = some (Out.nx [_, _, _, .has (.ls (os ++ [.fz (.tup [encQ m, encQ (F m)])])), _, _, _, _])
              generalize encQ (F m) = q1 at *
              generalize encQ m = q2 at *
              generalize encQ x = q3 at *
              generalize encQ y = q4 at *
              simp -implicitDefEqProofs [jpre, e1, e2, hgt, hc1, hio, vm, hol]
            rw [jbody, e_sSeq, pre]
            refine (post (j + 1) y _ (.has (.fz (encQ m))) i6 i7 hy hol2).trans ?_
            rw [hap]
          · rw [kAt_first' (by simp), kAt_first' hne']
            exact J.fst y' (by omega) hy'
          · rw [kAt_last']
            rw [Nat.add_sub_cancel, hy] at hy'
            cases hy'; rfl
          · rcases List.mem_append.mp hq with hq | hq
            · rcases List.mem_append.mp hq with hq | hq
              · exact J.sz q hq
              · rw [List.mem_singleton.mp hq]
                exact ⟨by show sz m ≤ M; omega, by show sz (F m) ≤ M; omega⟩
            · rw [List.mem_singleton.mp hq]
              exact ⟨by show sz y ≤ M; omega, zFy⟩
        · have x4 := cros_no l1 l2 hxy hcb
          have hc1 := cr.1 hcb
          have p2 : Pts F (ps ++ [(y, F y)]) := J.pts.snoc rfl fun _ => ⟨by rw [elst]; exact hxy, by rw [elst, hF]; exact x4⟩
          refine ⟨_, _, rfl, .inl ?_, ps ++ [(y, F y)], .has (.fz (.int ((j + 1 : Nat) : Int))), .has (.fz .non), .has (.fz (encQ (F y))), .has (.fz (encQ (valK qs y))), rfl, ⟨p2, fun h => by omega, fun _ => by simp, fun y' _ hy' => ?_, fun y' _ hy' => ?_, by simp; omega, fun q hq => ?_⟩⟩
          · show b1_join_knots [.has (.fz (.tup (ks.map encK))), .has (.fz (.tup (qs.map encK))), .has (.fz (.lst (A.map encQ))), .has (.ls ((ps.map encK).map .fz)), .has (.fz (.int ((j + 1 : Nat) : Int))), i5, i6, i7] = _
            have pre : jpre [.has (.fz (.tup (ks.map encK))), .has (.fz (.tup (qs.map encK))), .has (.fz (.lst (A.map encQ))), .has (.ls ((ps.map encK).map .fz)), .has (.fz (.int ((j + 1 : Nat) : Int))), i5, i6, i7] = some (.nx [.has (.fz (.tup (ks.map encK))), .has (.fz (.tup (qs.map encK))), .has (.fz (.lst (A.map encQ))), .has (.ls ((ps.map encK).map .fz)), .has (.fz (.int ((j + 1 : Nat) : Int))), .has (.fz .non), i6, i7]) := by
              have hom : optC none = .non := rfl
              rw [hom] at hc1
              clear J p2 post x4 l1 l2 hap hf0 hmem mg
              generalize ((j + 1 : Nat) : Int) = jj at *
              generalize (ps.map encK).map O.fz = os at *
              generalize ks.map encK = KS at *
              generalize qs.map encK = QS at *
              generalize A.map encQ = AS at *
              generalize encQ x = q3 at *
              generalize encQ y = q4 at *
              simp -implicitDefEqProofs [jpre, e1, e2, hgt, hc1]
            rw [jbody, e_sSeq, pre]
            refine (post (j + 1) y _ (.has (.fz .non)) i6 i7 hy hol).trans ?_
            rw [hap]
          · rw [kAt_first' hne']
            exact J.fst y' (by omega) hy'
          · rw [kAt_last']
            rw [Nat.add_sub_cancel, hy] at hy'
            cases hy'; rfl
          · rcases List.mem_append.mp hq with hq | hq
            · exact J.sz q hq
            · rw [List.mem_singleton.mp hq]
              exact ⟨by show sz y ≤ M; omega, zFy⟩)
  rw [rangeD_len] at J
  obtain ⟨y0, hy0⟩ : ∃ y, A[0]? = some y := ⟨_, List.getElem?_eq_getElem hpos⟩
  obtain ⟨yn, hyn⟩ : ∃ y, A[A.length - 1]? = some y := ⟨_, List.getElem?_eq_getElem (by omega)⟩
  have f0 := J.fst y0 hpos hy0
  have fn := J.lst yn hpos hyn
  have lowA : ∀ t ∈ A, y0 ≤ t := fun t ht => by
    obtain ⟨k0, rfl⟩ := List.getElem?_eq_some_iff.mp hy0
    obtain ⟨j, hj, rfl⟩ := List.mem_iff_getElem.mp ht
    by_cases e : j = 0
    · subst e; exact Rat.le_refl
    · exact Rat.le_of_lt (List.pairwise_iff_getElem.mp mg.asc 0 j k0 hj (by omega))
  have highA : ∀ t ∈ A, t ≤ yn := fun t ht => by
    obtain ⟨k0, rfl⟩ := List.getElem?_eq_some_iff.mp hyn
    obtain ⟨j, hj, rfl⟩ := List.mem_iff_getElem.mp ht
    by_cases e : j = A.length - 1
    · subst e; exact Rat.le_refl
    · exact Rat.le_of_lt (List.pairwise_iff_getElem.mp mg.asc j (A.length - 1) hj k0 (by omega))
  have mk : ∀ q ∈ ks, q.1 ∈ A := fun q hq => (hmem _).mpr (List.mem_append_left _ (List.mem_map.mpr ⟨q, hq, rfl⟩))
  have mq : ∀ q ∈ qs, q.1 ∈ A := fun q hq => (hmem _).mpr (List.mem_append_right _ (List.mem_map.mpr ⟨q, hq, rfl⟩))
  obtain ⟨wk, ok, vals⟩ := pts_curve (F := F) (by rw [hF]; exact cvx_mx (cvx_val o) (cvx_val p)) J.pts (J.ne hpos) (fun x hx => by
    rw [f0] at hx ⊢
    rw [hF]
    show mx (valK ks x) (valK qs x) = mx (valK ks y0) (valK qs y0)
    rw [low_le o fun q hq => Rat.le_trans hx (lowA _ (mk q hq)), low_le p fun q hq => Rat.le_trans hx (lowA _ (mq q hq)), low_le o fun q hq => lowA _ (mk q hq), low_le p fun q hq => lowA _ (mq q hq)]) (fun x hx => by
    rw [fn] at hx
    rw [hF]
    show mx (valK ks x) (valK qs x) = x
    rw [val_top o ((top_le o x).mp fun q hq => Rat.le_trans (highA _ (mk q hq)) hx), val_top p ((top_le p x).mp fun q hq => Rat.le_trans (highA _ (mq q hq)) hx), mx_self])
  have hlps := J.len
  have hst := straightened_spec wk (c := M) (by omega) (fun q hq => J.sz q hq) (by omega)
  have hslen := stR_len ps 0
  refine ⟨stR 0 ps, ok, fun x => by rw [vals, hF], fun q hq => J.sz q (stR_mem _ _ q hq), by omega, ?_⟩
  have hfr := frz_ls (ps.map encK)
  clear J wk ok vals post
  refine (run_eq (by rfl)).trans ?_
  simp only [m_join_knots]
  generalize (stR 0 ps).map encK = RS at *
  generalize (ps.map encK).map O.fz = os at *
  generalize ps.map encK = PS at *
  generalize ks.map encK = KS at *
  generalize qs.map encK = QS at *
  generalize A.map encQ = AS at *
  simp -implicitDefEqProofs [startE, hf0, mR1, hlA, hri, hf, hfr, hst]
noncomputable def mtest : EM Bool := mAnd (mTst (m2 oGt (mL gLen (mCons (mView 2) (mNil))) (mC (.int 1)))) (mTst (m2 oGe (mCall f_compare (mCons (mCall f_line_slope (mCons (mFz (m2 oIx (mView 2) (m1 oNeg (mC (.int 2))))) (mCons (mFz (m2 oIx (mView 2) (m1 oNeg (mC (.int 1))))) (mNil)))) (mCons (mCall f_line_slope (mCons (mFz (m2 oIx (mView 2) (m1 oNeg (mC (.int 1))))) (mCons (mName 6) (mNil)))) (mNil)))) (mC (.int 0))))
def hullO (s : List (Rat × Rat)) : List O := (s.reverse.map encK).map O.fz
theorem hull_len (s : List (Rat × Rat)) : (hullO s).length = s.length := by unfold hullO; simp
theorem hull_m1 (t : Rat × Rat) (r : List (Rat × Rat)) : atI (hullO (t :: r)) (-1) = some (.fz (encK t)) := by
  have hn : hullO (t :: r) ≠ [] := fun e => by
    have := hull_len (t :: r)
    rw [e] at this
    simp at this
  rw [atI_m1 hn]
  unfold hullO
  simp
theorem hull_m2 (t q : Rat × Rat) (r : List (Rat × Rat)) : atI (hullO (t :: q :: r)) (-2) = some (.fz (encK q)) := by
  have hl := hull_len (t :: q :: r)
  have hl2 : (hullO (t :: q :: r)).length = r.length + 2 := by rw [hl]; simp
  have e : ixN (hullO (t :: q :: r)).length (-2) = some r.length := by
    rw [hl2]
    unfold ixN
    simp
    omega
  unfold atI
  rw [e, Option.bind_some]
  unfold hullO
  rw [List.getElem?_map, List.getElem?_map, List.reverse_cons, List.reverse_cons, List.append_assoc, List.getElem?_append_right (by simp)]
  simp
theorem hull_pop (t : Rat × Rat) (r : List (Rat × Rat)) : (hullO (t :: r)).dropLast = hullO r := by
  unfold hullO
  rw [List.reverse_cons, List.map_append, List.map_append]
  simp
theorem hull_push (t : Rat × Rat) (r : List (Rat × Rat)) : hullO r ++ [.fz (encK t)] = hullO (t :: r) := by
  unfold hullO
  simp
/-- the stack while points are taken off it -/
structure PI (ks qs : List (Rat × Rat)) (Z : List Rat) (P : Rat × Rat) (s : List (Rat × Rat)) : Prop where
  stk : Stk s
  mem : ∀ q ∈ s, q.1 ∈ Z ∧ q.2 = mn (valK ks q.1) (valK qs q.1)
  hd : ∀ q ∈ s, q.1 < P.1
  abv : ∀ y ∈ Z, Abv (P :: s) (y, mn (valK ks y) (valK qs y))
  bot : ∀ q, s.getLast? = some q → q.2 ≤ P.2
theorem PI.pop {ks qs : List (Rat × Rat)} {Z : List Rat} {P t q : Rat × Rat} {r : List (Rat × Rat)} (h : PI ks qs Z P (t :: q :: r)) (hs : slP t P ≤ slP q t) : PI ks qs Z P (q :: r) :=
  ⟨h.stk.2.2, fun x hx => h.mem x (List.mem_cons_of_mem _ hx), fun x hx => h.hd x (List.mem_cons_of_mem _ hx), fun y hy => abv_pop h.stk.1 (h.hd t (by simp)) hs (h.abv y hy), fun x hx => h.bot x (by rw [List.getLast?_cons_cons]; exact hx)⟩
theorem pop_loop {ks qs : List (Rat × Rat)} {Z : List Rat} {P : Rat × Rat} {c : Nat} (hc : c ≤ 8000000) (hP : sz P.1 ≤ c ∧ sz P.2 ≤ c) (hZ : ∀ q : Rat × Rat, q.1 ∈ Z → q.2 = mn (valK ks q.1) (valK qs q.1) → sz q.1 ≤ c ∧ sz q.2 ≤ c) (s0 s1 s3 s4 s5 : Sl) : ∀ (d : Nat) (s : List (Rat × Rat)), s.length ≤ d → PI ks qs Z P s →
    ∃ s', PI ks qs Z P s' ∧ (∀ q ∈ s'.head?, bef s' ≤ slP q P) ∧ s'.length ≤ s.length ∧ (s ≠ [] → s' ≠ []) ∧ s'.getLast? = s.getLast? ∧ whileF mtest b1_meet_knots (d + 1) [s0, s1, .has (.ls (hullO s)), s3, s4, s5, .has (.fz (encK P))] = some (.nx [s0, s1, .has (.ls (hullO s')), s3, s4, s5, .has (.fz (encK P))]) := fun d => by
  induction d with
  | zero =>
    intro s hs h
    have e : s = [] := List.length_eq_zero_iff.mp (by omega)
    subst e
    refine ⟨[], h, fun q hq => by simp at hq, Nat.le_refl _, fun h => h, rfl, ?_⟩
    have hl : ((hullO []).length : Int) = 0 := by rw [hull_len]; rfl
    generalize hullO [] = os at *
    simp -implicitDefEqProofs [whileF, mtest, hl]
  | succ d ih =>
    intro s hs h
    match s, hs, h with
    | [], hs, h =>
      refine ⟨[], h, fun q hq => by simp at hq, Nat.le_refl _, fun h => h, rfl, ?_⟩
      have hl : ((hullO []).length : Int) = 0 := by rw [hull_len]; rfl
      generalize hullO [] = os at *
      simp -implicitDefEqProofs [whileF, mtest, hl]
    | [q], hs, h =>
      refine ⟨[q], h, fun x hx => ?_, Nat.le_refl _, fun h => h, rfl, ?_⟩
      · cases hx
        show 0 ≤ slP q P
        have hlt := h.hd q (by simp)
        have m := slP_mul hlt
        have b := h.bot q rfl
        exact nn_of_mul (show 0 < P.1 - q.1 by grind) (by rw [m]; grind)
      · have hl : ((hullO [q]).length : Int) = 1 := by rw [hull_len]; rfl
        generalize hullO [q] = os at *
        simp -implicitDefEqProofs [whileF, mtest, hl]
    | t :: q :: r, hs, h =>
      have hl : ((hullO (t :: q :: r)).length : Int) = (r.length : Int) + 2 := by rw [hull_len]; simp; omega
      have hgt : 1 < (r.length : Int) + 2 := by omega
      have e1 := hull_m1 t (q :: r)
      have e2 := hull_m2 t q r
      have mht := h.mem t (by simp)
      have mhq := h.mem q (by simp)
      have zt := hZ t mht.1 mht.2
      have zq := hZ q mhq.1 mhq.2
      have hqt := h.stk.1
      have htP := h.hd t (by simp)
      have l1 := line_slope_spec hc zq zt (by grind)
      have l1 : f_line_slope [encK q, encK t] = some (encQ (slP q t)) := l1
      have l2 := line_slope_spec hc zt hP (by grind)
      have l2 : f_line_slope [encK t, encK P] = some (encQ (slP t P)) := l2
      have y1 : sz (slP q t) ≤ 4 * c + 2 := by
        have z1 := sz_sub t.2 q.2
        have z2 := sz_sub t.1 q.1
        have z3 := sz_div (t.2 - q.2) (t.1 - q.1)
        unfold slP
        omega
      have y2 : sz (slP t P) ≤ 4 * c + 2 := by
        have z1 := sz_sub P.2 t.2
        have z2 := sz_sub P.1 t.1
        have z3 := sz_div (P.2 - t.2) (P.1 - t.1)
        unfold slP
        omega
      have cm := compare_spec (a := slP q t) (b := slP t P) (by omega)
      have hcm := cmpQ_lt (a := slP q t) (b := slP t P)
      by_cases hlt : slP q t < slP t P
      · have hn := hcm.mpr hlt
        have hn' : ¬ 0 ≤ cmpQ (slP q t) (slP t P) := by omega
        refine ⟨t :: q :: r, h, fun x hx => ?_, Nat.le_refl _, fun h => h, rfl, ?_⟩
        · cases hx
          exact Rat.le_of_lt hlt
        · generalize hullO (t :: q :: r) = os at *
          generalize encK t = v1 at *
          generalize encK q = v2 at *
          generalize encK P = v3 at *
          generalize encQ (slP q t) = v4 at *
          generalize encQ (slP t P) = v5 at *
          generalize cmpQ (slP q t) (slP t P) = u at *
          simp -implicitDefEqProofs [whileF, mtest, hl, hgt, e1, e2, l1, l2, cm, hn']
      · have hn := mt hcm.mp hlt
        have hn' : 0 ≤ cmpQ (slP q t) (slP t P) := by omega
        obtain ⟨s', a1, a2, a3, a4, a5, a6⟩ := ih (q :: r) (by simp at hs ⊢; omega) (h.pop (Rat.not_lt.mp hlt))
        refine ⟨s', a1, a2, by simp at a3 ⊢; omega, fun _ => a4 (by simp), by rw [a5, List.getLast?_cons_cons], ?_⟩
        have hpop := hull_pop t (q :: r)
        have hl0 : ¬ (hullO (t :: q :: r)).length = 0 := by rw [hull_len]; simp
        have hl1 : ¬ hullO (t :: q :: r) = [] := fun e => hl0 (by rw [e]; rfl)
        have test : mtest [s0, s1, .has (.ls (hullO (t :: q :: r))), s3, s4, s5, .has (.fz (encK P))] = some (true, [s0, s1, .has (.ls (hullO (t :: q :: r))), s3, s4, s5, .has (.fz (encK P))]) := by
          generalize hullO (t :: q :: r) = os at *
          generalize encK t = v1 at *
          generalize encK q = v2 at *
          generalize encK P = v3 at *
          generalize encQ (slP q t) = v4 at *
          generalize encQ (slP t P) = v5 at *
          generalize cmpQ (slP q t) (slP t P) = u at *
          simp -implicitDefEqProofs [mtest, hl, hgt, e1, e2, l1, l2, cm, hn']
        have body : b1_meet_knots [s0, s1, .has (.ls (hullO (t :: q :: r))), s3, s4, s5, .has (.fz (encK P))] = some (.nx [s0, s1, .has (.ls (hullO (q :: r))), s3, s4, s5, .has (.fz (encK P))]) := by
          rw [← hpop]
          generalize hullO (t :: q :: r) = os at *
          generalize encK P = v3 at *
          simp -implicitDefEqProofs [b1_meet_knots, sPop, lsAt, hl1]
        rw [whileF, test, Option.bind_some, if_pos rfl, body]
        exact a6
theorem meet_knots_spec {ks qs : List (Rat × Rat)} (o : KOk ks) (p : KOk qs) {a s v : Nat} (z : KZ a s v ks) (w : KZ a s v qs) (hb : a + s + v ≤ 400000) (hl1 : ks.length ≤ 1000) (hl2 : qs.length ≤ 1000) :
    ∃ R : List (Rat × Rat), MeetK ks qs R ∧ KZ a (2 * (v + s + 2 * a + 3) + 2 * a + 2) (v + s + 2 * a + 3) R ∧ R.length ≤ ks.length + qs.length ∧ f_meet_knots [.tup (ks.map encK), .tup (qs.map encK)] = some (.tup (R.map encK)) := by
  obtain ⟨V, hV⟩ : ∃ V, V = v + s + 2 * a + 3 := ⟨_, rfl⟩
  rw [← hV]
  have hzc : KSz 8000000 ks := z.ksz (by omega) (by omega)
  have hwc : KSz 8000000 qs := w.ksz (by omega) (by omega)
  have hlk := o.len
  obtain ⟨A, mg, hf0⟩ := merged_amounts_spec o p (c := 8000000) (by omega) hzc hwc (by omega) (by omega)
  have hmem : ∀ x, x ∈ A ↔ x ∈ ks.map (·.1) ++ qs.map (·.1) := fun x => by
    rw [mg.mem, amt_mem, amt_mem, List.mem_append]
  have hlen := mg.len
  have hne : A ≠ [] := fun e => by
    have := (hmem (kAt ks 0).1).mpr (List.mem_append_left _ (List.mem_map.mpr ⟨_, kAt_mem hlk, rfl⟩))
    rw [e] at this
    simp at this
  have hpos : 0 < A.length := List.length_pos_iff.mpr hne
  have hA : ∀ x ∈ A, sz x ≤ a := fun x hx => by
    rcases List.mem_append.mp ((hmem x).mp hx) with h | h
    · obtain ⟨q, hq, rfl⟩ := List.mem_map.mp h
      exact z.am q hq
    · obtain ⟨q, hq, rfl⟩ := List.mem_map.mp h
      exact w.am q hq
  have asc := List.pairwise_iff_getElem.mp mg.asc
  have zV : ∀ y ∈ A, sz (mn (valK ks y) (valK qs y)) ≤ V := fun y hy => by
    have zy := hA y hy
    have y1 := valK_kz o z y
    have y2 := valK_kz p w y
    rcases mn_or (valK ks y) (valK qs y) with e | e <;> rw [e] <;> omega
  obtain ⟨env', hf, s, i3, i4, i5, i6, rfl, I, hnil, hcons, hbot, hsl⟩ := for_inv (gs := gsName 3) (mb := b2_meet_knots) (ds := A.map encQ) (env := [.has (.fz (.tup (ks.map encK))), .has (.fz (.tup (qs.map encK))), .has (.ls []), .un, .un, .un, .un])
    (fun i env => ∃ (s : List (Rat × Rat)) (i3 i4 i5 i6 : Sl), env = [.has (.fz (.tup (ks.map encK))), .has (.fz (.tup (qs.map encK))), .has (.ls (hullO s)), i3, i4, i5, i6] ∧ StkI ks qs (A.take i) s ∧ (i = 0 → s = []) ∧ (0 < i → ∃ t r, s = t :: r ∧ A[i - 1]? = some t.1) ∧ (∀ q, s.getLast? = some q → A[0]? = some q.1) ∧ s.length ≤ i)
    ⟨[], .un, .un, .un, .un, rfl, ⟨trivial, fun q hq => by simp at hq, fun y hy => by simp at hy⟩, fun _ => rfl, fun h => absurd h (Nat.lt_irrefl 0), fun q hq => by simp at hq, Nat.le_refl _⟩ (by
      rintro i d env hd ⟨s, i3, i4, i5, i6, rfl, I, hnil, hcons, hbot, hsl⟩
      rw [List.getElem?_map] at hd
      obtain ⟨y, hy, rfl⟩ := Option.map_eq_some_iff.mp hd
      obtain ⟨hi, hyi⟩ := List.getElem?_eq_some_iff.mp hy
      have hyA : y ∈ A := List.mem_of_getElem? hy
      have zy := hA y hyA
      have zVy := zV y hyA
      have v1 := value_at_spec o (c := 8000000) (by omega) hzc (by omega) (a := y) (by omega)
      have v2 := value_at_spec p (c := 8000000) (by omega) hwc (by omega) (a := y) (by omega)
      have y1 := valK_kz o z y
      have y2 := valK_kz p w y
      have cm := compare_spec (a := valK qs y) (b := valK ks y) (by omega)
      have hcm := cmpQ_lt (a := valK qs y) (b := valK ks y)
      obtain ⟨P, hP⟩ : ∃ P : Rat × Rat, P = (y, mn (valK ks y) (valK qs y)) := ⟨_, rfl⟩
      have htake : A.take (i + 1) = A.take i ++ [y] := by rw [List.take_add_one, hy]; rfl
      have hlt : ∀ x ∈ A.take i, x < y := fun x hx => by
        obtain ⟨k, hk, rfl⟩ := List.mem_iff_getElem.mp hx
        rw [List.length_take] at hk
        rw [List.getElem_take, ← hyi]
        exact asc k i (by omega) hi (by omega)
      have hle0 : ∀ q, s.getLast? = some q → q.2 ≤ P.2 := fun q hq => by
        have hm := I.mem q (List.mem_of_getLast? hq)
        have hq1 := hlt _ hm.1
        rw [hm.2, hP]
        exact mn_ge (Rat.le_trans (mn_l _ _) (valK_mono o (Rat.le_of_lt hq1)).1) (Rat.le_trans (mn_r _ _) (valK_mono p (Rat.le_of_lt hq1)).1)
      have pi : PI ks qs (A.take i) P s := ⟨I.stk, I.mem, fun q hq => by rw [hP]; exact hlt _ (I.mem q hq).1, fun x hx => abv_push (I.abv x hx), hle0⟩
      obtain ⟨s', J, j2, j3, j4, j5, j6⟩ := pop_loop (c := 8000000) (by omega) (P := P) (by rw [hP]; exact ⟨by show sz y ≤ _; omega, by show sz (mn _ _) ≤ _; omega⟩) (fun q h1 h2 => by
        have hq := List.mem_of_mem_take h1
        have := zV _ hq
        rw [h2]
        exact ⟨by have := hA _ hq; omega, by omega⟩) (.has (.fz (.tup (ks.map encK)))) (.has (.fz (.tup (qs.map encK)))) (.has (.fz (encQ y))) (.has (.fz (encQ (mn (valK ks y) (valK qs y))))) (.has (.fz (encQ (valK qs y)))) _ s (Nat.le_refl _) pi
      have hw := sWhile_of j6
      have hol : (hullO s').length < 16777216 := by rw [hull_len]; omega
      refine ⟨_, _, rfl, .inl ?_, P :: s', .has (.fz (encQ y)), .has (.fz (encQ (mn (valK ks y) (valK qs y)))), .has (.fz (encQ (valK qs y))), .has (.fz (encK P)), rfl, ⟨stk_push J.stk fun q hq => ⟨J.hd q (List.mem_of_head? hq), j2 q hq⟩, fun q hq => ?_, fun x hx => ?_⟩, fun h => absurd h (Nat.succ_ne_zero i), fun _ => ⟨P, s', rfl, ?_⟩, fun q hq => ?_, by simp; omega⟩
      · unfold mtest at hw
        show b2_meet_knots [.has (.fz (.tup (ks.map encK))), .has (.fz (.tup (qs.map encK))), .has (.ls (hullO s)), .has (.fz (encQ y)), i4, i5, i6] = _
        rw [← hull_push]
        simp only [b2_meet_knots]
        clear I pi J hf0 hle0 j6
        have hPe : encK P = .tup [encQ y, encQ (mn (valK ks y) (valK qs y))] := by rw [hP]; rfl
        rw [hPe] at hw ⊢
        generalize hsw : sWhile (mAnd (mTst (m2 oGt (mL gLen (mCons (mView 2) (mNil))) (mC (.int 1)))) (mTst (m2 oGe (mCall f_compare (mCons (mCall f_line_slope (mCons (mFz (m2 oIx (mView 2) (m1 oNeg (mC (.int 2))))) (mCons (mFz (m2 oIx (mView 2) (m1 oNeg (mC (.int 1))))) (mNil)))) (mCons (mCall f_line_slope (mCons (mFz (m2 oIx (mView 2) (m1 oNeg (mC (.int 1))))) (mCons (mName 6) (mNil)))) (mNil)))) (mC (.int 0))))) b1_meet_knots = sw at *
        generalize hullO s = os at *
        generalize hullO s' = os' at *
        generalize ks.map encK = KS at *
        generalize qs.map encK = QS at *
        unfold mn at hw ⊢
        by_cases h : valK qs y < valK ks y
        · have h' := hcm.mpr h
          rw [if_pos h] at hw ⊢
          generalize cmpQ (valK qs y) (valK ks y) = u at *
          generalize encQ (valK ks y) = q1 at *
          generalize encQ (valK qs y) = q2 at *
          generalize encQ y = q3 at *
          simp -implicitDefEqProofs [v1, v2, cm, h', hw, hol]
        · have h' := mt hcm.mp h
          rw [if_neg h] at hw ⊢
          generalize cmpQ (valK qs y) (valK ks y) = u at *
          generalize encQ (valK ks y) = q1 at *
          generalize encQ (valK qs y) = q2 at *
          generalize encQ y = q3 at *
          simp -implicitDefEqProofs [v1, v2, cm, h', hw, hol]
      · rw [htake]
        rcases List.mem_cons.mp hq with e | e
        · rw [e, hP]
          exact ⟨by simp, rfl⟩
        · exact ⟨List.mem_append_left _ (J.mem q e).1, (J.mem q e).2⟩
      · rw [htake] at hx
        rcases List.mem_append.mp hx with hx | hx
        · exact J.abv x hx
        · rw [List.mem_singleton.mp hx, ← hP]
          exact abv_self P s' fun q hq => J.hd q (List.mem_of_head? hq)
      · rw [Nat.add_sub_cancel, hy, hP]
      · cases s' with
        | nil =>
          have e : s = [] := Classical.byContradiction fun hn => (j4 hn) rfl
          have hi0 : i = 0 := by
            apply Classical.byContradiction
            intro hn
            obtain ⟨t, r, h, _⟩ := hcons (by omega)
            rw [e] at h; cases h
          subst hi0
          have : q = P := by
            have : some P = some q := hq
            exact (Option.some.inj this).symm
          rw [this, hP]; exact hy
        | cons x r =>
          rw [List.getLast?_cons_cons, j5] at hq
          exact hbot q hq)
  rw [List.length_map] at I hcons hsl
  rw [List.take_length] at I
  obtain ⟨t, r, rfl, ht⟩ := hcons hpos
  have highA : ∀ x ∈ A, x ≤ t.1 := fun x hx => by
    obtain ⟨k0, hk0⟩ := List.getElem?_eq_some_iff.mp ht
    obtain ⟨j, hj, rfl⟩ := List.mem_iff_getElem.mp hx
    rw [← hk0]
    by_cases e : j = A.length - 1
    · subst e; exact Rat.le_refl
    · exact Rat.le_of_lt (asc j (A.length - 1) hj k0 (by omega))
  obtain ⟨wk, mk⟩ := meet_res o p hmem I highA
  have hsz : ∀ q ∈ (t :: r).reverse, sz q.1 ≤ a ∧ sz q.2 ≤ V := fun q hq => by
    have hm := I.mem q (List.mem_reverse.mp hq)
    refine ⟨hA _ hm.1, ?_⟩
    rw [hm.2]; exact zV _ hm.1
  have hrl : ((t :: r).reverse).length ≤ ks.length + qs.length := by rw [List.length_reverse]; omega
  have hst := straightened_spec wk (c := 8000000) (by omega) (fun q hq => by have := hsz q hq; omega) (by omega)
  have hslen := stR_len (t :: r).reverse 0
  have hsz2 : ∀ q ∈ stR 0 (t :: r).reverse, sz q.1 ≤ a ∧ sz q.2 ≤ V := fun q hq => hsz q (stR_mem _ _ q hq)
  refine ⟨stR 0 (t :: r).reverse, mk, ⟨fun q hq => (hsz2 q hq).1, fun k hk => ?_, fun q hq => (hsz2 q hq).2⟩, by omega, ?_⟩
  · have x1 := hsz2 _ (kAt_mem (k := k) (by omega))
    have x2 := hsz2 _ (kAt_mem hk)
    generalize stR 0 (t :: r).reverse = R at *
    have z1 := sz_sub (kAt R (k + 1)).2 (kAt R k).2
    have z2 := sz_sub (kAt R (k + 1)).1 (kAt R k).1
    have z3 := sz_div ((kAt R (k + 1)).2 - (kAt R k).2) ((kAt R (k + 1)).1 - (kAt R k).1)
    unfold sl
    omega
  · have hfr := frz_ls ((t :: r).reverse.map encK)
    have hho : hullO (t :: r) = ((t :: r).reverse.map encK).map O.fz := rfl
    rw [hho] at hf
    have ei : D.items (.lst (A.map encQ)) = some (A.map encQ) := rfl
    clear I wk mk hsz hsz2 hbot hcons hnil
    refine (run_eq (by rfl)).trans ?_
    simp only [m_meet_knots]
    generalize (stR 0 (t :: r).reverse).map encK = RS at *
    generalize ((t :: r).reverse.map encK).map O.fz = os at *
    generalize (t :: r).reverse.map encK = PS at *
    generalize ks.map encK = KS at *
    generalize qs.map encK = QS at *
    generalize A.map encQ = AS at *
    simp -implicitDefEqProofs [startE, hf0, ei, hf, hfr, hst]
theorem law_cell_spec (ns : List Int) (k : Nat) : f__law_cell [.lst (ns.map D.int), .int (k : Int)] = some (.int (cellZ ns k)) := by
  refine (run_eq (by rfl)).trans ?_
  have hm : mulOk 5 (k : Int) = true := mul_okL (by decide)
  by_cases h : k < ns.length
  · have e : atI (ns.map D.int) (k : Int) = some (.int ns[k]) := by
      rw [atI_nat' (by simpa using h), List.getElem?_map, List.getElem?_eq_getElem h]; rfl
    simp -implicitDefEqProofs [m__law_cell, startE, h, e, cellZ]
  · simp -implicitDefEqProofs [m__law_cell, startE, h, hm, cellZ]
theorem law_draws_spec (c : Int) (n : Nat) (hn : n ≤ 1000) : ∃ ds : List Int, f__law_draws [.int c, .int (n : Int)] = some (.lst (ds.map D.int)) ∧ ds.length = n ∧ ∀ d ∈ ds, 0 ≤ d ∧ d < 5040 := by
  generalize hz : (if c < 0 then -c else c) = z
  have key : ∃ env', forL (gsName 6) b1__law_draws (rangeD 0 n) [.has (.fz (.int c)), .has (.fz (.int n)), .has (.fz (.int z)), .has (.fz (.bl (decide (1000000000000000000 ≤ z)))), .has (.fz (.int z)), .has (.ls []), .un, .un] = some (.nx env') ∧
      ∃ (rest : Int) (ds : List Int) (k m : Sl), env' = [.has (.fz (.int c)), .has (.fz (.int n)), .has (.fz (.int rest)), .has (.fz (.bl (decide (1000000000000000000 ≤ z)))), .has (.fz (.int z)), .has (.ls (ds.map fun d => .fz (.int d))), k, m] ∧ ds.length = (rangeD 0 n).length ∧ ∀ d ∈ ds, 0 ≤ d ∧ d < 5040 := by
    refine for_inv (fun i env => ∃ (rest : Int) (ds : List Int) (k m : Sl), env = [.has (.fz (.int c)), .has (.fz (.int n)), .has (.fz (.int rest)), .has (.fz (.bl (decide (1000000000000000000 ≤ z)))), .has (.fz (.int z)), .has (.ls (ds.map fun d => .fz (.int d))), k, m] ∧ ds.length = i ∧ ∀ d ∈ ds, 0 ≤ d ∧ d < 5040)
      ⟨z, [], .un, .un, rfl, rfl, by simp⟩ ?_
    rintro i d env hd ⟨rest, ds, k, m, rfl, hl, hb⟩
    obtain ⟨hi, rfl⟩ := rangeD_get hd
    have hlz : ds.length < 16777216 := by omega
    have push : ∀ x : Int, 0 ≤ x ∧ x < 5040 → ((ds.map fun d => O.fz (.int d)) ++ [.fz (.int x)] = (ds ++ [x]).map (fun d => O.fz (.int d))) ∧ (ds ++ [x]).length = i + 1 ∧ ∀ d ∈ ds ++ [x], 0 ≤ d ∧ d < 5040 := fun x hx => by
      refine ⟨by simp, by simp [hl], fun d hd => ?_⟩
      rcases List.mem_append.mp hd with h | h
      · exact hb d h
      · rw [List.mem_singleton.mp h]; exact hx
    have m1 : mulOk z 48271 = true := mul_okR (by decide)
    have m2' : mulOk (0 + (i : Int) + 1) 69621 = true := mul_okR (by decide)
    by_cases hc : 1000000000000000000 ≤ z ∧ 0 < rest
    · obtain ⟨p1, p2, p3⟩ := push (rest.fmod 5040) ⟨Int.fmod_nonneg_of_pos _ (by decide), Int.fmod_lt_of_pos _ (by decide)⟩
      refine ⟨_, _, rfl, .inl ?_, rest.fdiv 5040, ds ++ [rest.fmod 5040], .has (.fz (.int (0 + (i : Int)))), m, rfl, p2, p3⟩
      simp -implicitDefEqProofs [b1__law_draws, hc.1, hc.2, hlz]
    · generalize hx : (z * 48271 + (0 + (i : Int) + 1) * 69621 + 11).fmod 2147483647 = x
      have hx0 : 0 ≤ x := by rw [← hx]; exact Int.fmod_nonneg_of_pos _ (by decide)
      have hx1 : x < 2147483647 := by rw [← hx]; exact Int.fmod_lt_of_pos _ (by decide)
      have m3 : mulOk x x = true := mul_okL (by omega)
      have m4 : mulOk 40692 (0 + (i : Int) + 3) = true := mul_okL (by decide)
      obtain ⟨p1, p2, p3⟩ := push ((((x * x + 40692 * (0 + (i : Int) + 3)).fmod 2147483399).fdiv 64).fmod 5040) ⟨Int.fmod_nonneg_of_pos _ (by decide), Int.fmod_lt_of_pos _ (by decide)⟩
      refine ⟨_, _, rfl, .inl ?_, rest, _, .has (.fz (.int (0 + (i : Int)))), .has (.fz (.int ((x * x + 40692 * (0 + (i : Int) + 3)).fmod 2147483399))), rfl, p2, p3⟩
      rw [Int.zero_add] at hx m2' m4 ⊢
      have hc' : 1000000000000000000 ≤ z → ¬ 0 < rest := fun h1 h2 => hc ⟨h1, h2⟩
      by_cases h1 : 1000000000000000000 ≤ z
      · simp -implicitDefEqProofs [b1__law_draws, h1, hc' h1, m1, m2', m3, m4, hx, hlz]
      · simp -implicitDefEqProofs [b1__law_draws, h1, m1, m2', m3, m4, hx, hlz]
  obtain ⟨env', h1, rest, ds, k, m, rfl, h2, h3⟩ := key
  refine ⟨ds, ?_, by rw [h2, rangeD_len], h3⟩
  refine (run_eq (by rfl)).trans ?_
  have hn2 : (n : Int) < 4611686018427387904 := by omega
  have e5 : O.frzs (ds.map fun d => O.fz (.int d)) = ds.map D.int := by rw [frzs_map, List.map_map]; exact List.map_congr_left fun d _ => by simp
  simp -implicitDefEqProofs [m__law_draws, startE, hz, mR1, hn2, h1, e5]
/-- the draws of a cell -/
noncomputable def drw (c : Int) (n : Nat) : List Int := open Classical in if h : n ≤ 1000 then Classical.choose (law_draws_spec c n h) else []
theorem drw_spec (c : Int) (n : Nat) (h : n ≤ 1000) : f__law_draws [.int c, .int (n : Int)] = some (.lst ((drw c n).map D.int)) ∧ (drw c n).length = n ∧ ∀ d ∈ drw c n, 0 ≤ d ∧ d < 5040 := by
  unfold drw
  rw [dif_pos h]
  exact Classical.choose_spec (law_draws_spec c n h)
noncomputable def drwAt (c : Int) (n i : Nat) : Int := (drw c n)[i]?.getD 0
theorem drw_at (c : Int) (n i : Nat) (h : n ≤ 1000) (hi : i < n) : atI ((drw c n).map D.int) (i : Int) = some (.int (drwAt c n i)) ∧ 0 ≤ drwAt c n i ∧ drwAt c n i < 5040 := by
  obtain ⟨_, h2, h3⟩ := drw_spec c n h
  have e : drwAt c n i = (drw c n)[i]'(by omega) := by
    unfold drwAt
    rw [List.getElem?_eq_getElem (by omega)]; rfl
  rw [e]
  refine ⟨?_, h3 _ (List.getElem_mem _)⟩
  rw [atI_nat' (by rw [List.length_map]; omega), List.getElem?_map, List.getElem?_eq_getElem (by omega)]; rfl
theorem law_head_spec (ns : List Int) : ∃ (c : Int) (ds : List D), f__law_head [.lst (ns.map D.int)] = some (.lst (.int c :: ds)) ∧ 0 ≤ c ∧ c < 5040 := by
  have c0 : f__law_cell [.lst (ns.map D.int), .int 0] = some (.int (cellZ ns 0)) := law_cell_spec ns 0
  obtain ⟨ds, h1, h2, h3⟩ := law_draws_spec (cellZ ns 0) 3 (by decide)
  match ds, h2 with
  | [a, b, e], _ =>
    refine ⟨a, [.int b, .int e], (run_eq (by rfl)).trans ?_, h3 a (by simp)⟩
    have h1 : f__law_draws [.int (cellZ ns 0), .int 3] = some (.lst [.int a, .int b, .int e]) := h1
    simp -implicitDefEqProofs [m__law_head, startE, c0, h1]
theorem low_loop : ∀ (k : Nat) (n d a b : Int) (x4 : Sl), b.toNat ≤ k → 0 ≤ a → 0 ≤ b → ∃ f x4', whileF (mTst (m2 oGt (mView 3) (mC (.int 0)))) b1__law_low f [.has (.fz (.int n)), .has (.fz (.int d)), .has (.fz (.int a)), .has (.fz (.int b)), x4] = some (.nx [.has (.fz (.int n)), .has (.fz (.int d)), .has (.fz (.int ((Nat.gcd a.natAbs b.natAbs : Nat) : Int))), .has (.fz (.int 0)), x4'])
  | k, n, d, a, b, x2, hk, ha, hb => by
    by_cases h0 : b = 0
    · subst h0
      refine ⟨1, x2, ?_⟩
      have : ((a.natAbs : Nat) : Int) = a := by omega
      simp -implicitDefEqProofs [whileF, this]
    · have e : a.fmod b = a % b := Int.fmod_eq_emod_of_nonneg _ hb
      have h1 : 0 ≤ a % b := Int.emod_nonneg _ h0
      have h2 : a % b < b := Int.emod_lt_of_pos _ (by omega)
      match k, hk with
      | 0, hk => omega
      | k + 1, hk =>
        obtain ⟨f, x2', h⟩ := low_loop k n d b (a % b) (.has (.fz (.int (a % b)))) (by omega) hb h1
        refine ⟨f + 1, x2', ?_⟩
        have hb' : (0 : Int) < b := by omega
        have e2 : Nat.gcd a.natAbs b.natAbs = Nat.gcd b.natAbs (a % b).natAbs := by
          rw [gcd_step, Int.natAbs_emod_of_nonneg ha]
        rw [whileF]
        simp -implicitDefEqProofs [hb', h0, e, b1__law_low]
        rw [e2]
        exact h
theorem law_low_spec (n d : Int) (h : d ≠ 0) : f__law_low [.int n, .int d] = some (encQ (Rat.divInt n d)) := by
  have hg : (((Nat.gcd n.natAbs d.natAbs : Nat) : Int)) ≠ 0 := by
    have : Nat.gcd n.natAbs d.natAbs ≠ 0 := Nat.gcd_ne_zero_right (by omega)
    omega
  refine (run_eq (by rfl)).trans ?_
  obtain ⟨f, x2', h'⟩ := low_loop _ n d (if n < 0 then -n else n) (if d < 0 then -d else d) .un (Nat.le_refl _) (by split <;> omega) (by split <;> omega)
  have h' := sWhile_of h'
  have e1 : (if n < 0 then -n else n).natAbs = n.natAbs := by split <;> omega
  have e2 : (if d < 0 then -d else d).natAbs = d.natAbs := by split <;> omega
  rw [e1, e2] at h'
  by_cases hs : d < 0
  · obtain ⟨q1, q2⟩ := divInt_parts_pos (-n) (d := -d) (by omega)
    rw [Rat.neg_divInt_neg, Int.natAbs_neg, Int.natAbs_neg] at q1 q2
    simp -implicitDefEqProofs only [hs, if_true] at h'
    simp -implicitDefEqProofs [m__law_low, startE, h', hs, encQ, q1, q2, hg, h]
  · obtain ⟨q1, q2⟩ := divInt_parts_pos n (d := d) (by omega)
    simp -implicitDefEqProofs only [hs, if_false] at h'
    simp -implicitDefEqProofs [m__law_low, startE, h', hs, encQ, q1, q2, hg, h]
theorem law_is_integer_spec (i : Int) : f__law_is_integer [.int i] = some (.bl true) := by
  refine (run_eq (by rfl)).trans ?_
  simp -implicitDefEqProofs [m__law_is_integer, startE, isiO]
theorem law_is_ratio_spec (q : Rat) : f__law_is_ratio [encQ q] = some (.bl true) := by
  refine (run_eq (by rfl)).trans ?_
  have h1 : ¬ ((q.den : Int) < 1) := by have := den_pos' q; omega
  have h2 := law_low_spec q.num q.den (den_ne q)
  rw [Rat.num_divInt_den] at h2
  have h3 := (eqQ q q).1
  simp -implicitDefEqProofs only [encQ] at h2 h3
  have h4 := q.den_nz
  simp -implicitDefEqProofs [m__law_is_ratio, startE, isiO, encQ, law_is_integer_spec, h1, h2, h3, h4]
theorem law_add_spec {a b : Rat} (h' : sz a + sz b ≤ 134217728 := by omega) : f__law_add [encQ a, encQ b] = some (encQ (a + b)) := by
  refine (run_eq (by rfl)).trans ?_
  obtain ⟨h1, h2, h3, h4, h5⟩ := oks h'
  have e := law_low_spec (a.num * b.den + b.num * a.den) (a.den * b.den) (Int.mul_ne_zero (den_ne a) (den_ne b))
  rw [add_divInt] at e
  skip
  simp -implicitDefEqProofs [m__law_add, startE, encQ, h1, h2, h3, h4, h5]
  simp -implicitDefEqProofs [encQ] at e
  simp -implicitDefEqProofs [e]
theorem law_sub_spec {a b : Rat} (h' : sz a + sz b ≤ 134217728 := by omega) : f__law_sub [encQ a, encQ b] = some (encQ (a - b)) := by
  refine (run_eq (by rfl)).trans ?_
  obtain ⟨h1, h2, h3, h4, h5⟩ := oks h'
  have e := law_low_spec (a.num * b.den - b.num * a.den) (a.den * b.den) (Int.mul_ne_zero (den_ne a) (den_ne b))
  rw [sub_divInt] at e
  skip
  simp -implicitDefEqProofs [m__law_sub, startE, encQ, h1, h2, h3, h4, h5]
  simp -implicitDefEqProofs [encQ] at e
  simp -implicitDefEqProofs [e]
theorem law_mul_spec {a b : Rat} (h' : sz a + sz b ≤ 134217728 := by omega) : f__law_mul [encQ a, encQ b] = some (encQ (a * b)) := by
  refine (run_eq (by rfl)).trans ?_
  obtain ⟨h1, h2, h3, h4, h5⟩ := oks h'
  have e := law_low_spec (a.num * b.num) (a.den * b.den) (Int.mul_ne_zero (den_ne a) (den_ne b))
  rw [mul_divInt] at e
  skip
  simp -implicitDefEqProofs [m__law_mul, startE, encQ, h1, h2, h3, h4, h5]
  simp -implicitDefEqProofs [encQ] at e
  simp -implicitDefEqProofs [e]
theorem law_div_spec {a b : Rat} (h0 : b ≠ 0) (h' : sz a + sz b ≤ 134217728 := by omega) : f__law_div [encQ a, encQ b] = some (encQ (a / b)) := by
  refine (run_eq (by rfl)).trans ?_
  obtain ⟨h1, h2, h3, h4, h5⟩ := oks h'
  have e := law_low_spec (a.num * b.den) (a.den * b.num) (Int.mul_ne_zero (den_ne a) (num_ne h0))
  rw [div_divInt] at e
  have h6 := num_ne h0
  simp -implicitDefEqProofs [m__law_div, startE, encQ, h1, h2, h3, h4, h5, h6]
  simp -implicitDefEqProofs [encQ] at e
  simp -implicitDefEqProofs [e]
theorem law_less_spec {a b : Rat} (h' : sz a + sz b ≤ 134217728 := by omega) : f__law_less [encQ a, encQ b] = some (.bl (decide (a < b))) := by
  refine (run_eq (by rfl)).trans ?_
  obtain ⟨h1, h2, h3, h4, h5⟩ := oks h'
  have l1 := lt_cross a b
  have e : decide (a < b) = decide (a.num * (b.den : Int) < b.num * (a.den : Int)) := decide_eq_decide.mpr l1.symm
  rw [e]
  simp -implicitDefEqProofs [m__law_less, startE, encQ, h1, h2]
theorem law_fraction_spec (d : Int) : ∃ q : Rat, f__law_fraction [.int d] = some (encQ q) ∧ sz q ≤ 4 := by
  obtain ⟨p, hp, p0, p1⟩ : ∃ x, d.fmod 13 - 6 = x ∧ -6 ≤ x ∧ x ≤ 6 := ⟨_, rfl, by have := Int.fmod_nonneg_of_pos d (b := 13) (by decide); omega, by have := Int.fmod_lt_of_pos d (b := 13) (by decide); omega⟩
  obtain ⟨w, hw, w0, w1⟩ : ∃ x, 1 + (d.fdiv 13).fmod 4 = x ∧ 1 ≤ x ∧ x ≤ 4 := ⟨_, rfl, by have := Int.fmod_nonneg_of_pos (d.fdiv 13) (b := 4) (by decide); omega, by have := Int.fmod_lt_of_pos (d.fdiv 13) (b := 4) (by decide); omega⟩
  refine ⟨Rat.divInt p w, ?_, sz_divInt (by omega) (by omega) (by decide)⟩
  have e := law_low_spec p w (by omega)
  refine (run_eq (by rfl)).trans ?_
  simp -implicitDefEqProofs [m__law_fraction, startE, hp, hw, e]
theorem e_sumD {is : List Int} : gSum [.ls ((is.map D.int).map .fz)] = some (.fz (.int is.sum)) := by
  have e : (is.map D.int).map O.fz = is.map fun i => O.fz (.int i) := by rw [List.map_map]; rfl
  rw [e]; exact e_sum
def psum (G : Nat → Int) (m : Nat) : Int := ((List.range m).map G).sum
theorem psum_succ (G : Nat → Int) (m : Nat) : psum G (m + 1) = psum G m + G m := by
  unfold psum
  rw [List.range_succ, List.map_append, List.sum_append]; simp
theorem psum_le {G : Nat → Int} (hG : ∀ k, 1 ≤ G k ∧ G k ≤ 5) : ∀ m : Nat, (m : Int) ≤ psum G m ∧ psum G m ≤ 5 * m
  | 0 => by unfold psum; simp
  | m + 1 => by
    have := psum_le hG m
    have := hG m
    rw [psum_succ]
    omega
theorem psum_mono {G : Nat → Int} (hG : ∀ k, 1 ≤ G k ∧ G k ≤ 5) {m : Nat} : ∀ {n : Nat}, m < n → psum G m < psum G n
  | 0, h => by omega
  | n + 1, h => by
    have h1 := hG n
    rw [psum_succ]
    by_cases e : m = n
    · subst e; omega
    · have := psum_mono hG (m := m) (n := n) (by omega)
      omega
def Xk (x0 : Rat) (st : Nat → Rat) : Nat → Rat
  | 0 => x0
  | k + 1 => Xk x0 st k + st k
def Sk (G : Nat → Int) (n k : Nat) : Rat := Rat.divInt (psum G (k + 1)) (psum G n)
def Yd (X S : Nat → Rat) (n : Nat) : Nat → Rat
  | 0 => X (n - 1)
  | j + 1 => Yd X S n j - S (n - 2 - j) * (X (n - 1 - j) - X (n - 2 - j))
def ksOf (X S : Nat → Rat) (n : Nat) : List (Rat × Rat) := (List.range n).map fun k => (X k, Yd X S n (n - 1 - k))
theorem divInt_pos' {a b : Int} (ha : 1 ≤ a) (hb : 1 ≤ b) : 0 < Rat.divInt a b := by
  have h1 : 0 ≤ Rat.divInt a b := Rat.divInt_nonneg (by omega) (by omega)
  have h2 : Rat.divInt a b ≠ 0 := divInt_ne (by omega) (by omega)
  grind
theorem ksOf_ok {x0 : Rat} {st : Nat → Rat} (hst : ∀ k, 0 < st k) {G : Nat → Int} (hG : ∀ k, 1 ≤ G k ∧ G k ≤ 5) {n : Nat} (hn : 1 ≤ n) : KOk (ksOf (Xk x0 st) (Sk G n) n) := by
  have hlen : (ksOf (Xk x0 st) (Sk G n) n).length = n := by unfold ksOf; simp
  have hk : ∀ k, k < n → kAt (ksOf (Xk x0 st) (Sk G n) n) k = (Xk x0 st k, Yd (Xk x0 st) (Sk G n) n (n - 1 - k)) := fun k h => kAt_range h
  have hX : ∀ k, Xk x0 st (k + 1) - Xk x0 st k = st k := fun k => by
    show Xk x0 st k + st k - Xk x0 st k = st k
    grind
  have hsl : ∀ k, k + 1 < n → sl (ksOf (Xk x0 st) (Sk G n) n) k = Sk G n k := fun k h => by
    unfold sl
    rw [hk k (by omega), hk (k + 1) h]
    show (Yd _ _ n (n - 1 - (k + 1)) - Yd _ _ n (n - 1 - k)) / (Xk x0 st (k + 1) - Xk x0 st k) = _
    have e1 : n - 1 - k = (n - 1 - (k + 1)) + 1 := by omega
    have e2 : n - 2 - (n - 1 - (k + 1)) = k := by omega
    have e3 : n - 1 - (n - 1 - (k + 1)) = k + 1 := by omega
    rw [e1]
    show (Yd _ _ n (n - 1 - (k + 1)) - (Yd _ _ n (n - 1 - (k + 1)) - Sk G n (n - 2 - (n - 1 - (k + 1))) * (Xk x0 st (n - 1 - (n - 1 - (k + 1))) - Xk x0 st (n - 2 - (n - 1 - (k + 1)))))) / _ = _
    rw [e2, e3, hX]
    have hp := hst k
    have hne : st k ≠ 0 := by grind
    have : Yd (Xk x0 st) (Sk G n) n (n - 1 - (k + 1)) - (Yd (Xk x0 st) (Sk G n) n (n - 1 - (k + 1)) - Sk G n k * st k) = Sk G n k * st k := by grind
    rw [this, Rat.mul_div_cancel hne]
  have hT := psum_le hG n
  refine ⟨?_, fun k h => ?_, fun h => ?_, fun k h => ?_, fun k h => ?_, ?_⟩
  · intro e
    have := congrArg List.length e
    rw [hlen] at this
    simp at this
    omega
  · rw [hlen] at h
    rw [hk k (by omega), hk (k + 1) h]
    show Xk x0 st k < Xk x0 st k + st k
    have := hst k
    grind
  · rw [hlen] at h
    rw [hsl 0 (by omega)]
    have := psum_le hG 1
    show 0 < Rat.divInt (psum G 1) (psum G n)
    exact divInt_pos' (by omega) (by omega)
  · rw [hlen] at h
    rw [hsl k (by omega), hsl (k + 1) (by omega)]
    have e : Sk G n (k + 1) = Sk G n k + Rat.divInt (G (k + 1)) (psum G n) := by
      unfold Sk
      rw [divInt_same, psum_succ]
    have := divInt_pos' (a := G (k + 1)) (b := psum G n) (hG (k + 1)).1 (by omega)
    rw [e]
    grind
  · rw [hlen] at h
    rw [hsl k (by omega)]
    have m := psum_mono hG (m := k + 1) (n := n) (by omega)
    have e : (1 : Rat) = Sk G n k + Rat.divInt (psum G n - psum G (k + 1)) (psum G n) := by
      unfold Sk
      have e2 : psum G (k + 1) + (psum G n - psum G (k + 1)) = psum G n := by omega
      rw [divInt_same, e2, divInt_self' (by omega)]
    have := divInt_pos' (a := psum G n - psum G (k + 1)) (b := psum G n) (by omega) (by omega)
    rw [e]
    grind
  · rw [hlen, hk (n - 1) (by omega)]
    show Xk x0 st (n - 1) = Yd _ _ n (n - 1 - (n - 1))
    rw [Nat.sub_self]; rfl
theorem ksOf_sl {x0 : Rat} {st : Nat → Rat} (hst : ∀ k, 0 < st k) {G : Nat → Int} {n k : Nat} (h : k + 1 < n) : sl (ksOf (Xk x0 st) (Sk G n) n) k = Sk G n k := by
  have hk : ∀ k, k < n → kAt (ksOf (Xk x0 st) (Sk G n) n) k = (Xk x0 st k, Yd (Xk x0 st) (Sk G n) n (n - 1 - k)) := fun k h => kAt_range h
  have hX : ∀ k, Xk x0 st (k + 1) - Xk x0 st k = st k := fun k => by
    show Xk x0 st k + st k - Xk x0 st k = st k
    grind
  unfold sl
  rw [hk k (by omega), hk (k + 1) h]
  show (Yd _ _ n (n - 1 - (k + 1)) - Yd _ _ n (n - 1 - k)) / (Xk x0 st (k + 1) - Xk x0 st k) = _
  have e1 : n - 1 - k = (n - 1 - (k + 1)) + 1 := by omega
  have e2 : n - 2 - (n - 1 - (k + 1)) = k := by omega
  have e3 : n - 1 - (n - 1 - (k + 1)) = k + 1 := by omega
  rw [e1]
  show (Yd _ _ n (n - 1 - (k + 1)) - (Yd _ _ n (n - 1 - (k + 1)) - Sk G n (n - 2 - (n - 1 - (k + 1))) * (Xk x0 st (n - 1 - (n - 1 - (k + 1))) - Xk x0 st (n - 2 - (n - 1 - (k + 1)))))) / _ = _
  rw [e2, e3, hX]
  have hp := hst k
  have hne : st k ≠ 0 := by grind
  have : Yd (Xk x0 st) (Sk G n) n (n - 1 - (k + 1)) - (Yd (Xk x0 st) (Sk G n) n (n - 1 - (k + 1)) - Sk G n k * st k) = Sk G n k * st k := by grind
  rw [this, Rat.mul_div_cancel hne]
theorem Xk_sz {x0 : Rat} {st : Nat → Rat} (h0 : sz x0 ≤ 110) (hs : ∀ k, sz (st k) ≤ 100) : ∀ k : Nat, sz (Xk x0 st k) ≤ 110 + 101 * k
  | 0 => h0
  | k + 1 => by
    have := Xk_sz h0 hs k
    have := hs k
    have := sz_add (Xk x0 st k) (st k)
    show sz (Xk x0 st k + st k) ≤ _
    omega
theorem Yd_sz {X S : Nat → Rat} {n : Nat} (hX : ∀ k, k < n → sz (X k) ≤ 1000) (hS : ∀ k, k < n → sz (S k) ≤ 8) : ∀ j : Nat, j < n → sz (Yd X S n j) ≤ 1000 + 2100 * j
  | 0, h => hX _ (by omega)
  | j + 1, h => by
    have h1 := Yd_sz hX hS j (by omega)
    have h2 := hX (n - 1 - j) (by omega)
    have h3 := hX (n - 2 - j) (by omega)
    have h4 := hS (n - 2 - j) (by omega)
    have z1 := sz_sub (X (n - 1 - j)) (X (n - 2 - j))
    have z2 := sz_mul (S (n - 2 - j)) (X (n - 1 - j) - X (n - 2 - j))
    have z3 := sz_sub (Yd X S n j) (S (n - 2 - j) * (X (n - 1 - j) - X (n - 2 - j)))
    show sz (Yd X S n j - S (n - 2 - j) * (X (n - 1 - j) - X (n - 2 - j))) ≤ _
    omega
theorem law_add_raw2 {a b c d : Int} (hb : b ≠ 0) (hd : d ≠ 0) (h1 : mulOk a d = true) (h2 : mulOk c b = true) (h3 : mulOk b d = true) : f__law_add [.tup [.int a, .int b], .tup [.int c, .int d]] = some (encQ (Rat.divInt (a * d + c * b) (b * d))) := by
  have e := law_low_spec (a * d + c * b) (b * d) (Int.mul_ne_zero hb hd)
  refine (run_eq (by rfl)).trans ?_
  generalize encQ (Rat.divInt (a * d + c * b) (b * d)) = E at *
  simp -implicitDefEqProofs [m__law_add, startE, h1, h2, h3, e]
/-- the first amount -/
theorem knots_x0 (gr : Bool) (c : Int) (x : Int) : ∃ (q0 q : Rat), f__law_fraction [.int x] = some (encQ q0) ∧ sz q ≤ 110 ∧ (gr = false → q = q0) ∧ (gr = true → mulOk q0.num 1000000000000000000000000000000 = true ∧ f__law_add [.tup [.int (q0.num * 1000000000000000000000000000000), .int (q0.den : Int)], .tup [.int (c.fmod 1000000000000000000000000000000), .int 1]] = some (encQ q)) := by
  obtain ⟨q0, h0, z⟩ := law_fraction_spec x
  cases gr
  · exact ⟨q0, q0, h0, by omega, fun _ => rfl, fun h => by simp at h⟩
  · have z1 : q0.num.natAbs < 2 ^ 4 := num_sz z
    have z2 : (q0.den : Int).natAbs < 2 ^ 4 := den_sz z
    have w1 := Int.fmod_nonneg_of_pos c (b := 1000000000000000000000000000000) (by decide)
    have w2 := Int.fmod_lt_of_pos c (b := 1000000000000000000000000000000) (by decide)
    have m2' : mulOk (c.fmod 1000000000000000000000000000000) q0.den = true := mul_okR (Nat.lt_of_lt_of_le z2 (by decide))
    have m3' : mulOk (q0.num * 1000000000000000000000000000000) 1 = true := mul_okR (by decide)
    have m4' : mulOk (q0.den : Int) 1 = true := mul_okR (by decide)
    have g := law_add_raw2 (a := q0.num * 1000000000000000000000000000000) (b := q0.den) (c := c.fmod 1000000000000000000000000000000) (d := 1) (den_ne _) (by decide) m3' m2' m4'
    have pd : (0 : Int) ≤ q0.den := by omega
    have pm : 0 ≤ c.fmod 1000000000000000000000000000000 * (q0.den : Int) ∧ c.fmod 1000000000000000000000000000000 * (q0.den : Int) ≤ 1000000000000000000000000000000 * 16 := by
      constructor
      · exact Int.mul_nonneg w1 pd
      · exact Int.mul_le_mul (by omega) (by omega) pd (by decide)
    refine ⟨q0, _, h0, ?_, fun h => by simp at h, fun _ => ⟨mul_okL (Nat.lt_of_lt_of_le z1 (by decide)), g⟩⟩
    exact sz_le ((sq_divInt (j := 110) (k := 4) (by omega) (by omega) (by have := den_ne q0; omega)).mono (by decide) (by decide))
def rK (a : Nat → Int) (mo k : Nat) : Rat := Rat.divInt (1 + (a (2 + mo + k)).fmod 7) (1 + (a (2 + 2 * mo + k)).fmod 4)
def stK (gr : Bool) (a : Nat → Int) (mo k : Nat) : Rat := if gr = true then Rat.divInt ((rK a mo k).num * 10000000000000000000000000000) (rK a mo k).den else rK a mo k
theorem rK_sz (a : Nat → Int) (mo k : Nat) : sz (rK a mo k) ≤ 4 ∧ 0 < rK a mo k := by
  have q1 := Int.fmod_nonneg_of_pos (a (2 + mo + k)) (b := 7) (by omega)
  have q2 := Int.fmod_lt_of_pos (a (2 + mo + k)) (b := 7) (by omega)
  have q3 := Int.fmod_nonneg_of_pos (a (2 + 2 * mo + k)) (b := 4) (by omega)
  have q4 := Int.fmod_lt_of_pos (a (2 + 2 * mo + k)) (b := 4) (by omega)
  exact ⟨sz_divInt (by omega) (by omega) (by decide), divInt_pos' (by omega) (by omega)⟩
theorem stK_sz (gr : Bool) (a : Nat → Int) (mo k : Nat) : sz (stK gr a mo k) ≤ 100 ∧ 0 < stK gr a mo k := by
  obtain ⟨z, p⟩ := rK_sz a mo k
  unfold stK
  split
  · have z1 : (rK a mo k).num.natAbs < 2 ^ 4 := num_sz z
    have z2 : ((rK a mo k).den : Int).natAbs < 2 ^ 4 := den_sz z
    have n1 : 1 ≤ (rK a mo k).num := by
      have h1 := Rat.num_nonneg.mpr (show 0 ≤ rK a mo k by grind)
      have h2 := num_ne (show rK a mo k ≠ 0 by grind)
      omega
    have n2 : 1 ≤ ((rK a mo k).den : Int) := by have := den_pos' (rK a mo k); omega
    refine ⟨sz_le ((sq_divInt (j := 100) (k := 4) (by omega) (by omega) (den_ne _)).mono (by decide) (by decide)), divInt_pos' (by omega) n2⟩
  · exact ⟨by omega, p⟩
theorem law_knots_kz (gr : Bool) (c : Int) (mo : Nat) (h1 : 1 ≤ mo) (h8 : mo ≤ 8) : ∃ ks : List (Rat × Rat), f__law_knots [.int c, .int (mo : Int), .bl gr] = some (.tup (ks.map encK)) ∧ KOk ks ∧ KZ 1000 8 16000 ks ∧ ks.length ≤ mo := by
  have dr := (drw_spec c (2 + 3 * mo) (by omega)).1
  have dat := fun j (hj : j < 2 + 3 * mo) => (drw_at c (2 + 3 * mo) j (by omega) hj).1
  rw [Int.natCast_add, Int.natCast_mul] at dr
  have dr : f__law_draws [.int c, .int (2 + 3 * (mo : Int))] = some (.lst ((drw c (2 + 3 * mo)).map D.int)) := dr
  generalize drwAt c (2 + 3 * mo) = a at *
  generalize (drw c (2 + 3 * mo)).map D.int = ds at *
  have a0 : atI ds 0 = some (.int (a 0)) := dat 0 (by omega)
  have a1 : atI ds 1 = some (.int (a 1)) := dat 1 (by omega)
  have mo0 : (mo : Int) ≠ 0 := by omega
  have mo0' : ¬ mo = 0 := by omega
  obtain ⟨n, hn, n1, n2⟩ : ∃ n : Nat, 1 + (a 0).fmod (mo : Int) = (n : Int) ∧ 1 ≤ n ∧ n ≤ mo := by
    have q1 := Int.fmod_nonneg_of_pos (a 0) (b := (mo : Int)) (by omega)
    have q2 := Int.fmod_lt_of_pos (a 0) (b := (mo : Int)) (by omega)
    exact ⟨(1 + (a 0).fmod (mo : Int)).toNat, by omega, by omega, by omega⟩
  obtain ⟨q0, x0, hq0, zx0, hgf, hgt⟩ := knots_x0 gr c (a 1)
  let G : Nat → Int := fun k => 1 + (a (2 + k)).fmod 5
  have hG : ∀ k, 1 ≤ G k ∧ G k ≤ 5 := fun k => by
    have q1 := Int.fmod_nonneg_of_pos (a (2 + k)) (b := 5) (by omega)
    have q2 := Int.fmod_lt_of_pos (a (2 + k)) (b := 5) (by omega)
    show 1 ≤ 1 + (a (2 + k)).fmod 5 ∧ 1 + (a (2 + k)).fmod 5 ≤ 5
    omega
  have hri : (n : Int) < 4611686018427387904 := by omega
  have hri1 : (n : Int) - 1 < 4611686018427387904 := by omega
  have hri2 : -4611686018427387904 ≤ (n : Int) - 1 := by omega
  have m2m : mulOk 2 (mo : Int) = true := mul_okL (by decide)
  have m3m : mulOk 3 (mo : Int) = true := mul_okL (by decide)
  -- the gaps
  have lp : lcLoop [8] (gsName 8) mYes e1__law_knots (rangeD 0 n) [] [.has (.fz (.int c)), .has (.fz (.int (mo : Int))), .has (.fz (.bl gr)), .has (.fz (.lst ds)), .has (.fz (.int (n : Int))), .un, .un, .un, .un, .un, .un, .un, .un] = some ((((List.range n).map G).map D.int).map .fz, [.has (.fz (.int c)), .has (.fz (.int (mo : Int))), .has (.fz (.bl gr)), .has (.fz (.lst ds)), .has (.fz (.int (n : Int))), .un, .un, .un, .un, .un, .un, .un, .un]) := by
    rw [range0_map, lc_mapx natD (fun k => .fz (.int (G k))) (List.range n) [] (by rfl) (by simp; omega) fun k hk => ?_]
    · rw [List.map_map, List.map_map]; rfl
    have hk := List.mem_range.mp hk
    have e := dat (2 + k) (by omega)
    rw [Int.natCast_add] at e
    have e : atI ds (2 + (k : Int)) = some (.int (a (2 + k))) := e
    refine ⟨[.has (.fz (.int c)), .has (.fz (.int (mo : Int))), .has (.fz (.bl gr)), .has (.fz (.lst ds)), .has (.fz (.int (n : Int))), .un, .un, .un, .has (.fz (natD k)), .un, .un, .un, .un], [.has (.fz (.int c)), .has (.fz (.int (mo : Int))), .has (.fz (.bl gr)), .has (.fz (.lst ds)), .has (.fz (.int (n : Int))), .un, .un, .un, .has (.fz (natD k)), .un, .un, .un, .un], ?_, ?_, ?_⟩
    · simp -implicitDefEqProofs [wipeE]
    · show e1__law_knots _ = some (O.fz (.int (1 + (a (2 + k)).fmod 5)), _)
      generalize a (2 + k) = ak at *
      simp -implicitDefEqProofs [e1__law_knots, e]
    · simp -implicitDefEqProofs [backE]
  generalize hGL : (((List.range n).map G).map D.int).map O.fz = GL at *
  -- the first amount
  have step1 : ∀ (env7 : En), env7 = [.has (.fz (.int c)), .has (.fz (.int (mo : Int))), .has (.fz (.bl gr)), .has (.fz (.lst ds)), .has (.fz (.int (n : Int))), .has (.ls GL), .has (.fz (encQ q0)), .un, .un, .un, .un, .un, .un] → sIf (mTru oTru (mView 2)) (sAsg 6 (mCall f__law_add (mCons (mTup (mCons (m2 oMul (m2 oIx (mView 6) (mC (.int 0))) (m2 oPow (mC (.int 10)) (mC (.int 30)))) (mCons (mFz (m2 oIx (mView 6) (mC (.int 1)))) (mNil)))) (mCons (mTup (mCons (m2 oMod (mL gInt (mCons (mView 0) (mNil))) (m2 oPow (mC (.int 10)) (mC (.int 30)))) (mCons (mC (.int 1)) (mNil)))) (mNil))))) (sNext) env7 = some (.nx [.has (.fz (.int c)), .has (.fz (.int (mo : Int))), .has (.fz (.bl gr)), .has (.fz (.lst ds)), .has (.fz (.int (n : Int))), .has (.ls GL), .has (.fz (encQ x0)), .un, .un, .un, .un, .un, .un]) := fun env7 he => by
    subst he
    cases gr
    · rw [hgf rfl]
      generalize encQ q0 = v
      simp -implicitDefEqProofs
    · obtain ⟨g1, g2⟩ := hgt rfl
      generalize encQ x0 = v1 at *
      unfold encQ
      generalize q0.num = u at *
      generalize (q0.den : Int) = v at *
      generalize hcm : c.fmod 1000000000000000000000000000000 = cm at *
      simp -implicitDefEqProofs [g1, hcm, g2]
  have step1 := step1 _ rfl
  -- the amounts
  obtain ⟨env', hf, i8, i9, rfl⟩ := for_inv (gs := gsName 8) (mb := b1__law_knots) (ds := rangeD 0 (n - 1)) (env := [.has (.fz (.int c)), .has (.fz (.int (mo : Int))), .has (.fz (.bl gr)), .has (.fz (.lst ds)), .has (.fz (.int (n : Int))), .has (.ls GL), .has (.fz (encQ x0)), .has (.ls [.fz (encQ x0)]), .un, .un, .un, .un, .un])
    (fun i env => ∃ (i8 i9 : Sl), env = [.has (.fz (.int c)), .has (.fz (.int (mo : Int))), .has (.fz (.bl gr)), .has (.fz (.lst ds)), .has (.fz (.int (n : Int))), .has (.ls GL), .has (.fz (encQ x0)), .has (.ls ((((List.range (i + 1)).map (Xk x0 (stK gr a mo))).map encQ).map .fz)), i8, i9, .un, .un, .un])
    ⟨.un, .un, rfl⟩ (by
      rintro i d env hd ⟨i8, i9, rfl⟩
      obtain ⟨hi, rfl⟩ := rangeD0_get hd
      have e1 := dat (2 + mo + i) (by omega)
      rw [Int.natCast_add, Int.natCast_add] at e1
      have e1 : atI ds (2 + (mo : Int) + (i : Int)) = some (.int (a (2 + mo + i))) := e1
      have e2 := dat (2 + 2 * mo + i) (by omega)
      rw [Int.natCast_add, Int.natCast_add, Int.natCast_mul] at e2
      have e2 : atI ds (2 + 2 * (mo : Int) + (i : Int)) = some (.int (a (2 + 2 * mo + i))) := e2
      have q3 := Int.fmod_nonneg_of_pos (a (2 + 2 * mo + i)) (b := 4) (by omega)
      have l1 := law_low_spec (1 + (a (2 + mo + i)).fmod 7) (1 + (a (2 + 2 * mo + i)).fmod 4) (by omega)
      have l1 : f__law_low [.int (1 + (a (2 + mo + i)).fmod 7), .int (1 + (a (2 + 2 * mo + i)).fmod 4)] = some (encQ (rK a mo i)) := l1
      obtain ⟨zr, pr⟩ := rK_sz a mo i
      obtain ⟨zs, ps⟩ := stK_sz gr a mo i
      have hat : atI ((((List.range (i + 1)).map (Xk x0 (stK gr a mo))).map encQ).map O.fz) (i : Int) = some (.fz (encQ (Xk x0 (stK gr a mo) i))) := by
        rw [atI_nat' (by simp), List.getElem?_map, List.getElem?_map, List.getElem?_map, List.getElem?_range (by omega)]; rfl
      have zx := Xk_sz (st := stK gr a mo) zx0 (fun k => (stK_sz gr a mo k).1) i
      have k1 := law_add_spec (a := Xk x0 (stK gr a mo) i) (b := stK gr a mo i) (by omega)
      have k1 : f__law_add [encQ (Xk x0 (stK gr a mo) i), encQ (stK gr a mo i)] = some (encQ (Xk x0 (stK gr a mo) (i + 1))) := k1
      have hap : ((((List.range (i + 1)).map (Xk x0 (stK gr a mo))).map encQ).map O.fz) ++ [.fz (encQ (Xk x0 (stK gr a mo) (i + 1)))] = (((List.range (i + 1 + 1)).map (Xk x0 (stK gr a mo))).map encQ).map .fz := by
        rw [List.range_succ (n := i + 1)]; simp
      have hol : ((((List.range (i + 1)).map (Xk x0 (stK gr a mo))).map encQ).map O.fz).length < 16777216 := by simp; omega
      cases gr
      case false =>
        have l2 := law_low_spec (rK a mo i).num (rK a mo i).den (den_ne _)
        rw [Rat.num_divInt_den] at l2
        have l2 : f__law_low [.int (rK a mo i).num, .int ((rK a mo i).den : Int)] = some (encQ (stK false a mo i)) := l2
        refine ⟨_, _, rfl, .inl ?_, .has (.fz (natD i)), .has (.fz (encQ (rK a mo i))), rfl⟩
        rw [← hap]
        generalize (((List.range (i + 1)).map (Xk x0 (stK false a mo))).map encQ).map O.fz = os at *
        generalize encQ (Xk x0 (stK false a mo) (i + 1)) = v1 at *
        generalize encQ (Xk x0 (stK false a mo) i) = v2 at *
        generalize encQ (stK false a mo i) = v3 at *
        generalize encQ x0 = v4 at *
        unfold encQ at *
        generalize (rK a mo i).num = u at *
        generalize ((rK a mo i).den : Int) = v at *
        generalize a (2 + mo + i) = aa at *
        generalize a (2 + 2 * mo + i) = ab at *
        simp -implicitDefEqProofs [b1__law_knots, m2m, e1, e2, l1, l2, hat, k1, hol]
      case true =>
        have l2 := law_low_spec ((rK a mo i).num * 10000000000000000000000000000) (rK a mo i).den (den_ne _)
        have l2 : f__law_low [.int ((rK a mo i).num * 10000000000000000000000000000), .int ((rK a mo i).den : Int)] = some (encQ (stK true a mo i)) := l2
        have z1 : (rK a mo i).num.natAbs < 2 ^ 4 := num_sz zr
        have mk : mulOk (rK a mo i).num 10000000000000000000000000000 = true := mul_okL (Nat.lt_of_lt_of_le z1 (by decide))
        refine ⟨_, _, rfl, .inl ?_, .has (.fz (natD i)), .has (.fz (.tup [.int ((rK a mo i).num * 10000000000000000000000000000), .int ((rK a mo i).den : Int)])), rfl⟩
        rw [← hap]
        generalize (((List.range (i + 1)).map (Xk x0 (stK true a mo))).map encQ).map O.fz = os at *
        generalize encQ (Xk x0 (stK true a mo) (i + 1)) = v1 at *
        generalize encQ (Xk x0 (stK true a mo) i) = v2 at *
        generalize encQ (stK true a mo i) = v3 at *
        generalize encQ x0 = v4 at *
        unfold encQ at *
        generalize (rK a mo i).num = u at *
        generalize ((rK a mo i).den : Int) = v at *
        generalize a (2 + mo + i) = aa at *
        generalize a (2 + 2 * mo + i) = ab at *
        simp -implicitDefEqProofs [b1__law_knots, m2m, e1, e2, l1, l2, mk, hat, k1, hol])
  rw [rangeD_len] at hf
  have en : n - 1 + 1 = n := by omega
  rw [en] at hf
  -- the knots
  have hX : ∀ k, k < n → sz (Xk x0 (stK gr a mo) k) ≤ 1000 := fun k hk => by
    have := Xk_sz (st := stK gr a mo) zx0 (fun k => (stK_sz gr a mo k).1) k
    omega
  have hT := psum_le hG n
  have hS : ∀ k, k < n → sz (Sk G n k) ≤ 8 := fun k hk => by
    have := psum_le hG (k + 1)
    exact sz_divInt (by omega) (by omega) (by decide)
  have hXat : ∀ k, k < n → atI ((((List.range n).map (Xk x0 (stK gr a mo))).map encQ).map O.fz) (k : Int) = some (.fz (encQ (Xk x0 (stK gr a mo) k))) := fun k hk => by
    rw [atI_nat' (by simpa using hk), List.getElem?_map, List.getElem?_map, List.getElem?_map, List.getElem?_range hk]; rfl
  have hok := ksOf_ok (x0 := x0) (st := stK gr a mo) (fun k => (stK_sz gr a mo k).2) hG n1
  have hsl : ∀ k, k + 1 < n → sl (ksOf (Xk x0 (stK gr a mo)) (Sk G n) n) k = Sk G n k := fun k h => ksOf_sl (fun k => (stK_sz gr a mo k).2) h
  have hYs := Yd_sz (X := Xk x0 (stK gr a mo)) (S := Sk G n) (n := n) hX hS
  have hXs : ∀ k, k + 1 < n → sz (Xk x0 (stK gr a mo) (k + 1) - Xk x0 (stK gr a mo) k) ≤ 2100 := fun k hk => by
    have := hX k (by omega)
    have := hX (k + 1) hk
    have := sz_sub (Xk x0 (stK gr a mo) (k + 1)) (Xk x0 (stK gr a mo) k)
    omega
  generalize Xk x0 (stK gr a mo) = X at *
  have hgs : gSum [.ls GL] = some (.fz (.int (psum G n))) := by rw [← hGL]; exact e_sumD
  have hcut : ∀ k, k < n → oSlice none (some ((k : Int) + 1)) (.ls GL) = some (.ls ((((List.range (k + 1)).map G).map D.int).map .fz)) := fun k hk => by
    have ec : (k : Int) + 1 = ((k + 1 : Nat) : Int) := by omega
    rw [← hGL, e_sliceO, ec, cut_to, ← List.map_take, ← List.map_take, List.take_range, Nat.min_eq_left (by omega)]
  obtain ⟨env', hf2, j8, j9, j12, rfl⟩ := for_inv (gs := gsName 8) (mb := b2__law_knots) (ds := rangeC ((n : Int) - 2) (-1) (n - 1)) (env := [.has (.fz (.int c)), .has (.fz (.int (mo : Int))), .has (.fz (.bl gr)), .has (.fz (.lst ds)), .has (.fz (.int (n : Int))), .has (.ls GL), .has (.fz (encQ x0)), .has (.ls ((((List.range n).map X).map encQ).map .fz)), i8, i9, .has (.fz (encQ (X (n - 1)))), .has (.ls [.fz (encK (X (n - 1), X (n - 1)))]), .un])
    (fun i env => ∃ (j8 j9 j12 : Sl), env = [.has (.fz (.int c)), .has (.fz (.int (mo : Int))), .has (.fz (.bl gr)), .has (.fz (.lst ds)), .has (.fz (.int (n : Int))), .has (.ls GL), .has (.fz (encQ x0)), .has (.ls ((((List.range n).map X).map encQ).map .fz)), j8, j9, .has (.fz (encQ (Yd X (Sk G n) n i))), .has (.ls ((((List.range (i + 1)).map fun m => (X (n - 1 - i + m), Yd X (Sk G n) n (i - m))).map encK).map .fz)), j12])
    ⟨i8, i9, .un, rfl⟩ (by
      rintro i d env hd ⟨j8, j9, j12, rfl⟩
      have hd' : d = .int ((n - 2 - i : Nat) : Int) ∧ i < n - 1 := by
        unfold rangeC at hd
        rw [List.getElem?_map] at hd
        obtain ⟨k, hk, rfl⟩ := Option.map_eq_some_iff.mp hd
        obtain ⟨hk1, hk2⟩ := List.getElem?_eq_some_iff.mp hk
        rw [List.length_range] at hk1
        rw [List.getElem_range] at hk2
        subst hk2
        refine ⟨?_, hk1⟩
        exact congrArg D.int (by omega)
      obtain ⟨rfl, hi⟩ := hd'
      obtain ⟨k, hk⟩ : ∃ k, k = n - 2 - i := ⟨_, rfl⟩
      have hkn : k + 1 < n := by omega
      have x1 := hXat k (by omega)
      have x2 := hXat (k + 1) hkn
      rw [Int.natCast_add] at x2
      have x2 : atI ((((List.range n).map X).map encQ).map O.fz) ((k : Int) + 1) = some (.fz (encQ (X (k + 1)))) := x2
      have cs := hcut k (by omega)
      have gs1 : gSum [.ls ((((List.range (k + 1)).map G).map D.int).map .fz)] = some (.fz (.int (psum G (k + 1)))) := e_sumD
      have lw := law_low_spec (psum G (k + 1)) (psum G n) (by omega)
      have lw : f__law_low [.int (psum G (k + 1)), .int (psum G n)] = some (encQ (Sk G n k)) := lw
      have zS := hS k (by omega)
      have zX := hXs k hkn
      have zX1 := hX k (by omega)
      have zX2 := hX (k + 1) hkn
      have zY := hYs i (by omega)
      have zm := sz_mul (Sk G n k) (X (k + 1) - X k)
      have k1 := law_sub_spec (a := X (k + 1)) (b := X k) (by omega)
      have k2 := law_mul_spec (a := Sk G n k) (b := X (k + 1) - X k) (by omega)
      have k3 := law_sub_spec (a := Yd X (Sk G n) n i) (b := Sk G n k * (X (k + 1) - X k)) (by omega)
      have ey : Yd X (Sk G n) n (i + 1) = Yd X (Sk G n) n i - Sk G n k * (X (k + 1) - X k) := by
        show Yd X (Sk G n) n i - Sk G n (n - 2 - i) * (X (n - 1 - i) - X (n - 2 - i)) = _
        have e1 : n - 1 - i = k + 1 := by omega
        rw [e1, ← hk]
      rw [← ey] at k3
      have hins : [O.fz (encK (X k, Yd X (Sk G n) n (i + 1)))] ++ (((List.range (i + 1)).map fun m => (X (n - 1 - i + m), Yd X (Sk G n) n (i - m))).map encK).map O.fz = (((List.range (i + 1 + 1)).map fun m => (X (n - 1 - (i + 1) + m), Yd X (Sk G n) n (i + 1 - m))).map encK).map .fz := by
        have hl : ((List.range (i + 1 + 1)).map fun m => (X (n - 1 - (i + 1) + m), Yd X (Sk G n) n (i + 1 - m))) = (X k, Yd X (Sk G n) n (i + 1)) :: (List.range (i + 1)).map fun m => (X (n - 1 - i + m), Yd X (Sk G n) n (i - m)) := by
          have e1 : n - 1 - (i + 1) + 0 = k := by omega
          rw [List.range_succ_eq_map (n := i + 1), List.map_cons, List.map_map, e1, Nat.sub_zero]
          refine congrArg (List.cons _) (List.map_congr_left fun m hm => ?_)
          have hm := List.mem_range.mp hm
          show (X (n - 1 - (i + 1) + (m + 1)), Yd X (Sk G n) n (i + 1 - (m + 1))) = (X (n - 1 - i + m), Yd X (Sk G n) n (i - m))
          have e2 : n - 1 - (i + 1) + (m + 1) = n - 1 - i + m := by omega
          have e3 : i + 1 - (m + 1) = i - m := by omega
          rw [e2, e3]
        rw [hl]; rfl
      have hol : ((((List.range (i + 1)).map fun m => (X (n - 1 - i + m), Yd X (Sk G n) n (i - m))).map encK).map O.fz).length < 16777216 := by simp; omega
      refine ⟨_, _, rfl, .inl ?_, .has (.fz (.int (k : Int))), j9, .has (.fz (encQ (Sk G n k))), rfl⟩
      rw [← hins, ← hk]
      generalize ((((List.range (i + 1)).map fun m => (X (n - 1 - i + m), Yd X (Sk G n) n (i - m))).map encK).map O.fz) = kos at *
      generalize (((List.range (k + 1)).map G).map D.int).map O.fz = g1 at *
      generalize (((List.range n).map X).map encQ).map O.fz = xos at *
      generalize psum G (k + 1) = p1 at *
      generalize psum G n = p2 at *
      unfold encK
      generalize encQ (Yd X (Sk G n) n (i + 1)) = v1 at *
      generalize encQ (Yd X (Sk G n) n i) = v2 at *
      generalize encQ (Sk G n k * (X (k + 1) - X k)) = v3 at *
      generalize encQ (X (k + 1) - X k) = v4 at *
      generalize encQ (X (k + 1)) = v5 at *
      generalize encQ (X k) = v6 at *
      generalize encQ (Sk G n k) = v7 at *
      generalize encQ x0 = v8 at *
      simp -implicitDefEqProofs [b2__law_knots, cs, gs1, hgs, lw, x1, x2, k1, k2, k3, sIns, lsAt, hol])
  have hlast := hXat (n - 1) (by omega)
  have ecn : ((n - 1 : Nat) : Int) = (n : Int) - 1 := by omega
  rw [ecn] at hlast
  have hlC : (rangeC ((n : Int) - 2) (-1) (n - 1)).length = n - 1 := by unfold rangeC; simp
  rw [hlC, en] at hf2
  have hfin : ((List.range n).map fun m => (X (n - 1 - (n - 1) + m), Yd X (Sk G n) n (n - 1 - m))) = ksOf X (Sk G n) n := by
    unfold ksOf
    refine List.map_congr_left fun m _ => ?_
    rw [Nat.sub_self, Nat.zero_add]
  rw [hfin] at hf2
  refine ⟨ksOf X (Sk G n) n, ?_, hok, ⟨fun p hp => ?_, fun k hk => ?_, fun p hp => ?_⟩, by unfold ksOf; simp; omega⟩
  · have eg := e_gTupO (ds := (ksOf X (Sk G n) n).map encK)
    have hto : ((n : Int) - 2 + 1).toNat = n - 1 := by omega
    have hto2 : ((n : Int) - 1).toNat = n - 1 := by omega
    have b1 : -4611686018427387904 ≤ (n : Int) - 2 := by omega
    have b2 : (n : Int) - 2 < 4611686018427387904 := by omega
    refine (run_eq (by rfl)).trans ?_
    simp only [m__law_knots]
    generalize hs1 : sIf (mTru oTru (mView 2)) (sAsg 6 (mCall f__law_add (mCons (mTup (mCons (m2 oMul (m2 oIx (mView 6) (mC (.int 0))) (m2 oPow (mC (.int 10)) (mC (.int 30)))) (mCons (mFz (m2 oIx (mView 6) (mC (.int 1)))) (mNil)))) (mCons (mTup (mCons (m2 oMod (mL gInt (mCons (mView 0) (mNil))) (m2 oPow (mC (.int 10)) (mC (.int 30)))) (mCons (mC (.int 1)) (mNil)))) (mNil))))) (sNext) = sif at *
    generalize ((ksOf X (Sk G n) n).map encK).map O.fz = kos at *
    generalize (ksOf X (Sk G n) n).map encK = KS at *
    generalize (((List.range n).map X).map encQ).map O.fz = xos at *
    unfold encK at *
    generalize encQ (Yd X (Sk G n) n (n - 1)) = v2 at *
    generalize encQ (X (n - 1)) = v3 at *
    generalize encQ x0 = v8 at *
    generalize encQ q0 = v9 at *
    simp -implicitDefEqProofs [startE, m3m, dr, a0, a1, mo0, mo0', hn, mR1, hri, hri1, hri2, lp, hq0, step1, hto2, hf, hlast, mR3, b1, b2, hto, hf2, eg]
  · unfold ksOf at hp
    obtain ⟨k, hk, rfl⟩ := List.mem_map.mp hp
    have hk := List.mem_range.mp hk
    exact hX k hk
  · have hl : (ksOf X (Sk G n) n).length = n := by unfold ksOf; simp
    rw [hl] at hk
    rw [hsl k hk]
    exact hS k (by omega)
  · unfold ksOf at hp
    obtain ⟨k, hk, rfl⟩ := List.mem_map.mp hp
    have hk := List.mem_range.mp hk
    have h2 := hYs (n - 1 - k) (by omega)
    show sz (Yd X (Sk G n) n (n - 1 - k)) ≤ 16000
    omega
theorem law_knots_spec (gr : Bool) (c : Int) (mo : Nat) (h1 : 1 ≤ mo) (h8 : mo ≤ 8) : ∃ ks : List (Rat × Rat), f__law_knots [.int c, .int (mo : Int), .bl gr] = some (.tup (ks.map encK)) ∧ KOk ks ∧ KSz 18000 ks ∧ ks.length ≤ 8 := by
  obtain ⟨ks, h2, o, z, hl⟩ := law_knots_kz gr c mo h1 h8
  exact ⟨ks, h2, o, z.ksz (by decide) (by decide), by omega⟩
theorem law_value_spec {ks : List (Rat × Rat)} (o : KOk ks) {c : Nat} (hc : c ≤ 1000000) (h : KSz c ks) (hl : ks.length ≤ 1000000) {a : Rat} (ha : sz a ≤ c) : f__law_value [.tup (ks.map encK), encQ a] = some (encQ (valK ks a)) := by
  have hlen := o.len
  have e0 : atI (ks.map encK) 0 = some (encK (kAt ks 0)) := at_k hlen
  obtain ⟨x1, x2⟩ := h _ (kAt_mem (k := 0) hlen)
  have c0 := law_less_spec (a := (kAt ks 0).1) (b := a) (by omega)
  have hll : ((ks.map encK).length : Int) = (ks.length : Int) := by simp
  have hri : (ks.length : Int) < 4611686018427387904 := by omega
  have hto : ((ks.length : Int) - 1).toNat = ks.length - 1 := by omega
  by_cases c1 : a ≤ (kAt ks 0).1
  · have e : valK ks a = (kAt ks 0).2 := if_pos c1
    rw [decide_eq_false (by grind)] at c0
    rw [e]
    refine (run_eq (by rfl)).trans ?_
    generalize ks.map encK = KS at *
    unfold encK at e0
    generalize encQ a = v1 at *
    generalize encQ (kAt ks 0).1 = v2 at *
    generalize encQ (kAt ks 0).2 = v3 at *
    simp -implicitDefEqProofs [m__law_value, startE, e0, c0]
  · rw [decide_eq_true (by grind)] at c0
    have lp := for_find (T := Sl) (gs := gsName 2) (mb := b1__law_value) (fun t => [.has (.fz (.tup (ks.map encK))), .has (.fz (encQ a)), t, .un, .un]) (fun (i : Nat) => D.int ((i : Int) + 1)) (fun i => decide (a ≤ (kAt ks (i + 1)).1)) (fun i => encQ (pieceV ks a i)) (List.range (ks.length - 1)) .un (fun i hi t => by
      have hi := List.mem_range.mp hi
      have hi1 : i + 1 < ks.length := by omega
      have e1 := at_k1 hi1
      have e2 := at_k (ks := ks) (k := i) (by omega)
      obtain ⟨y1, y2⟩ := h _ (kAt_mem hi1)
      obtain ⟨w1, w2⟩ := h _ (kAt_mem (k := i) (by omega))
      have ci := law_less_spec (a := (kAt ks (i + 1)).1) (b := a) (by omega)
      have z1 := sz_sub (kAt ks (i + 1)).1 (kAt ks i).1
      have z2 := sz_sub (kAt ks (i + 1)).2 (kAt ks i).2
      have z3 := sz_sub a (kAt ks i).1
      have z4 := sz_mul ((kAt ks (i + 1)).2 - (kAt ks i).2) (a - (kAt ks i).1)
      have z5 := sz_div (((kAt ks (i + 1)).2 - (kAt ks i).2) * (a - (kAt ks i).1)) ((kAt ks (i + 1)).1 - (kAt ks i).1)
      have k1 := law_sub_spec (a := (kAt ks (i + 1)).1) (b := (kAt ks i).1) (by omega)
      have k2 := law_sub_spec (a := (kAt ks (i + 1)).2) (b := (kAt ks i).2) (by omega)
      have k3 := law_sub_spec (a := a) (b := (kAt ks i).1) (by omega)
      have k4 := law_mul_spec (a := (kAt ks (i + 1)).2 - (kAt ks i).2) (b := a - (kAt ks i).1) (by omega)
      have k5 := law_div_spec (a := ((kAt ks (i + 1)).2 - (kAt ks i).2) * (a - (kAt ks i).1)) (b := (kAt ks (i + 1)).1 - (kAt ks i).1) (o.ne0 hi1) (by omega)
      have k6 := law_add_spec (a := (kAt ks i).2) (b := ((kAt ks (i + 1)).2 - (kAt ks i).2) * (a - (kAt ks i).1) / ((kAt ks (i + 1)).1 - (kAt ks i).1)) (by omega)
      rw [← pieceV_alt] at k6
      refine ⟨_, .has (.fz (.int ((i : Int) + 1))), rfl, fun hb => ?_, fun hb => ?_⟩
      · have hb := of_decide_eq_true hb
        rw [decide_eq_false (by grind)] at ci
        generalize ks.map encK = KS at *
        unfold encK at *
        generalize encQ (pieceV ks a i) = v0 at *
        generalize encQ (((kAt ks (i + 1)).2 - (kAt ks i).2) * (a - (kAt ks i).1) / ((kAt ks (i + 1)).1 - (kAt ks i).1)) = v9 at *
        generalize encQ (((kAt ks (i + 1)).2 - (kAt ks i).2) * (a - (kAt ks i).1)) = v1 at *
        generalize encQ (a - (kAt ks i).1) = v2 at *
        generalize encQ ((kAt ks (i + 1)).2 - (kAt ks i).2) = v3 at *
        generalize encQ ((kAt ks (i + 1)).1 - (kAt ks i).1) = v10 at *
        generalize encQ (kAt ks (i + 1)).1 = v4 at *
        generalize encQ (kAt ks (i + 1)).2 = v5 at *
        generalize encQ (kAt ks i).1 = v6 at *
        generalize encQ (kAt ks i).2 = v7 at *
        generalize encQ a = v8 at *
        simp -implicitDefEqProofs [b1__law_value, e1, e2, ci, k1, k2, k3, k4, k5, k6]
      · have hb := of_decide_eq_false hb
        rw [decide_eq_true (by grind)] at ci
        generalize ks.map encK = KS at *
        unfold encK at *
        generalize encQ (kAt ks (i + 1)).1 = v4 at *
        generalize encQ (kAt ks (i + 1)).2 = v5 at *
        generalize encQ a = v8 at *
        simp -implicitDefEqProofs [b1__law_value, e1, ci])
    rw [← range1_map] at lp
    have e : valK ks a = match segLe ks a with
      | some i => pieceV ks a i
      | none => a := if_neg c1
    rw [e]
    cases hs : segLe ks a with
    | some i =>
      have hf := lp.1 i hs
      refine (run_eq (by rfl)).trans ?_
      generalize ks.map encK = KS at *
      unfold encK at e0
      show _ = some (encQ (pieceV ks a i))
      generalize encQ (pieceV ks a i) = v0 at *
      generalize encQ a = v1 at *
      generalize encQ (kAt ks 0).1 = v2 at *
      generalize encQ (kAt ks 0).2 = v3 at *
      simp -implicitDefEqProofs [m__law_value, startE, e0, c0, mR2, hll, hri, hto, hf]
    | none =>
      obtain ⟨t, hf⟩ := lp.2 hs
      refine (run_eq (by rfl)).trans ?_
      generalize ks.map encK = KS at *
      unfold encK at e0
      show _ = some (encQ a)
      generalize encQ a = v1 at *
      generalize encQ (kAt ks 0).1 = v2 at *
      generalize encQ (kAt ks 0).2 = v3 at *
      simp -implicitDefEqProofs [m__law_value, startE, e0, c0, mR2, hll, hri, hto, hf]
theorem law_slope_gen {ks : List (Rat × Rat)} (hlen : 0 < ks.length) (hn0 : ∀ {k : Nat}, k + 1 < ks.length → (kAt ks (k + 1)).1 - (kAt ks k).1 ≠ 0) {c : Nat} (hc : c ≤ 8000000) (h : KSz c ks) (hl : ks.length ≤ 1000000) {a : Rat} (ha : sz a ≤ c) : f__law_slope [.tup (ks.map encK), encQ a] = some (encQ (slopeK ks a)) := by
  have e0 : atI (ks.map encK) 0 = some (encK (kAt ks 0)) := at_k hlen
  obtain ⟨x1, x2⟩ := h _ (kAt_mem (k := 0) hlen)
  have c0 := law_less_spec (a := a) (b := (kAt ks 0).1) (by omega)
  have hll : ((ks.map encK).length : Int) = (ks.length : Int) := by simp
  have hri : (ks.length : Int) < 4611686018427387904 := by omega
  have hto : ((ks.length : Int) - 1).toNat = ks.length - 1 := by omega
  by_cases c1 : a < (kAt ks 0).1
  · have e : slopeK ks a = 0 := if_pos c1
    rw [decide_eq_true c1] at c0
    rw [e, encQ_zero]
    refine (run_eq (by rfl)).trans ?_
    generalize ks.map encK = KS at *
    unfold encK at e0
    generalize encQ a = v1 at *
    generalize encQ (kAt ks 0).1 = v2 at *
    generalize encQ (kAt ks 0).2 = v3 at *
    simp -implicitDefEqProofs [m__law_slope, startE, e0, c0]
  · rw [decide_eq_false c1] at c0
    have lp := for_find (T := Sl) (gs := gsName 2) (mb := b1__law_slope) (fun t => [.has (.fz (.tup (ks.map encK))), .has (.fz (encQ a)), t, .un]) (fun (i : Nat) => D.int ((i : Int) + 1)) (fun i => decide (a < (kAt ks (i + 1)).1)) (fun i => encQ (sl ks i)) (List.range (ks.length - 1)) .un (fun i hi t => by
      have hi := List.mem_range.mp hi
      have hi1 : i + 1 < ks.length := by omega
      have e1 := at_k1 hi1
      have e2 := at_k (ks := ks) (k := i) (by omega)
      obtain ⟨y1, y2⟩ := h _ (kAt_mem hi1)
      obtain ⟨w1, w2⟩ := h _ (kAt_mem (k := i) (by omega))
      have ci := law_less_spec (a := a) (b := (kAt ks (i + 1)).1) (by omega)
      have z1 := sz_sub (kAt ks (i + 1)).1 (kAt ks i).1
      have z2 := sz_sub (kAt ks (i + 1)).2 (kAt ks i).2
      have k1 := law_sub_spec (a := (kAt ks (i + 1)).1) (b := (kAt ks i).1) (by omega)
      have k2 := law_sub_spec (a := (kAt ks (i + 1)).2) (b := (kAt ks i).2) (by omega)
      have k5 := law_div_spec (a := (kAt ks (i + 1)).2 - (kAt ks i).2) (b := (kAt ks (i + 1)).1 - (kAt ks i).1) (hn0 hi1) (by omega)
      have k5 : f__law_div [encQ ((kAt ks (i + 1)).2 - (kAt ks i).2), encQ ((kAt ks (i + 1)).1 - (kAt ks i).1)] = some (encQ (sl ks i)) := k5
      refine ⟨_, .has (.fz (.int ((i : Int) + 1))), rfl, fun hb => ?_, fun hb => ?_⟩
      · have hb := of_decide_eq_true hb
        rw [decide_eq_true hb] at ci
        generalize ks.map encK = KS at *
        unfold encK at *
        generalize encQ (sl ks i) = v0 at *
        generalize encQ ((kAt ks (i + 1)).2 - (kAt ks i).2) = v3 at *
        generalize encQ ((kAt ks (i + 1)).1 - (kAt ks i).1) = v10 at *
        generalize encQ (kAt ks (i + 1)).1 = v4 at *
        generalize encQ (kAt ks (i + 1)).2 = v5 at *
        generalize encQ (kAt ks i).1 = v6 at *
        generalize encQ (kAt ks i).2 = v7 at *
        generalize encQ a = v8 at *
        simp -implicitDefEqProofs [b1__law_slope, e1, e2, ci, k1, k2, k5]
      · have hb := of_decide_eq_false hb
        rw [decide_eq_false hb] at ci
        generalize ks.map encK = KS at *
        unfold encK at *
        generalize encQ (kAt ks (i + 1)).1 = v4 at *
        generalize encQ (kAt ks (i + 1)).2 = v5 at *
        generalize encQ a = v8 at *
        simp -implicitDefEqProofs [b1__law_slope, e1, ci])
    rw [← range1_map] at lp
    have e : slopeK ks a = match segLt ks a with
      | some i => sl ks i
      | none => 1 := if_neg c1
    rw [e]
    cases hs : segLt ks a with
    | some i =>
      have hf := lp.1 i hs
      refine (run_eq (by rfl)).trans ?_
      generalize ks.map encK = KS at *
      unfold encK at e0
      show _ = some (encQ (sl ks i))
      generalize encQ (sl ks i) = v0 at *
      generalize encQ a = v1 at *
      generalize encQ (kAt ks 0).1 = v2 at *
      generalize encQ (kAt ks 0).2 = v3 at *
      simp -implicitDefEqProofs [m__law_slope, startE, e0, c0, mR2, hll, hri, hto, hf]
    | none =>
      obtain ⟨t, hf⟩ := lp.2 hs
      refine (run_eq (by rfl)).trans ?_
      generalize ks.map encK = KS at *
      unfold encK at e0
      show _ = some (encQ 1)
      rw [encQ_one]
      generalize encQ a = v1 at *
      generalize encQ (kAt ks 0).1 = v2 at *
      generalize encQ (kAt ks 0).2 = v3 at *
      simp -implicitDefEqProofs [m__law_slope, startE, e0, c0, mR2, hll, hri, hto, hf]
theorem law_slope_spec {ks : List (Rat × Rat)} (o : KOk ks) {c : Nat} (hc : c ≤ 8000000) (h : KSz c ks) (hl : ks.length ≤ 1000000) {a : Rat} (ha : sz a ≤ c) : f__law_slope [.tup (ks.map encK), encQ a] = some (encQ (slopeK ks a)) := by
  exact law_slope_gen o.len (fun hk => o.ne0 hk) hc h hl ha
def befC (ks : List (Rat × Rat)) (i : Nat) : Rat := if i ≤ 1 then 0 else sl ks (i - 2)
theorem pre_at {ks : List (Rat × Rat)} {n i : Nat} (h : i < n) : kAt (ks.take n) i = kAt ks i := by
  unfold kAt
  rw [List.getElem?_take, if_pos h]
theorem pre_slope {ks : List (Rat × Rat)} (o : KOk ks) {j : Nat} (hj : j + 1 < ks.length) : slopeK (ks.take (j + 2)) (kAt ks j).1 = sl ks j := by
  have hl : (ks.take (j + 2)).length = j + 2 := by rw [List.length_take]; omega
  have h0 : ¬ (kAt ks j).1 < (kAt (ks.take (j + 2)) 0).1 := by
    rw [pre_at (by omega)]
    exact Rat.not_lt.mpr (k_mono o (by omega) (by omega))
  have hs : segLt (ks.take (j + 2)) (kAt ks j).1 = some j := by
    unfold segLt
    rw [hl]
    refine (List.find?_range_eq_some).mpr ⟨decide_eq_true ?_, List.mem_range.mpr (by omega), fun i hi => ?_⟩
    · rw [pre_at (by omega)]; exact o.asc j hj
    · have : ¬ (kAt ks j).1 < (kAt (ks.take (j + 2)) (i + 1)).1 := by
        rw [pre_at (by omega)]
        exact Rat.not_lt.mpr (k_mono o (by omega) (by omega))
      simp [this]
  unfold slopeK
  rw [if_neg h0, hs]
  show sl (ks.take (j + 2)) j = sl ks j
  unfold sl
  rw [pre_at (by omega), pre_at (by omega)]
theorem law_is_curve_spec {ks : List (Rat × Rat)} (o : KOk ks) {c : Nat} (hc : c ≤ 8000000) (h : KSz c ks) (hl : ks.length ≤ 1000000) : f__law_is_curve [.tup (ks.map encK)] = some (.bl true) := by
  have hlen := o.len
  have hll : ((ks.map encK).length : Int) = (ks.length : Int) := by simp
  have hri : (ks.length : Int) < 4611686018427387904 := by omega
  have hne : ¬ (ks.length : Int) = 0 := by omega
  have z0 : D.tup [.int 0, .int 1] = encQ 0 := encQ_zero.symm
  have z1 : D.tup [.int 1, .int 1] = encQ 1 := encQ_one.symm
  obtain ⟨env', hf, i2, i3, rfl⟩ := for_inv (gs := gsName 2) (mb := b1__law_is_curve) (ds := rangeD 0 ks.length) (env := [.has (.fz (.tup (ks.map encK))), .has (.fz (encQ 0)), .un, .un])
    (fun i env => ∃ i2 i3, env = [.has (.fz (.tup (ks.map encK))), .has (.fz (encQ (befC ks i))), i2, i3]) ⟨.un, .un, by unfold befC; rfl⟩ (by
      rintro i d env hd ⟨i2, i3, rfl⟩
      obtain ⟨hi, rfl⟩ := rangeD0_get hd
      have e2 := at_k hi
      have r1 := law_is_ratio_spec (kAt ks i).1
      have r2 := law_is_ratio_spec (kAt ks i).2
      by_cases h0 : i = 0
      · subst h0
        have e2 : atI (ks.map encK) 0 = some (encK (kAt ks 0)) := e2
        have eb : befC ks (0 + 1) = 0 := by unfold befC; rfl
        have eb0 : befC ks 0 = 0 := by unfold befC; rfl
        rw [eb, eb0]
        refine ⟨_, _, rfl, .inl ?_, .has (.fz (.int 0)), i3, rfl⟩
        generalize ks.map encK = KS at *
        unfold encK at *
        generalize encQ (kAt ks 0).1 = v1 at *
        generalize encQ (kAt ks 0).2 = v2 at *
        generalize encQ 0 = Z at *
        simp -implicitDefEqProofs [b1__law_is_curve, isiO, hll, e2, r1, r2]
      · obtain ⟨j, rfl⟩ : ∃ j, i = j + 1 := ⟨i - 1, by omega⟩
        have e1 := at_k (ks := ks) (k := j) (by omega)
        have e2 : atI (ks.map encK) ((j : Int) + 1) = some (encK (kAt ks (j + 1))) := at_k1 hi
        obtain ⟨y1, y2⟩ := h _ (kAt_mem hi)
        obtain ⟨w1, w2⟩ := h _ (kAt_mem (k := j) (by omega))
        have l1 := law_less_spec (a := (kAt ks j).1) (b := (kAt ks (j + 1)).1) (by omega)
        rw [decide_eq_true (o.asc j hi)] at l1
        have zs := sl_sz h hi
        have l3 := law_less_spec (a := sl ks j) (b := 1) (by rw [sz_one]; omega)
        rw [decide_eq_true (o.one j hi)] at l3
        have zb : sz (befC ks (j + 1)) ≤ 4 * c + 2 := by
          unfold befC
          split
          · rw [sz_zero]; omega
          · exact sl_sz h (k := j + 1 - 2) (by omega)
        have hlt : befC ks (j + 1) < sl ks j := by
          unfold befC
          split
          · have : j = 0 := by omega
            subst this
            exact o.pos (by omega)
          · have e : j = (j + 1 - 2) + 1 := by omega
            have := o.up (j + 1 - 2) (by omega)
            rw [← e] at this
            exact this
        have l2 := law_less_spec (a := befC ks (j + 1)) (b := sl ks j) (by omega)
        rw [decide_eq_true hlt] at l2
        have hln : (ks.take (j + 2)).length = j + 2 := by rw [List.length_take]; omega
        have sp := law_slope_gen (ks := ks.take (j + 2)) (by omega) (fun {k} hk => by
          rw [hln] at hk
          rw [pre_at (by omega), pre_at (by omega)]
          exact o.ne0 (by omega)) hc (fun p hp => h p (List.mem_of_mem_take hp)) (by omega) (a := (kAt ks j).1) w1
        rw [pre_slope o hi] at sp
        have ecut : cut (ks.map encK) none (some ((j : Int) + 1 + 1)) = (ks.take (j + 2)).map encK := by
          have ec : (j : Int) + 1 + 1 = ((j + 2 : Nat) : Int) := by omega
          rw [ec, cut_to, List.map_take]
        have eb : befC ks (j + 1 + 1) = sl ks j := by
          unfold befC
          rw [if_neg (by omega)]; rfl
        rw [eb]
        have hpos : 0 < (j : Int) + 1 := by omega
        refine ⟨_, _, rfl, .inl ?_, .has (.fz (.int ((j : Int) + 1))), .has (.fz (encQ (sl ks j))), rfl⟩
        show b1__law_is_curve [.has (.fz (.tup (ks.map encK))), .has (.fz (encQ (befC ks (j + 1)))), .has (.fz (.int ((j : Int) + 1))), i3] = _
        clear y1 y2 w1 w2 zs zb hln
        generalize (ks.take (j + 2)).map encK = PK at *
        generalize ks.map encK = KS at *
        unfold encK at *
        generalize encQ (befC ks (j + 1)) = v0 at *
        generalize encQ (kAt ks (j + 1)).1 = v1 at *
        generalize encQ (kAt ks (j + 1)).2 = v2 at *
        generalize encQ (kAt ks j).1 = v3 at *
        generalize encQ (kAt ks j).2 = v4 at *
        generalize encQ (sl ks j) = v5 at *
        generalize encQ 1 = O1 at *
        simp -implicitDefEqProofs [b1__law_is_curve, isiO, hll, e1, e2, r1, r2, l1, l2, l3, z1, hpos, ecut, sp])
  have el : atI (ks.map encK) ((ks.length : Int) - 1) = some (encK (kAt ks (ks.length - 1))) := by
    have e : (ks.length : Int) - 1 = ((ks.length - 1 : Nat) : Int) := by omega
    rw [e]
    exact at_k (by omega)
  have hlast := o.last
  have hnn := o.ne
  have q1 := (eq_self (d := encQ (kAt ks (ks.length - 1)).2) (encQ_gd _) (by rw [encQ_dep]; omega)).1
  refine (run_eq (by rfl)).trans ?_
  simp only [m__law_is_curve]
  generalize ks.map encK = KS at *
  generalize encQ (befC ks (rangeD 0 ks.length).length) = v0 at *
  unfold encK at el
  rw [hlast] at el
  generalize encQ (kAt ks (ks.length - 1)).2 = v1 at *
  generalize encQ 0 = Z at *
  simp -implicitDefEqProofs [startE, isiO, hll, hne, hnn, mR1, hri, z0, hf, el, q1]
theorem law_not_above_spec {ks qs : List (Rat × Rat)} (o : KOk ks) (p : KOk qs) {c : Nat} (hc : c ≤ 1000000) (hz : KSz c ks) (hw : KSz c qs) (hl1 : ks.length ≤ 1000000) (hl2 : qs.length ≤ 1000000) :
    ∃ b : Bool, (b = true ↔ ∀ x, valK ks x ≤ valK qs x) ∧ f__law_not_above [.tup (ks.map encK), .tup (qs.map encK)] = some (.bl b) := by
  have hsz : ∀ q ∈ ks ++ qs, sz q.1 ≤ c ∧ sz q.2 ≤ c := fun q hq => by
    rcases List.mem_append.mp hq with h | h
    · exact hz q h
    · exact hw q h
  have lp := for_find (T := Sl) (gs := gsName 2) (mb := b1__law_not_above) (fun t => [.has (.fz (.tup (ks.map encK))), .has (.fz (.tup (qs.map encK))), t]) encK (fun q => decide (valK qs q.1 < valK ks q.1)) (fun _ => .bl false) (ks ++ qs) .un (fun q hq t => by
    obtain ⟨za, _⟩ := hsz q hq
    have v1 := law_value_spec o hc hz hl1 za
    have v2 := law_value_spec p hc hw hl2 za
    have y1 := valK_sz o hz za
    have y2 := valK_sz p hw za
    have lt := law_less_spec (a := valK qs q.1) (b := valK ks q.1) (by omega)
    refine ⟨_, .has (.fz (encK q)), rfl, fun hb => ?_, fun hb => ?_⟩
    · rw [hb] at lt
      generalize ks.map encK = KS at *
      generalize qs.map encK = QS at *
      unfold encK
      generalize encQ (valK qs q.1) = w2 at *
      generalize encQ (valK ks q.1) = w3 at *
      generalize encQ q.1 = w4 at *
      generalize encQ q.2 = w7 at *
      simp -implicitDefEqProofs [b1__law_not_above, v1, v2, lt]
    · rw [hb] at lt
      generalize ks.map encK = KS at *
      generalize qs.map encK = QS at *
      unfold encK
      generalize encQ (valK qs q.1) = w2 at *
      generalize encQ (valK ks q.1) = w3 at *
      generalize encQ q.1 = w4 at *
      generalize encQ q.2 = w7 at *
      simp -implicitDefEqProofs [b1__law_not_above, v1, v2, lt])
  have ea : (ks ++ qs).map encK = ks.map encK ++ qs.map encK := List.map_append
  have hln : (ks.map encK).length + (qs.map encK).length ≤ 16777216 := by rw [List.length_map, List.length_map]; omega
  have ei : D.items (.tup (ks.map encK ++ qs.map encK)) = some (ks.map encK ++ qs.map encK) := rfl
  cases hs : (ks ++ qs).find? (fun q => decide (valK qs q.1 < valK ks q.1)) with
  | some q =>
    have hf := lp.1 q hs
    refine ⟨false, ⟨(fun h => by cases h), fun h => ?_⟩, ?_⟩
    · have := List.find?_some hs
      have := of_decide_eq_true this
      exact absurd this (Rat.not_lt.mpr (h q.1))
    · rw [ea] at hf
      refine (run_eq (by rfl)).trans ?_
      simp only [m__law_not_above]
      generalize ks.map encK = KS at *
      generalize qs.map encK = QS at *
      simp -implicitDefEqProofs [startE, hln, ei, hf]
  | none =>
    obtain ⟨t, hf⟩ := lp.2 hs
    have hn := List.find?_eq_none.mp hs
    have hall : ∀ q ∈ ks ++ qs, valK ks q.1 ≤ valK qs q.1 := fun q hq => Rat.not_lt.mp fun h => hn q hq (decide_eq_true h)
    refine ⟨true, ⟨fun _ x => ?_, fun _ => rfl⟩, ?_⟩
    · have := gap_all p o (L := 0) Rat.le_refl (fun q hq => by have := hall q (by simp [hq]); grind) (fun q hq => by have := hall q (by simp [hq]); grind) x
      grind
    · rw [ea] at hf
      refine (run_eq (by rfl)).trans ?_
      simp only [m__law_not_above]
      generalize ks.map encK = KS at *
      generalize qs.map encK = QS at *
      simp -implicitDefEqProofs [startE, hln, ei, hf]
def insK (ks : List (Rat × Rat)) : D := .ins "Curve" ["knots"] [.tup (ks.map encK)]
theorem Curve_of {kd : D} {ks : List (Rat × Rat)} (o : KOk ks) {c : Nat} (hc : c ≤ 8000000) (h : KSz c ks) (hl : ks.length ≤ 1000000) (hk : kd = .tup (ks.map encK) ∨ kd = .lst (ks.map encK)) : f_Curve [kd] = some (insK ks) := by
  have fw := first_wrong_spec o hc h hl
  have hne : (ks.map encK).isEmpty = false := by
    cases ks with
    | nil => exact absurd rfl o.ne
    | cons k ks => rfl
  refine valI_of ⟨rfl, fun a => ?_⟩
  unfold i_Curve
  generalize ks.map encK = KS at *
  have et : oTru (.fz (.tup KS)) = some true := by
    show some (!KS.isEmpty) = _
    rw [hne]; rfl
  rcases hk with rfl | rfl
  · simp -implicitDefEqProofs [startI, iStore, fw, et]
  · simp -implicitDefEqProofs [startI, iStore, fw, et]
theorem Curve_and_spec {ks qs : List (Rat × Rat)} (o : KOk ks) (p : KOk qs) {a s v : Nat} (z : KZ a s v ks) (w : KZ a s v qs) (hb : a + s + v ≤ 400000) (hl1 : ks.length ≤ 1000) (hl2 : qs.length ≤ 1000) :
    ∃ R : List (Rat × Rat), MeetK ks qs R ∧ KZ a (2 * (v + s + 2 * a + 3) + 2 * a + 2) (v + s + 2 * a + 3) R ∧ R.length ≤ ks.length + qs.length ∧ f_Curve___and__ [insK ks, insK qs] = some (insK R) := by
  obtain ⟨R, r1, r2, r3, h⟩ := meet_knots_spec o p z w hb hl1 hl2
  have cv := Curve_of (kd := .tup (R.map encK)) r1.ok (c := 8000000) (by omega) (r2.ksz (by omega) (by omega)) (by omega) (.inl rfl)
  refine ⟨R, r1, r2, r3, ?_⟩
  refine (run_eq (by rfl)).trans ?_
  unfold insK at *
  generalize ks.map encK = KS at *
  generalize qs.map encK = QS at *
  generalize R.map encK = RS at *
  simp -implicitDefEqProofs [m_Curve___and__, startE, lookF, h, cv]
end Lw

set_option Elab.async false
set_option linter.all false
set_option maxRecDepth 100000
set_option maxHeartbeats 4000000
namespace Lw
open PySem L2 Q
theorem ins_Curve___and__ : ∀ ds d, f_Curve___and__ ds = some d → ∃ ns es, d = .ins "Curve" ns es := ret_ins valI_ins
def top (i : Nat) : Stmt := PySem.Challenge.pw_anycompany_k39_meets_of_curves.main.body.getD i (.Pass ⟨0, 0, 0, 0⟩)
structure Txt (K : PySem.W.Frag) (mg : Str → Option Value) : Prop where
  b_gcd : mg "gcd" = some (.builtin "math.gcd")
  b_range : mg "range" = none
  b_len : mg "len" = none
  b_tuple : mg "tuple" = none
  b_abs : mg "abs" = none
  b_int : mg "int" = none
  b_isinstance : mg "isinstance" = none
  b_bool : mg "bool" = none
  b_sum : mg "sum" = none
  k_ZERO : CstOk K mg "ZERO" d_ZERO
  k_ONE : CstOk K mg "ONE" d_ONE
  fl_Curve : FldOk K "Curve" "knots"
  sf_Curve : ∀ C, PySem.W.nsIn K mainGlobals "Curve" = some (some (.ref C)) → PySem.W.selfFirst K C = true
section
variable {P : Program} {w : World} {K : PySem.W.Frag} {mg : Str → Option Value} {base : Heap}
abbrev s__wall : Stmt := top 1
theorem sc__wall : FnScope ["k"] ["k"] (defScope s__wall) := ⟨rfl, rfl, rfl, by decide +kernel, rfl, by decide +kernel, by decide +kernel⟩
theorem ok__wall {f : Addr} {fd : FuncData} (GR : Grd base P) (T : Txt K mg) (F : Fun K "_wall" "_wall" s__wall f fd) (hm : mg "_wall" = some (.ref f)) (hb : Binds K fd ["k"] []) : DefOk P w K mg base 41 "_wall" 1 f__wall := by
  refine def_ok F sc__wall hm hb (fun cdv A outer s H E hr => ?_)
  have nd := (sc__wall).nd
  have hu64 := hr.units
  have sr := sr_def (outer := outer) GR hr (by first | decide | omega) rfl rfl
  exact qss_one (qs_while PassesOwn.never (qt_val (qv_of_qe (qe_bl))) (qss_one (qs_pass)))
abbrev s_common_divisor : Stmt := top 8
theorem sc_common_divisor : FnScope ["a", "b"] ["a", "b"] (defScope s_common_divisor) := ⟨rfl, rfl, rfl, by decide +kernel, rfl, by decide +kernel, by decide +kernel⟩
theorem ok_common_divisor {f : Addr} {fd : FuncData} (GR : Grd base P) (T : Txt K mg) (F : Fun K "common_divisor" "common_divisor" s_common_divisor f fd) (hm : mg "common_divisor" = some (.ref f)) (hb : Binds K fd ["a", "b"] []) : DefOk P w K mg base 41 "common_divisor" 2 f_common_divisor := by
  refine def_ok F sc_common_divisor hm hb (fun cdv A outer s H E hr => ?_)
  have nd := (sc_common_divisor).nd
  have hu64 := hr.units
  have sr := sr_def (outer := outer) GR hr (by first | decide | omega) rfl rfl
  exact qss_one (qs_ret (qe_callBfun c_gcd rfl T.b_gcd (qva_cons (qv_name 0) (qva_cons (qv_name 1) (qva_nil)))))
abbrev s_make_ratio : Stmt := top 9
theorem sc_make_ratio : FnScope ["n", "d", "divisor"] ["n", "d"] (defScope s_make_ratio) := ⟨rfl, rfl, rfl, by decide +kernel, rfl, by decide +kernel, by decide +kernel⟩
theorem ok_make_ratio {f : Addr} {fd : FuncData} (GR : Grd base P) (T : Txt K mg) (F : Fun K "make_ratio" "make_ratio" s_make_ratio f fd) (hm : mg "make_ratio" = some (.ref f)) (hb : Binds K fd ["n", "d"] []) (G_common_divisor : DefOk P w K mg base 41 "common_divisor" 2 f_common_divisor) : DefOk P w K mg base 42 "make_ratio" 2 f_make_ratio := by
  refine def_ok F sc_make_ratio hm hb (fun cdv A outer s H E hr => ?_)
  have nd := (sc_make_ratio).nd
  have hu64 := hr.units
  have sr := sr_def (outer := outer) GR hr (by first | decide | omega) rfl rfl
  exact qss_cons (qs_if (qt_cmp (q_eq hu64) (qv_name 1) (qv_of_qe (qe_int)) (nomark _)) (qss_one (qs_never)) (qss_nil))
    (qss_cons (qs_set (i := 2) nd rfl (qe_call G_common_divisor (hr.mono (by decide)) (qa_cons (qe_name 0) (qa_cons (qe_name 1) (qa_nil)))))
    (qss_cons (qs_if (qt_cmp q_lt (qv_name 1) (qv_of_qe (qe_int)) (nomark _)) (qss_one (qs_set (i := 2) nd rfl (qe_neg (qv_name 2)))) (qss_nil))
    (qss_one (qs_ret (qe_tup (qa_cons (qe_bin (q_fdiv sr) (qv_name 0) (qv_name 2)) (qa_cons (qe_bin (q_fdiv sr) (qv_name 1) (qv_name 2)) (qa_nil))))))))
abbrev s_add : Stmt := top 10
theorem sc_add : FnScope ["a", "b"] ["a", "b"] (defScope s_add) := ⟨rfl, rfl, rfl, by decide +kernel, rfl, by decide +kernel, by decide +kernel⟩
theorem ok_add {f : Addr} {fd : FuncData} (GR : Grd base P) (T : Txt K mg) (F : Fun K "add" "add" s_add f fd) (hm : mg "add" = some (.ref f)) (hb : Binds K fd ["a", "b"] []) (G_make_ratio : DefOk P w K mg base 42 "make_ratio" 2 f_make_ratio) : DefOk P w K mg base 43 "add" 2 f_add := by
  refine def_ok F sc_add hm hb (fun cdv A outer s H E hr => ?_)
  have nd := (sc_add).nd
  have hu64 := hr.units
  have sr := sr_def (outer := outer) GR hr (by first | decide | omega) rfl rfl
  exact qss_one (qs_ret (qe_call G_make_ratio (hr.mono (by decide)) (qa_cons (qe_bin q_add (qv_of_qe (qe_bin q_mul (qv_ix (qv_name 0) (qv_of_qe (qe_int))) (qv_ix (qv_name 1) (qv_of_qe (qe_int))))) (qv_of_qe (qe_bin q_mul (qv_ix (qv_name 1) (qv_of_qe (qe_int))) (qv_ix (qv_name 0) (qv_of_qe (qe_int)))))) (qa_cons (qe_bin q_mul (qv_ix (qv_name 0) (qv_of_qe (qe_int))) (qv_ix (qv_name 1) (qv_of_qe (qe_int)))) (qa_nil)))))
abbrev s_subtract : Stmt := top 11
theorem sc_subtract : FnScope ["a", "b"] ["a", "b"] (defScope s_subtract) := ⟨rfl, rfl, rfl, by decide +kernel, rfl, by decide +kernel, by decide +kernel⟩
theorem ok_subtract {f : Addr} {fd : FuncData} (GR : Grd base P) (T : Txt K mg) (F : Fun K "subtract" "subtract" s_subtract f fd) (hm : mg "subtract" = some (.ref f)) (hb : Binds K fd ["a", "b"] []) (G_make_ratio : DefOk P w K mg base 42 "make_ratio" 2 f_make_ratio) : DefOk P w K mg base 43 "subtract" 2 f_subtract := by
  refine def_ok F sc_subtract hm hb (fun cdv A outer s H E hr => ?_)
  have nd := (sc_subtract).nd
  have hu64 := hr.units
  have sr := sr_def (outer := outer) GR hr (by first | decide | omega) rfl rfl
  exact qss_one (qs_ret (qe_call G_make_ratio (hr.mono (by decide)) (qa_cons (qe_bin q_sub (qv_of_qe (qe_bin q_mul (qv_ix (qv_name 0) (qv_of_qe (qe_int))) (qv_ix (qv_name 1) (qv_of_qe (qe_int))))) (qv_of_qe (qe_bin q_mul (qv_ix (qv_name 1) (qv_of_qe (qe_int))) (qv_ix (qv_name 0) (qv_of_qe (qe_int)))))) (qa_cons (qe_bin q_mul (qv_ix (qv_name 0) (qv_of_qe (qe_int))) (qv_ix (qv_name 1) (qv_of_qe (qe_int)))) (qa_nil)))))
abbrev s_multiply : Stmt := top 12
theorem sc_multiply : FnScope ["a", "b"] ["a", "b"] (defScope s_multiply) := ⟨rfl, rfl, rfl, by decide +kernel, rfl, by decide +kernel, by decide +kernel⟩
theorem ok_multiply {f : Addr} {fd : FuncData} (GR : Grd base P) (T : Txt K mg) (F : Fun K "multiply" "multiply" s_multiply f fd) (hm : mg "multiply" = some (.ref f)) (hb : Binds K fd ["a", "b"] []) (G_make_ratio : DefOk P w K mg base 42 "make_ratio" 2 f_make_ratio) : DefOk P w K mg base 43 "multiply" 2 f_multiply := by
  refine def_ok F sc_multiply hm hb (fun cdv A outer s H E hr => ?_)
  have nd := (sc_multiply).nd
  have hu64 := hr.units
  have sr := sr_def (outer := outer) GR hr (by first | decide | omega) rfl rfl
  exact qss_one (qs_ret (qe_call G_make_ratio (hr.mono (by decide)) (qa_cons (qe_bin q_mul (qv_ix (qv_name 0) (qv_of_qe (qe_int))) (qv_ix (qv_name 1) (qv_of_qe (qe_int)))) (qa_cons (qe_bin q_mul (qv_ix (qv_name 0) (qv_of_qe (qe_int))) (qv_ix (qv_name 1) (qv_of_qe (qe_int)))) (qa_nil)))))
abbrev s_divide : Stmt := top 13
theorem sc_divide : FnScope ["a", "b"] ["a", "b"] (defScope s_divide) := ⟨rfl, rfl, rfl, by decide +kernel, rfl, by decide +kernel, by decide +kernel⟩
theorem ok_divide {f : Addr} {fd : FuncData} (GR : Grd base P) (T : Txt K mg) (F : Fun K "divide" "divide" s_divide f fd) (hm : mg "divide" = some (.ref f)) (hb : Binds K fd ["a", "b"] []) (G_make_ratio : DefOk P w K mg base 42 "make_ratio" 2 f_make_ratio) : DefOk P w K mg base 43 "divide" 2 f_divide := by
  refine def_ok F sc_divide hm hb (fun cdv A outer s H E hr => ?_)
  have nd := (sc_divide).nd
  have hu64 := hr.units
  have sr := sr_def (outer := outer) GR hr (by first | decide | omega) rfl rfl
  exact qss_cons (qs_if (qt_cmp (q_eq hu64) (qv_ix (qv_name 1) (qv_of_qe (qe_int))) (qv_of_qe (qe_int)) (nomark _)) (qss_one (qs_never)) (qss_nil))
    (qss_one (qs_ret (qe_call G_make_ratio (hr.mono (by decide)) (qa_cons (qe_bin q_mul (qv_ix (qv_name 0) (qv_of_qe (qe_int))) (qv_ix (qv_name 1) (qv_of_qe (qe_int)))) (qa_cons (qe_bin q_mul (qv_ix (qv_name 0) (qv_of_qe (qe_int))) (qv_ix (qv_name 1) (qv_of_qe (qe_int)))) (qa_nil))))))
abbrev s_compare : Stmt := top 14
theorem sc_compare : FnScope ["a", "b", "left", "right"] ["a", "b"] (defScope s_compare) := ⟨rfl, rfl, rfl, by decide +kernel, rfl, by decide +kernel, by decide +kernel⟩
theorem ok_compare {f : Addr} {fd : FuncData} (GR : Grd base P) (T : Txt K mg) (F : Fun K "compare" "compare" s_compare f fd) (hm : mg "compare" = some (.ref f)) (hb : Binds K fd ["a", "b"] []) : DefOk P w K mg base 41 "compare" 2 f_compare := by
  refine def_ok F sc_compare hm hb (fun cdv A outer s H E hr => ?_)
  have nd := (sc_compare).nd
  have hu64 := hr.units
  have sr := sr_def (outer := outer) GR hr (by first | decide | omega) rfl rfl
  exact qss_cons (qs_set (i := 2) nd rfl (qe_bin q_mul (qv_ix (qv_name 0) (qv_of_qe (qe_int))) (qv_ix (qv_name 1) (qv_of_qe (qe_int)))))
    (qss_cons (qs_set (i := 3) nd rfl (qe_bin q_mul (qv_ix (qv_name 1) (qv_of_qe (qe_int))) (qv_ix (qv_name 0) (qv_of_qe (qe_int)))))
    (qss_cons (qs_if (qt_cmp q_lt (qv_name 2) (qv_name 3) (nomark _)) (qss_one (qs_ret (qe_neg (qv_of_qe (qe_int))))) (qss_nil))
    (qss_cons (qs_if (qt_cmp q_gt (qv_name 2) (qv_name 3) (nomark _)) (qss_one (qs_ret (qe_int))) (qss_nil))
    (qss_one (qs_ret (qe_int))))))
abbrev s_line_slope : Stmt := top 18
theorem sc_line_slope : FnScope ["left", "right"] ["left", "right"] (defScope s_line_slope) := ⟨rfl, rfl, rfl, by decide +kernel, rfl, by decide +kernel, by decide +kernel⟩
theorem ok_line_slope {f : Addr} {fd : FuncData} (GR : Grd base P) (T : Txt K mg) (F : Fun K "line_slope" "line_slope" s_line_slope f fd) (hm : mg "line_slope" = some (.ref f)) (hb : Binds K fd ["left", "right"] []) (G_divide : DefOk P w K mg base 43 "divide" 2 f_divide) (G_subtract : DefOk P w K mg base 43 "subtract" 2 f_subtract) : DefOk P w K mg base 44 "line_slope" 2 f_line_slope := by
  refine def_ok F sc_line_slope hm hb (fun cdv A outer s H E hr => ?_)
  have nd := (sc_line_slope).nd
  have hu64 := hr.units
  have sr := sr_def (outer := outer) GR hr (by first | decide | omega) rfl rfl
  exact qss_one (qs_ret (qe_call G_divide (hr.mono (by decide)) (qa_cons (qe_call G_subtract (hr.mono (by decide)) (qa_cons (qe_fz (qv_ix (qv_name 1) (qv_of_qe (qe_int)))) (qa_cons (qe_fz (qv_ix (qv_name 0) (qv_of_qe (qe_int)))) (qa_nil)))) (qa_cons (qe_call G_subtract (hr.mono (by decide)) (qa_cons (qe_fz (qv_ix (qv_name 1) (qv_of_qe (qe_int)))) (qa_cons (qe_fz (qv_ix (qv_name 0) (qv_of_qe (qe_int)))) (qa_nil)))) (qa_nil)))))
abbrev s_value_at : Stmt := top 19
theorem sc_value_at : FnScope ["knots", "amount", "k", "slope"] ["knots", "amount"] (defScope s_value_at) := ⟨rfl, rfl, rfl, by decide +kernel, rfl, by decide +kernel, by decide +kernel⟩
theorem ok_value_at {f : Addr} {fd : FuncData} (GR : Grd base P) (T : Txt K mg) (F : Fun K "value_at" "value_at" s_value_at f fd) (hm : mg "value_at" = some (.ref f)) (hb : Binds K fd ["knots", "amount"] []) (G_compare : DefOk P w K mg base 41 "compare" 2 f_compare) (G_line_slope : DefOk P w K mg base 44 "line_slope" 2 f_line_slope) (G_add : DefOk P w K mg base 43 "add" 2 f_add) (G_multiply : DefOk P w K mg base 43 "multiply" 2 f_multiply) (G_subtract : DefOk P w K mg base 43 "subtract" 2 f_subtract) : DefOk P w K mg base 45 "value_at" 2 f_value_at := by
  refine def_ok F sc_value_at hm hb (fun cdv A outer s H E hr => ?_)
  have nd := (sc_value_at).nd
  have hu64 := hr.units
  have sr := sr_def (outer := outer) GR hr (by first | decide | omega) rfl rfl
  exact qss_cons (qs_if (qt_cmp q_le (qv_of_qe (qe_call G_compare (hr.mono (by decide)) (qa_cons (qe_name 1) (qa_cons (qe_fz (qv_ix (qv_ix (qv_name 0) (qv_of_qe (qe_int))) (qv_of_qe (qe_int)))) (qa_nil))))) (qv_of_qe (qe_int)) (nomark _)) (qss_one (qs_ret (qe_fz (qv_ix (qv_ix (qv_name 0) (qv_of_qe (qe_int))) (qv_of_qe (qe_int)))))) (qss_nil))
    (qss_cons (qs_for PassesOwn.never rfl (qi_range2 rfl T.b_range (qva_cons (qv_of_qe (qe_int)) (qva_cons (qv_of_qe (qe_callB c_len rfl T.b_len (by decide +kernel) (qva_cons (qv_name 0) (qva_nil)))) (qva_nil)))) (qg_name (i := 2) nd rfl) (qss_one (qs_if (qt_cmp q_le (qv_of_qe (qe_call G_compare (hr.mono (by decide)) (qa_cons (qe_name 1) (qa_cons (qe_fz (qv_ix (qv_ix (qv_name 0) (qv_name 2)) (qv_of_qe (qe_int)))) (qa_nil))))) (qv_of_qe (qe_int)) (nomark _)) (qss_cons (qs_set (i := 3) nd rfl (qe_call G_line_slope (hr.mono (by decide)) (qa_cons (qe_fz (qv_ix (qv_name 0) (qv_of_qe (qe_bin q_sub (qv_name 2) (qv_of_qe (qe_int)))))) (qa_cons (qe_fz (qv_ix (qv_name 0) (qv_name 2))) (qa_nil)))))
    (qss_one (qs_ret (qe_call G_add (hr.mono (by decide)) (qa_cons (qe_fz (qv_ix (qv_ix (qv_name 0) (qv_of_qe (qe_bin q_sub (qv_name 2) (qv_of_qe (qe_int))))) (qv_of_qe (qe_int)))) (qa_cons (qe_call G_multiply (hr.mono (by decide)) (qa_cons (qe_name 3) (qa_cons (qe_call G_subtract (hr.mono (by decide)) (qa_cons (qe_name 1) (qa_cons (qe_fz (qv_ix (qv_ix (qv_name 0) (qv_of_qe (qe_bin q_sub (qv_name 2) (qv_of_qe (qe_int))))) (qv_of_qe (qe_int)))) (qa_nil)))) (qa_nil)))) (qa_nil))))))) (qss_nil))))
    (qss_one (qs_ret (qe_name 1))))
abbrev s_slope_at : Stmt := top 20
theorem sc_slope_at : FnScope ["knots", "amount", "k"] ["knots", "amount"] (defScope s_slope_at) := ⟨rfl, rfl, rfl, by decide +kernel, rfl, by decide +kernel, by decide +kernel⟩
theorem ok_slope_at {f : Addr} {fd : FuncData} (GR : Grd base P) (T : Txt K mg) (F : Fun K "slope_at" "slope_at" s_slope_at f fd) (hm : mg "slope_at" = some (.ref f)) (hb : Binds K fd ["knots", "amount"] []) (G_compare : DefOk P w K mg base 41 "compare" 2 f_compare) (G_line_slope : DefOk P w K mg base 44 "line_slope" 2 f_line_slope) : DefOk P w K mg base 45 "slope_at" 2 f_slope_at := by
  refine def_ok F sc_slope_at hm hb (fun cdv A outer s H E hr => ?_)
  have nd := (sc_slope_at).nd
  have hu64 := hr.units
  have sr := sr_def (outer := outer) GR hr (by first | decide | omega) rfl rfl
  exact qss_cons (qs_if (qt_cmp q_lt (qv_of_qe (qe_call G_compare (hr.mono (by decide)) (qa_cons (qe_name 1) (qa_cons (qe_fz (qv_ix (qv_ix (qv_name 0) (qv_of_qe (qe_int))) (qv_of_qe (qe_int)))) (qa_nil))))) (qv_of_qe (qe_int)) (nomark _)) (qss_one (qs_ret (qe_cst rfl T.k_ZERO))) (qss_nil))
    (qss_cons (qs_for PassesOwn.never rfl (qi_range2 rfl T.b_range (qva_cons (qv_of_qe (qe_int)) (qva_cons (qv_of_qe (qe_callB c_len rfl T.b_len (by decide +kernel) (qva_cons (qv_name 0) (qva_nil)))) (qva_nil)))) (qg_name (i := 2) nd rfl) (qss_one (qs_if (qt_cmp q_lt (qv_of_qe (qe_call G_compare (hr.mono (by decide)) (qa_cons (qe_name 1) (qa_cons (qe_fz (qv_ix (qv_ix (qv_name 0) (qv_name 2)) (qv_of_qe (qe_int)))) (qa_nil))))) (qv_of_qe (qe_int)) (nomark _)) (qss_one (qs_ret (qe_call G_line_slope (hr.mono (by decide)) (qa_cons (qe_fz (qv_ix (qv_name 0) (qv_of_qe (qe_bin q_sub (qv_name 2) (qv_of_qe (qe_int)))))) (qa_cons (qe_fz (qv_ix (qv_name 0) (qv_name 2))) (qa_nil)))))) (qss_nil))))
    (qss_one (qs_ret (qe_cst rfl T.k_ONE))))
abbrev s_first_wrong : Stmt := top 21
theorem sc_first_wrong : FnScope ["knots", "before", "k", "slope"] ["knots"] (defScope s_first_wrong) := ⟨rfl, rfl, rfl, by decide +kernel, rfl, by decide +kernel, by decide +kernel⟩
theorem ok_first_wrong {f : Addr} {fd : FuncData} (GR : Grd base P) (T : Txt K mg) (F : Fun K "first_wrong" "first_wrong" s_first_wrong f fd) (hm : mg "first_wrong" = some (.ref f)) (hb : Binds K fd ["knots"] []) (G_compare : DefOk P w K mg base 41 "compare" 2 f_compare) (G_line_slope : DefOk P w K mg base 44 "line_slope" 2 f_line_slope) : DefOk P w K mg base 45 "first_wrong" 1 f_first_wrong := by
  refine def_ok F sc_first_wrong hm hb (fun cdv A outer s H E hr => ?_)
  have nd := (sc_first_wrong).nd
  have hu64 := hr.units
  have sr := sr_def (outer := outer) GR hr (by first | decide | omega) rfl rfl
  exact qss_cons (qs_set (i := 1) nd rfl (qe_cst rfl T.k_ZERO))
    (qss_cons (qs_for PassesOwn.never rfl (qi_range1 rfl T.b_range (qva_cons (qv_of_qe (qe_callB c_len rfl T.b_len (by decide +kernel) (qva_cons (qv_name 0) (qva_nil)))) (qva_nil))) (qg_name (i := 2) nd rfl) (qss_cons (qs_if (qt_cmp q_gt (qv_name 2) (qv_of_qe (qe_int)) (nomark _)) (qss_cons (qs_if (qt_cmp q_le (qv_of_qe (qe_call G_compare (hr.mono (by decide)) (qa_cons (qe_fz (qv_ix (qv_ix (qv_name 0) (qv_name 2)) (qv_of_qe (qe_int)))) (qa_cons (qe_fz (qv_ix (qv_ix (qv_name 0) (qv_of_qe (qe_bin q_sub (qv_name 2) (qv_of_qe (qe_int))))) (qv_of_qe (qe_int)))) (qa_nil))))) (qv_of_qe (qe_int)) (nomark _)) (qss_one (qs_ret (qe_name 2))) (qss_nil))
    (qss_cons (qs_set (i := 3) nd rfl (qe_call G_line_slope (hr.mono (by decide)) (qa_cons (qe_fz (qv_ix (qv_name 0) (qv_of_qe (qe_bin q_sub (qv_name 2) (qv_of_qe (qe_int)))))) (qa_cons (qe_fz (qv_ix (qv_name 0) (qv_name 2))) (qa_nil)))))
    (qss_cons (qs_if (qt_w (qw_or (qt_cmp q_ge (qv_of_qe (qe_call G_compare (hr.mono (by decide)) (qa_cons (qe_name 3) (qa_cons (qe_cst rfl T.k_ONE) (qa_nil))))) (qv_of_qe (qe_int)) (nomark _)) (qw_or1 (qt_cmp q_le (qv_of_qe (qe_call G_compare (hr.mono (by decide)) (qa_cons (qe_name 3) (qa_cons (qe_name 1) (qa_nil))))) (qv_of_qe (qe_int)) (nomark _))))) (qss_one (qs_ret (qe_name 2))) (qss_nil))
    (qss_one (qs_set (i := 1) nd rfl (qe_name 3)))))) (qss_nil))
    (qss_one (qs_if (qt_w (qw_and (qt_cmp (q_eq hu64) (qv_name 2) (qv_of_qe (qe_bin q_sub (qv_of_qe (qe_callB c_len rfl T.b_len (by decide +kernel) (qva_cons (qv_name 0) (qva_nil)))) (qv_of_qe (qe_int)))) (nomark _)) (qw_and1 (qt_cmp (q_ne hu64) (qv_of_qe (qe_call G_compare (hr.mono (by decide)) (qa_cons (qe_fz (qv_ix (qv_ix (qv_name 0) (qv_name 2)) (qv_of_qe (qe_int)))) (qa_cons (qe_fz (qv_ix (qv_ix (qv_name 0) (qv_name 2)) (qv_of_qe (qe_int)))) (qa_nil))))) (qv_of_qe (qe_int)) (nomark _))))) (qss_one (qs_ret (qe_name 2))) (qss_nil)))))
    (qss_one (qs_ret (qe_non))))
abbrev s_straightened : Stmt := top 22
theorem sc_straightened : FnScope ["points", "knots", "before", "k", "after"] ["points"] (defScope s_straightened) := ⟨rfl, rfl, rfl, by decide +kernel, rfl, by decide +kernel, by decide +kernel⟩
theorem ok_straightened {f : Addr} {fd : FuncData} (GR : Grd base P) (T : Txt K mg) (F : Fun K "straightened" "straightened" s_straightened f fd) (hm : mg "straightened" = some (.ref f)) (hb : Binds K fd ["points"] []) (G_line_slope : DefOk P w K mg base 44 "line_slope" 2 f_line_slope) (G_compare : DefOk P w K mg base 41 "compare" 2 f_compare) : DefOk P w K mg base 45 "straightened" 1 f_straightened := by
  refine def_ok F sc_straightened hm hb (fun cdv A outer s H E hr => ?_)
  have nd := (sc_straightened).nd
  have hu64 := hr.units
  have sr := sr_def (outer := outer) GR hr (by first | decide | omega) rfl rfl
  exact qss_cons (qs_set (i := 1) nd rfl (qe_lst (qa_nil)))
    (qss_cons (qs_set (i := 2) nd rfl (qe_cst rfl T.k_ZERO))
    (qss_cons (qs_for PassesOwn.never rfl (qi_range1 rfl T.b_range (qva_cons (qv_of_qe (qe_callB c_len rfl T.b_len (by decide +kernel) (qva_cons (qv_name 0) (qva_nil)))) (qva_nil))) (qg_name (i := 3) nd rfl) (qss_cons (qs_set (i := 4) nd rfl (qe_cst rfl T.k_ONE))
    (qss_cons (qs_if (qt_cmp q_lt (qv_of_qe (qe_bin q_add (qv_name 3) (qv_of_qe (qe_int)))) (qv_of_qe (qe_callB c_len rfl T.b_len (by decide +kernel) (qva_cons (qv_name 0) (qva_nil)))) (nomark _)) (qss_one (qs_set (i := 4) nd rfl (qe_call G_line_slope (hr.mono (by decide)) (qa_cons (qe_fz (qv_ix (qv_name 0) (qv_name 3))) (qa_cons (qe_fz (qv_ix (qv_name 0) (qv_of_qe (qe_bin q_add (qv_name 3) (qv_of_qe (qe_int)))))) (qa_nil)))))) (qss_nil))
    (qss_cons (qs_if (qt_cmp (q_ne hu64) (qv_of_qe (qe_call G_compare (hr.mono (by decide)) (qa_cons (qe_name 2) (qa_cons (qe_name 4) (qa_nil))))) (qv_of_qe (qe_int)) (nomark _)) (qss_one (qs_append (i := 1) rfl (qe_fz (qv_ix (qv_name 0) (qv_name 3))))) (qss_nil))
    (qss_one (qs_set (i := 2) nd rfl (qe_name 4)))))))
    (qss_one (qs_ret (qe_callTy c_tuple rfl T.b_tuple (by decide +kernel) (qva_cons (qv_name 1) (qva_nil)))))))
abbrev s_merged_amounts : Stmt := top 23
theorem sc_merged_amounts : FnScope ["first", "second", "amounts", "i", "j", "order"] ["first", "second"] (defScope s_merged_amounts) := ⟨rfl, rfl, rfl, by decide +kernel, rfl, by decide +kernel, by decide +kernel⟩
theorem ok_merged_amounts {f : Addr} {fd : FuncData} (GR : Grd base P) (T : Txt K mg) (F : Fun K "merged_amounts" "merged_amounts" s_merged_amounts f fd) (hm : mg "merged_amounts" = some (.ref f)) (hb : Binds K fd ["first", "second"] []) (G_compare : DefOk P w K mg base 41 "compare" 2 f_compare) : DefOk P w K mg base 42 "merged_amounts" 2 f_merged_amounts := by
  refine def_ok F sc_merged_amounts hm hb (fun cdv A outer s H E hr => ?_)
  have nd := (sc_merged_amounts).nd
  have hu64 := hr.units
  have sr := sr_def (outer := outer) GR hr (by first | decide | omega) rfl rfl
  exact qss_cons (qs_set (i := 2) nd rfl (qe_lst (qa_nil)))
    (qss_cons (qs_set (i := 3) nd rfl (qe_int))
    (qss_cons (qs_set (i := 4) nd rfl (qe_int))
    (qss_cons (qs_while PassesOwn.never (qt_w (qw_or (qt_cmp q_lt (qv_name 3) (qv_of_qe (qe_callB c_len rfl T.b_len (by decide +kernel) (qva_cons (qv_name 0) (qva_nil)))) (nomark _)) (qw_or1 (qt_cmp q_lt (qv_name 4) (qv_of_qe (qe_callB c_len rfl T.b_len (by decide +kernel) (qva_cons (qv_name 1) (qva_nil)))) (nomark _))))) (qss_cons (qs_set (i := 5) nd rfl (qe_int))
    (qss_cons (qs_if (qt_cmp q_ge (qv_name 4) (qv_of_qe (qe_callB c_len rfl T.b_len (by decide +kernel) (qva_cons (qv_name 1) (qva_nil)))) (nomark _)) (qss_one (qs_set (i := 5) nd rfl (qe_neg (qv_of_qe (qe_int))))) (qss_one (qs_if (qt_cmp q_lt (qv_name 3) (qv_of_qe (qe_callB c_len rfl T.b_len (by decide +kernel) (qva_cons (qv_name 0) (qva_nil)))) (nomark _)) (qss_one (qs_set (i := 5) nd rfl (qe_call G_compare (hr.mono (by decide)) (qa_cons (qe_fz (qv_ix (qv_ix (qv_name 0) (qv_name 3)) (qv_of_qe (qe_int)))) (qa_cons (qe_fz (qv_ix (qv_ix (qv_name 1) (qv_name 4)) (qv_of_qe (qe_int)))) (qa_nil)))))) (qss_nil))))
    (qss_cons (qs_if (qt_cmp q_le (qv_name 5) (qv_of_qe (qe_int)) (nomark _)) (qss_cons (qs_append (i := 2) rfl (qe_fz (qv_ix (qv_ix (qv_name 0) (qv_name 3)) (qv_of_qe (qe_int)))))
    (qss_one (qs_aug (i := 3) ip_add nd rfl (qe_int)))) (qss_one (qs_append (i := 2) rfl (qe_fz (qv_ix (qv_ix (qv_name 1) (qv_name 4)) (qv_of_qe (qe_int)))))))
    (qss_one (qs_if (qt_cmp q_ge (qv_name 5) (qv_of_qe (qe_int)) (nomark _)) (qss_one (qs_aug (i := 4) ip_add nd rfl (qe_int))) (qss_nil)))))))
    (qss_one (qs_ret (qe_name 2))))))
abbrev s_product_knots : Stmt := top 24
theorem sc_product_knots : FnScope ["first", "second", "amounts", "value", "points", "k", "slope"] ["first", "second"] (defScope s_product_knots) := ⟨rfl, rfl, rfl, by decide +kernel, rfl, by decide +kernel, by decide +kernel⟩
theorem ok_product_knots {f : Addr} {fd : FuncData} (GR : Grd base P) (T : Txt K mg) (F : Fun K "product_knots" "product_knots" s_product_knots f fd) (hm : mg "product_knots" = some (.ref f)) (hb : Binds K fd ["first", "second"] []) (G_merged_amounts : DefOk P w K mg base 42 "merged_amounts" 2 f_merged_amounts) (G_multiply : DefOk P w K mg base 43 "multiply" 2 f_multiply) (G_slope_at : DefOk P w K mg base 45 "slope_at" 2 f_slope_at) (G_subtract : DefOk P w K mg base 43 "subtract" 2 f_subtract) (G_straightened : DefOk P w K mg base 45 "straightened" 1 f_straightened) : DefOk P w K mg base 46 "product_knots" 2 f_product_knots := by
  refine def_ok F sc_product_knots hm hb (fun cdv A outer s H E hr => ?_)
  have nd := (sc_product_knots).nd
  have hu64 := hr.units
  have sr := sr_def (outer := outer) GR hr (by first | decide | omega) rfl rfl
  exact qss_cons (qs_set (i := 2) nd rfl (qe_call G_merged_amounts (hr.mono (by decide)) (qa_cons (qe_name 0) (qa_cons (qe_name 1) (qa_nil)))))
    (qss_cons (qs_set (i := 3) nd rfl (qe_fz (qv_ix (qv_name 2) (qv_of_qe (qe_neg (qv_of_qe (qe_int)))))))
    (qss_cons (qs_set (i := 4) nd rfl (qe_lst (qa_cons (qe_tup (qa_cons (qe_fz (qv_ix (qv_name 2) (qv_of_qe (qe_neg (qv_of_qe (qe_int)))))) (qa_cons (qe_name 3) (qa_nil)))) (qa_nil))))
    (qss_cons (qs_for PassesOwn.never rfl (qi_range3 rfl T.b_range (qva_cons (qv_of_qe (qe_bin q_sub (qv_of_qe (qe_callB c_len rfl T.b_len (by decide +kernel) (qva_cons (qv_name 2) (qva_nil)))) (qv_of_qe (qe_int)))) (qva_cons (qv_of_qe (qe_neg (qv_of_qe (qe_int)))) (qva_cons (qv_of_qe (qe_neg (qv_of_qe (qe_int)))) (qva_nil))))) (qg_name (i := 5) nd rfl) (qss_cons (qs_set (i := 6) nd rfl (qe_call G_multiply (hr.mono (by decide)) (qa_cons (qe_call G_slope_at (hr.mono (by decide)) (qa_cons (qe_name 0) (qa_cons (qe_fz (qv_ix (qv_name 2) (qv_name 5))) (qa_nil)))) (qa_cons (qe_call G_slope_at (hr.mono (by decide)) (qa_cons (qe_name 1) (qa_cons (qe_fz (qv_ix (qv_name 2) (qv_name 5))) (qa_nil)))) (qa_nil)))))
    (qss_cons (qs_set (i := 3) nd rfl (qe_call G_subtract (hr.mono (by decide)) (qa_cons (qe_name 3) (qa_cons (qe_call G_multiply (hr.mono (by decide)) (qa_cons (qe_name 6) (qa_cons (qe_call G_subtract (hr.mono (by decide)) (qa_cons (qe_fz (qv_ix (qv_name 2) (qv_of_qe (qe_bin q_add (qv_name 5) (qv_of_qe (qe_int)))))) (qa_cons (qe_fz (qv_ix (qv_name 2) (qv_name 5))) (qa_nil)))) (qa_nil)))) (qa_nil)))))
    (qss_one (qs_append (i := 4) rfl (qe_tup (qa_cons (qe_fz (qv_ix (qv_name 2) (qv_name 5))) (qa_cons (qe_name 3) (qa_nil)))))))))
    (qss_cons (qs_reverse (i := 4) rfl)
    (qss_one (qs_ret (qe_call G_straightened (hr.mono (by decide)) (qa_cons (qe_name 4) (qa_nil)))))))))
abbrev s_crossing : Stmt := top 25
theorem sc_crossing : FnScope ["first", "second", "left", "right", "gap_left", "gap_right", "share"] ["first", "second", "left", "right"] (defScope s_crossing) := ⟨rfl, rfl, rfl, by decide +kernel, rfl, by decide +kernel, by decide +kernel⟩
theorem ok_crossing {f : Addr} {fd : FuncData} (GR : Grd base P) (T : Txt K mg) (F : Fun K "crossing" "crossing" s_crossing f fd) (hm : mg "crossing" = some (.ref f)) (hb : Binds K fd ["first", "second", "left", "right"] []) (G_subtract : DefOk P w K mg base 43 "subtract" 2 f_subtract) (G_value_at : DefOk P w K mg base 45 "value_at" 2 f_value_at) (G_compare : DefOk P w K mg base 41 "compare" 2 f_compare) (G_divide : DefOk P w K mg base 43 "divide" 2 f_divide) (G_add : DefOk P w K mg base 43 "add" 2 f_add) (G_multiply : DefOk P w K mg base 43 "multiply" 2 f_multiply) : DefOk P w K mg base 46 "crossing" 4 f_crossing := by
  refine def_ok F sc_crossing hm hb (fun cdv A outer s H E hr => ?_)
  have nd := (sc_crossing).nd
  have hu64 := hr.units
  have sr := sr_def (outer := outer) GR hr (by first | decide | omega) rfl rfl
  exact qss_cons (qs_set (i := 4) nd rfl (qe_call G_subtract (hr.mono (by decide)) (qa_cons (qe_call G_value_at (hr.mono (by decide)) (qa_cons (qe_name 0) (qa_cons (qe_name 2) (qa_nil)))) (qa_cons (qe_call G_value_at (hr.mono (by decide)) (qa_cons (qe_name 1) (qa_cons (qe_name 2) (qa_nil)))) (qa_nil)))))
    (qss_cons (qs_set (i := 5) nd rfl (qe_call G_subtract (hr.mono (by decide)) (qa_cons (qe_call G_value_at (hr.mono (by decide)) (qa_cons (qe_name 0) (qa_cons (qe_name 3) (qa_nil)))) (qa_cons (qe_call G_value_at (hr.mono (by decide)) (qa_cons (qe_name 1) (qa_cons (qe_name 3) (qa_nil)))) (qa_nil)))))
    (qss_cons (qs_if (qt_cmp q_ge (qv_of_qe (qe_bin q_mul (qv_of_qe (qe_call G_compare (hr.mono (by decide)) (qa_cons (qe_name 4) (qa_cons (qe_cst rfl T.k_ZERO) (qa_nil))))) (qv_of_qe (qe_call G_compare (hr.mono (by decide)) (qa_cons (qe_name 5) (qa_cons (qe_cst rfl T.k_ZERO) (qa_nil))))))) (qv_of_qe (qe_int)) (nomark _)) (qss_one (qs_ret (qe_non))) (qss_nil))
    (qss_cons (qs_set (i := 6) nd rfl (qe_call G_divide (hr.mono (by decide)) (qa_cons (qe_name 4) (qa_cons (qe_call G_subtract (hr.mono (by decide)) (qa_cons (qe_name 4) (qa_cons (qe_name 5) (qa_nil)))) (qa_nil)))))
    (qss_one (qs_ret (qe_call G_add (hr.mono (by decide)) (qa_cons (qe_name 2) (qa_cons (qe_call G_multiply (hr.mono (by decide)) (qa_cons (qe_name 6) (qa_cons (qe_call G_subtract (hr.mono (by decide)) (qa_cons (qe_name 3) (qa_cons (qe_name 2) (qa_nil)))) (qa_nil)))) (qa_nil)))))))))
abbrev s_join_knots : Stmt := top 26
theorem sc_join_knots : FnScope ["first", "second", "amounts", "points", "k", "middle", "value", "other"] ["first", "second"] (defScope s_join_knots) := ⟨rfl, rfl, rfl, by decide +kernel, rfl, by decide +kernel, by decide +kernel⟩
theorem ok_join_knots {f : Addr} {fd : FuncData} (GR : Grd base P) (T : Txt K mg) (F : Fun K "join_knots" "join_knots" s_join_knots f fd) (hm : mg "join_knots" = some (.ref f)) (hb : Binds K fd ["first", "second"] []) (G_merged_amounts : DefOk P w K mg base 42 "merged_amounts" 2 f_merged_amounts) (G_crossing : DefOk P w K mg base 46 "crossing" 4 f_crossing) (G_value_at : DefOk P w K mg base 45 "value_at" 2 f_value_at) (G_compare : DefOk P w K mg base 41 "compare" 2 f_compare) (G_straightened : DefOk P w K mg base 45 "straightened" 1 f_straightened) : DefOk P w K mg base 47 "join_knots" 2 f_join_knots := by
  refine def_ok F sc_join_knots hm hb (fun cdv A outer s H E hr => ?_)
  have nd := (sc_join_knots).nd
  have hu64 := hr.units
  have sr := sr_def (outer := outer) GR hr (by first | decide | omega) rfl rfl
  exact qss_cons (qs_set (i := 2) nd rfl (qe_call G_merged_amounts (hr.mono (by decide)) (qa_cons (qe_name 0) (qa_cons (qe_name 1) (qa_nil)))))
    (qss_cons (qs_set (i := 3) nd rfl (qe_lst (qa_nil)))
    (qss_cons (qs_for PassesOwn.never rfl (qi_range1 rfl T.b_range (qva_cons (qv_of_qe (qe_callB c_len rfl T.b_len (by decide +kernel) (qva_cons (qv_name 2) (qva_nil)))) (qva_nil))) (qg_name (i := 4) nd rfl) (qss_cons (qs_if (qt_cmp q_gt (qv_name 4) (qv_of_qe (qe_int)) (nomark _)) (qss_cons (qs_set (i := 5) nd rfl (qe_call G_crossing (hr.mono (by decide)) (qa_cons (qe_name 0) (qa_cons (qe_name 1) (qa_cons (qe_fz (qv_ix (qv_name 2) (qv_of_qe (qe_bin q_sub (qv_name 4) (qv_of_qe (qe_int)))))) (qa_cons (qe_fz (qv_ix (qv_name 2) (qv_name 4))) (qa_nil)))))))
    (qss_one (qs_if (qt_cmp q_isnot (qv_name 5) (qv_of_qe (qe_non)) (nomark _)) (qss_one (qs_append (i := 3) rfl (qe_tup (qa_cons (qe_name 5) (qa_cons (qe_call G_value_at (hr.mono (by decide)) (qa_cons (qe_name 0) (qa_cons (qe_name 5) (qa_nil)))) (qa_nil)))))) (qss_nil)))) (qss_nil))
    (qss_cons (qs_set (i := 6) nd rfl (qe_call G_value_at (hr.mono (by decide)) (qa_cons (qe_name 0) (qa_cons (qe_fz (qv_ix (qv_name 2) (qv_name 4))) (qa_nil)))))
    (qss_cons (qs_set (i := 7) nd rfl (qe_call G_value_at (hr.mono (by decide)) (qa_cons (qe_name 1) (qa_cons (qe_fz (qv_ix (qv_name 2) (qv_name 4))) (qa_nil)))))
    (qss_cons (qs_if (qt_cmp q_lt (qv_of_qe (qe_call G_compare (hr.mono (by decide)) (qa_cons (qe_name 6) (qa_cons (qe_name 7) (qa_nil))))) (qv_of_qe (qe_int)) (nomark _)) (qss_one (qs_set (i := 6) nd rfl (qe_name 7))) (qss_nil))
    (qss_one (qs_append (i := 3) rfl (qe_tup (qa_cons (qe_fz (qv_ix (qv_name 2) (qv_name 4))) (qa_cons (qe_name 6) (qa_nil)))))))))))
    (qss_one (qs_ret (qe_call G_straightened (hr.mono (by decide)) (qa_cons (qe_name 3) (qa_nil)))))))
abbrev s_meet_knots : Stmt := top 27
theorem sc_meet_knots : FnScope ["first", "second", "hull", "amount", "value", "other", "point"] ["first", "second"] (defScope s_meet_knots) := ⟨rfl, rfl, rfl, by decide +kernel, rfl, by decide +kernel, by decide +kernel⟩
theorem ok_meet_knots {f : Addr} {fd : FuncData} (GR : Grd base P) (T : Txt K mg) (F : Fun K "meet_knots" "meet_knots" s_meet_knots f fd) (hm : mg "meet_knots" = some (.ref f)) (hb : Binds K fd ["first", "second"] []) (G_merged_amounts : DefOk P w K mg base 42 "merged_amounts" 2 f_merged_amounts) (G_value_at : DefOk P w K mg base 45 "value_at" 2 f_value_at) (G_compare : DefOk P w K mg base 41 "compare" 2 f_compare) (G_line_slope : DefOk P w K mg base 44 "line_slope" 2 f_line_slope) (G_straightened : DefOk P w K mg base 45 "straightened" 1 f_straightened) : DefOk P w K mg base 46 "meet_knots" 2 f_meet_knots := by
  refine def_ok F sc_meet_knots hm hb (fun cdv A outer s H E hr => ?_)
  have nd := (sc_meet_knots).nd
  have hu64 := hr.units
  have sr := sr_def (outer := outer) GR hr (by first | decide | omega) rfl rfl
  exact qss_cons (qs_set (i := 2) nd rfl (qe_lst (qa_nil)))
    (qss_cons (qs_for PassesOwn.never rfl (qi_frz (qe_call G_merged_amounts (hr.mono (by decide)) (qa_cons (qe_name 0) (qa_cons (qe_name 1) (qa_nil))))) (qg_name (i := 3) nd rfl) (qss_cons (qs_set (i := 4) nd rfl (qe_call G_value_at (hr.mono (by decide)) (qa_cons (qe_name 0) (qa_cons (qe_name 3) (qa_nil)))))
    (qss_cons (qs_set (i := 5) nd rfl (qe_call G_value_at (hr.mono (by decide)) (qa_cons (qe_name 1) (qa_cons (qe_name 3) (qa_nil)))))
    (qss_cons (qs_if (qt_cmp q_lt (qv_of_qe (qe_call G_compare (hr.mono (by decide)) (qa_cons (qe_name 5) (qa_cons (qe_name 4) (qa_nil))))) (qv_of_qe (qe_int)) (nomark _)) (qss_one (qs_set (i := 4) nd rfl (qe_name 5))) (qss_nil))
    (qss_cons (qs_set (i := 6) nd rfl (qe_tup (qa_cons (qe_name 3) (qa_cons (qe_name 4) (qa_nil)))))
    (qss_cons (qs_while PassesOwn.never (qt_w (qw_and (qt_cmp q_gt (qv_of_qe (qe_callB c_len rfl T.b_len (by decide +kernel) (qva_cons (qv_name 2) (qva_nil)))) (qv_of_qe (qe_int)) (nomark _)) (qw_and1 (qt_cmp q_ge (qv_of_qe (qe_call G_compare (hr.mono (by decide)) (qa_cons (qe_call G_line_slope (hr.mono (by decide)) (qa_cons (qe_fz (qv_ix (qv_name 2) (qv_of_qe (qe_neg (qv_of_qe (qe_int)))))) (qa_cons (qe_fz (qv_ix (qv_name 2) (qv_of_qe (qe_neg (qv_of_qe (qe_int)))))) (qa_nil)))) (qa_cons (qe_call G_line_slope (hr.mono (by decide)) (qa_cons (qe_fz (qv_ix (qv_name 2) (qv_of_qe (qe_neg (qv_of_qe (qe_int)))))) (qa_cons (qe_name 6) (qa_nil)))) (qa_nil))))) (qv_of_qe (qe_int)) (nomark _))))) (qss_one (qs_pop (i := 2) rfl)))
    (qss_one (qs_append (i := 2) rfl (qe_name 6)))))))))
    (qss_one (qs_ret (qe_call G_straightened (hr.mono (by decide)) (qa_cons (qe_name 2) (qa_nil))))))
abbrev s__law_cell : Stmt := top 31
theorem sc__law_cell : FnScope ["_law_script", "_law_k"] ["_law_script", "_law_k"] (defScope s__law_cell) := ⟨rfl, rfl, rfl, by decide +kernel, rfl, by decide +kernel, by decide +kernel⟩
theorem ok__law_cell {f : Addr} {fd : FuncData} (GR : Grd base P) (T : Txt K mg) (F : Fun K "_law_cell" "_law_cell" s__law_cell f fd) (hm : mg "_law_cell" = some (.ref f)) (hb : Binds K fd ["_law_script", "_law_k"] []) : DefOk P w K mg base 41 "_law_cell" 2 f__law_cell := by
  refine def_ok F sc__law_cell hm hb (fun cdv A outer s H E hr => ?_)
  have nd := (sc__law_cell).nd
  have hu64 := hr.units
  have sr := sr_def (outer := outer) GR hr (by first | decide | omega) rfl rfl
  exact qss_cons (qs_if (qt_cmp q_lt (qv_name 1) (qv_of_qe (qe_callB c_len rfl T.b_len (by decide +kernel) (qva_cons (qv_name 0) (qva_nil)))) (nomark _)) (qss_one (qs_ret (qe_fz (qv_ix (qv_name 0) (qv_name 1))))) (qss_nil))
    (qss_one (qs_ret (qe_bin q_add (qv_of_qe (qe_bin q_mul (qv_of_qe (qe_int)) (qv_name 1))) (qv_of_qe (qe_int)))))
abbrev s__law_draws : Stmt := top 32
theorem sc__law_draws : FnScope ["_law_cell_here", "_law_count", "_law_rest", "_law_digits", "_law_seed", "_law_draws_here", "_law_k", "_law_mixed"] ["_law_cell_here", "_law_count"] (defScope s__law_draws) := ⟨rfl, rfl, rfl, by decide +kernel, rfl, by decide +kernel, by decide +kernel⟩
theorem ok__law_draws {f : Addr} {fd : FuncData} (GR : Grd base P) (T : Txt K mg) (F : Fun K "_law_draws" "_law_draws" s__law_draws f fd) (hm : mg "_law_draws" = some (.ref f)) (hb : Binds K fd ["_law_cell_here", "_law_count"] []) : DefOk P w K mg base 41 "_law_draws" 2 f__law_draws := by
  refine def_ok F sc__law_draws hm hb (fun cdv A outer s H E hr => ?_)
  have nd := (sc__law_draws).nd
  have hu64 := hr.units
  have sr := sr_def (outer := outer) GR hr (by first | decide | omega) rfl rfl
  exact qss_cons (qs_set (i := 2) nd rfl (qe_callB c_abs rfl T.b_abs (by decide +kernel) (qva_cons (qv_of_qe (qe_callTy c_int rfl T.b_int (by decide +kernel) (qva_cons (qv_name 0) (qva_nil)))) (qva_nil))))
    (qss_cons (qs_set (i := 3) nd rfl (qe_cmp q_ge (qv_name 2) (qv_of_qe (qe_bin q_pow (qv_of_qe (qe_int)) (qv_of_qe (qe_int)))) (nomark _)))
    (qss_cons (qs_set (i := 4) nd rfl (qe_name 2))
    (qss_cons (qs_set (i := 5) nd rfl (qe_lst (qa_nil)))
    (qss_cons (qs_for PassesOwn.never rfl (qi_range1 rfl T.b_range (qva_cons (qv_name 1) (qva_nil))) (qg_name (i := 6) nd rfl) (qss_one (qs_if (qt_w (qw_and (qt_val (qv_name 3)) (qw_and1 (qt_cmp q_gt (qv_name 2) (qv_of_qe (qe_int)) (nomark _))))) (qss_cons (qs_append (i := 5) rfl (qe_bin q_mod (qv_of_qe (qe_callTy c_int rfl T.b_int (by decide +kernel) (qva_cons (qv_name 2) (qva_nil)))) (qv_of_qe (qe_int))))
    (qss_one (qs_set (i := 2) nd rfl (qe_bin (q_fdiv sr) (qv_name 2) (qv_of_qe (qe_int)))))) (qss_cons (qs_set (i := 7) nd rfl (qe_bin q_mod (qv_of_qe (qe_callTy c_int rfl T.b_int (by decide +kernel) (qva_cons (qv_of_qe (qe_bin q_add (qv_of_qe (qe_bin q_add (qv_of_qe (qe_bin q_mul (qv_name 4) (qv_of_qe (qe_int)))) (qv_of_qe (qe_bin q_mul (qv_of_qe (qe_bin q_add (qv_name 6) (qv_of_qe (qe_int)))) (qv_of_qe (qe_int)))))) (qv_of_qe (qe_int)))) (qva_nil)))) (qv_of_qe (qe_int))))
    (qss_cons (qs_set (i := 7) nd rfl (qe_bin q_mod (qv_of_qe (qe_callTy c_int rfl T.b_int (by decide +kernel) (qva_cons (qv_of_qe (qe_bin q_add (qv_of_qe (qe_bin q_mul (qv_name 7) (qv_name 7))) (qv_of_qe (qe_bin q_mul (qv_of_qe (qe_int)) (qv_of_qe (qe_bin q_add (qv_name 6) (qv_of_qe (qe_int)))))))) (qva_nil)))) (qv_of_qe (qe_int))))
    (qss_one (qs_append (i := 5) rfl (qe_bin q_mod (qv_of_qe (qe_callTy c_int rfl T.b_int (by decide +kernel) (qva_cons (qv_of_qe (qe_bin (q_fdiv sr) (qv_name 7) (qv_of_qe (qe_int)))) (qva_nil)))) (qv_of_qe (qe_int))))))))))
    (qss_one (qs_ret (qe_name 5)))))))
abbrev s__law_head : Stmt := top 33
theorem sc__law_head : FnScope ["_law_script"] ["_law_script"] (defScope s__law_head) := ⟨rfl, rfl, rfl, by decide +kernel, rfl, by decide +kernel, by decide +kernel⟩
theorem ok__law_head {f : Addr} {fd : FuncData} (GR : Grd base P) (T : Txt K mg) (F : Fun K "_law_head" "_law_head" s__law_head f fd) (hm : mg "_law_head" = some (.ref f)) (hb : Binds K fd ["_law_script"] []) (G__law_draws : DefOk P w K mg base 41 "_law_draws" 2 f__law_draws) (G__law_cell : DefOk P w K mg base 41 "_law_cell" 2 f__law_cell) : DefOk P w K mg base 42 "_law_head" 1 f__law_head := by
  refine def_ok F sc__law_head hm hb (fun cdv A outer s H E hr => ?_)
  have nd := (sc__law_head).nd
  have hu64 := hr.units
  have sr := sr_def (outer := outer) GR hr (by first | decide | omega) rfl rfl
  exact qss_one (qs_ret (qe_call G__law_draws (hr.mono (by decide)) (qa_cons (qe_call G__law_cell (hr.mono (by decide)) (qa_cons (qe_name 0) (qa_cons (qe_int) (qa_nil)))) (qa_cons (qe_int) (qa_nil)))))
abbrev s__law_low : Stmt := top 34
theorem sc__law_low : FnScope ["_law_n", "_law_d", "_law_a", "_law_b", "_law_c"] ["_law_n", "_law_d"] (defScope s__law_low) := ⟨rfl, rfl, rfl, by decide +kernel, rfl, by decide +kernel, by decide +kernel⟩
theorem ok__law_low {f : Addr} {fd : FuncData} (GR : Grd base P) (T : Txt K mg) (F : Fun K "_law_low" "_law_low" s__law_low f fd) (hm : mg "_law_low" = some (.ref f)) (hb : Binds K fd ["_law_n", "_law_d"] []) : DefOk P w K mg base 41 "_law_low" 2 f__law_low := by
  refine def_ok F sc__law_low hm hb (fun cdv A outer s H E hr => ?_)
  have nd := (sc__law_low).nd
  have hu64 := hr.units
  have sr := sr_def (outer := outer) GR hr (by first | decide | omega) rfl rfl
  exact qss_cons (qs_set (i := 2) nd rfl (qe_callB c_abs rfl T.b_abs (by decide +kernel) (qva_cons (qv_name 0) (qva_nil))))
    (qss_cons (qs_set (i := 3) nd rfl (qe_callB c_abs rfl T.b_abs (by decide +kernel) (qva_cons (qv_name 1) (qva_nil))))
    (qss_cons (qs_while PassesOwn.never (qt_cmp q_gt (qv_name 3) (qv_of_qe (qe_int)) (nomark _)) (qss_cons (qs_set (i := 4) nd rfl (qe_bin q_mod (qv_of_qe (qe_callTy c_int rfl T.b_int (by decide +kernel) (qva_cons (qv_name 2) (qva_nil)))) (qv_name 3)))
    (qss_cons (qs_set (i := 2) nd rfl (qe_name 3))
    (qss_one (qs_set (i := 3) nd rfl (qe_name 4))))))
    (qss_cons (qs_if (qt_cmp q_lt (qv_name 1) (qv_of_qe (qe_int)) (nomark _)) (qss_cons (qs_set (i := 0) nd rfl (qe_bin q_sub (qv_of_qe (qe_int)) (qv_name 0)))
    (qss_one (qs_set (i := 1) nd rfl (qe_bin q_sub (qv_of_qe (qe_int)) (qv_name 1))))) (qss_nil))
    (qss_one (qs_ret (qe_tup (qa_cons (qe_bin (q_fdiv sr) (qv_name 0) (qv_name 2)) (qa_cons (qe_bin (q_fdiv sr) (qv_name 1) (qv_name 2)) (qa_nil)))))))))
abbrev s__law_is_integer : Stmt := top 35
theorem sc__law_is_integer : FnScope ["_law_value_here"] ["_law_value_here"] (defScope s__law_is_integer) := ⟨rfl, rfl, rfl, by decide +kernel, rfl, by decide +kernel, by decide +kernel⟩
theorem ok__law_is_integer {f : Addr} {fd : FuncData} (GR : Grd base P) (T : Txt K mg) (F : Fun K "_law_is_integer" "_law_is_integer" s__law_is_integer f fd) (hm : mg "_law_is_integer" = some (.ref f)) (hb : Binds K fd ["_law_value_here"] []) : DefOk P w K mg base 41 "_law_is_integer" 1 f__law_is_integer := by
  refine def_ok F sc__law_is_integer hm hb (fun cdv A outer s H E hr => ?_)
  have nd := (sc__law_is_integer).nd
  have hu64 := hr.units
  have sr := sr_def (outer := outer) GR hr (by first | decide | omega) rfl rfl
  exact qss_one (qs_ret (qe_and (qe_isi .int rfl T.b_isinstance (qv_name 0) rfl T.b_int (by decide +kernel)) (qe_one (qe_not (qe_isi .bool rfl T.b_isinstance (qv_name 0) rfl T.b_bool (by decide +kernel))))))
abbrev s__law_is_ratio : Stmt := top 36
theorem sc__law_is_ratio : FnScope ["_law_value_here"] ["_law_value_here"] (defScope s__law_is_ratio) := ⟨rfl, rfl, rfl, by decide +kernel, rfl, by decide +kernel, by decide +kernel⟩
theorem ok__law_is_ratio {f : Addr} {fd : FuncData} (GR : Grd base P) (T : Txt K mg) (F : Fun K "_law_is_ratio" "_law_is_ratio" s__law_is_ratio f fd) (hm : mg "_law_is_ratio" = some (.ref f)) (hb : Binds K fd ["_law_value_here"] []) (G__law_is_integer : DefOk P w K mg base 41 "_law_is_integer" 1 f__law_is_integer) (G__law_low : DefOk P w K mg base 41 "_law_low" 2 f__law_low) : DefOk P w K mg base 42 "_law_is_ratio" 1 f__law_is_ratio := by
  refine def_ok F sc__law_is_ratio hm hb (fun cdv A outer s H E hr => ?_)
  have nd := (sc__law_is_ratio).nd
  have hu64 := hr.units
  have sr := sr_def (outer := outer) GR hr (by first | decide | omega) rfl rfl
  exact qss_cons (qs_if (qt_w (qw_or (qt_not (qt_val (qv_of_qe (qe_isi .tup rfl T.b_isinstance (qv_name 0) rfl T.b_tuple (by decide +kernel))))) (qw_or1 (qt_cmp (q_ne hu64) (qv_of_qe (qe_callB c_len rfl T.b_len (by decide +kernel) (qva_cons (qv_name 0) (qva_nil)))) (qv_of_qe (qe_int)) (nomark _))))) (qss_one (qs_ret (qe_bl))) (qss_nil))
    (qss_cons (qs_if (qt_w (qw_or (qt_not (qt_val (qv_of_qe (qe_call G__law_is_integer (hr.mono (by decide)) (qa_cons (qe_fz (qv_ix (qv_name 0) (qv_of_qe (qe_int)))) (qa_nil)))))) (qw_or (qt_not (qt_val (qv_of_qe (qe_call G__law_is_integer (hr.mono (by decide)) (qa_cons (qe_fz (qv_ix (qv_name 0) (qv_of_qe (qe_int)))) (qa_nil)))))) (qw_or1 (qt_cmp q_lt (qv_ix (qv_name 0) (qv_of_qe (qe_int))) (qv_of_qe (qe_int)) (nomark _)))))) (qss_one (qs_ret (qe_bl))) (qss_nil))
    (qss_one (qs_ret (qe_cmp (q_eq hu64) (qv_of_qe (qe_call G__law_low (hr.mono (by decide)) (qa_cons (qe_fz (qv_ix (qv_name 0) (qv_of_qe (qe_int)))) (qa_cons (qe_fz (qv_ix (qv_name 0) (qv_of_qe (qe_int)))) (qa_nil))))) (qv_name 0) (nomark _)))))
abbrev s__law_add : Stmt := top 37
theorem sc__law_add : FnScope ["_law_a", "_law_b"] ["_law_a", "_law_b"] (defScope s__law_add) := ⟨rfl, rfl, rfl, by decide +kernel, rfl, by decide +kernel, by decide +kernel⟩
theorem ok__law_add {f : Addr} {fd : FuncData} (GR : Grd base P) (T : Txt K mg) (F : Fun K "_law_add" "_law_add" s__law_add f fd) (hm : mg "_law_add" = some (.ref f)) (hb : Binds K fd ["_law_a", "_law_b"] []) (G__law_low : DefOk P w K mg base 41 "_law_low" 2 f__law_low) : DefOk P w K mg base 42 "_law_add" 2 f__law_add := by
  refine def_ok F sc__law_add hm hb (fun cdv A outer s H E hr => ?_)
  have nd := (sc__law_add).nd
  have hu64 := hr.units
  have sr := sr_def (outer := outer) GR hr (by first | decide | omega) rfl rfl
  exact qss_one (qs_ret (qe_call G__law_low (hr.mono (by decide)) (qa_cons (qe_bin q_add (qv_of_qe (qe_bin q_mul (qv_ix (qv_name 0) (qv_of_qe (qe_int))) (qv_ix (qv_name 1) (qv_of_qe (qe_int))))) (qv_of_qe (qe_bin q_mul (qv_ix (qv_name 1) (qv_of_qe (qe_int))) (qv_ix (qv_name 0) (qv_of_qe (qe_int)))))) (qa_cons (qe_bin q_mul (qv_ix (qv_name 0) (qv_of_qe (qe_int))) (qv_ix (qv_name 1) (qv_of_qe (qe_int)))) (qa_nil)))))
abbrev s__law_sub : Stmt := top 38
theorem sc__law_sub : FnScope ["_law_a", "_law_b"] ["_law_a", "_law_b"] (defScope s__law_sub) := ⟨rfl, rfl, rfl, by decide +kernel, rfl, by decide +kernel, by decide +kernel⟩
theorem ok__law_sub {f : Addr} {fd : FuncData} (GR : Grd base P) (T : Txt K mg) (F : Fun K "_law_sub" "_law_sub" s__law_sub f fd) (hm : mg "_law_sub" = some (.ref f)) (hb : Binds K fd ["_law_a", "_law_b"] []) (G__law_low : DefOk P w K mg base 41 "_law_low" 2 f__law_low) : DefOk P w K mg base 42 "_law_sub" 2 f__law_sub := by
  refine def_ok F sc__law_sub hm hb (fun cdv A outer s H E hr => ?_)
  have nd := (sc__law_sub).nd
  have hu64 := hr.units
  have sr := sr_def (outer := outer) GR hr (by first | decide | omega) rfl rfl
  exact qss_one (qs_ret (qe_call G__law_low (hr.mono (by decide)) (qa_cons (qe_bin q_sub (qv_of_qe (qe_bin q_mul (qv_ix (qv_name 0) (qv_of_qe (qe_int))) (qv_ix (qv_name 1) (qv_of_qe (qe_int))))) (qv_of_qe (qe_bin q_mul (qv_ix (qv_name 1) (qv_of_qe (qe_int))) (qv_ix (qv_name 0) (qv_of_qe (qe_int)))))) (qa_cons (qe_bin q_mul (qv_ix (qv_name 0) (qv_of_qe (qe_int))) (qv_ix (qv_name 1) (qv_of_qe (qe_int)))) (qa_nil)))))
abbrev s__law_mul : Stmt := top 39
theorem sc__law_mul : FnScope ["_law_a", "_law_b"] ["_law_a", "_law_b"] (defScope s__law_mul) := ⟨rfl, rfl, rfl, by decide +kernel, rfl, by decide +kernel, by decide +kernel⟩
theorem ok__law_mul {f : Addr} {fd : FuncData} (GR : Grd base P) (T : Txt K mg) (F : Fun K "_law_mul" "_law_mul" s__law_mul f fd) (hm : mg "_law_mul" = some (.ref f)) (hb : Binds K fd ["_law_a", "_law_b"] []) (G__law_low : DefOk P w K mg base 41 "_law_low" 2 f__law_low) : DefOk P w K mg base 42 "_law_mul" 2 f__law_mul := by
  refine def_ok F sc__law_mul hm hb (fun cdv A outer s H E hr => ?_)
  have nd := (sc__law_mul).nd
  have hu64 := hr.units
  have sr := sr_def (outer := outer) GR hr (by first | decide | omega) rfl rfl
  exact qss_one (qs_ret (qe_call G__law_low (hr.mono (by decide)) (qa_cons (qe_bin q_mul (qv_ix (qv_name 0) (qv_of_qe (qe_int))) (qv_ix (qv_name 1) (qv_of_qe (qe_int)))) (qa_cons (qe_bin q_mul (qv_ix (qv_name 0) (qv_of_qe (qe_int))) (qv_ix (qv_name 1) (qv_of_qe (qe_int)))) (qa_nil)))))
abbrev s__law_div : Stmt := top 40
theorem sc__law_div : FnScope ["_law_a", "_law_b"] ["_law_a", "_law_b"] (defScope s__law_div) := ⟨rfl, rfl, rfl, by decide +kernel, rfl, by decide +kernel, by decide +kernel⟩
theorem ok__law_div {f : Addr} {fd : FuncData} (GR : Grd base P) (T : Txt K mg) (F : Fun K "_law_div" "_law_div" s__law_div f fd) (hm : mg "_law_div" = some (.ref f)) (hb : Binds K fd ["_law_a", "_law_b"] []) (G__law_low : DefOk P w K mg base 41 "_law_low" 2 f__law_low) : DefOk P w K mg base 42 "_law_div" 2 f__law_div := by
  refine def_ok F sc__law_div hm hb (fun cdv A outer s H E hr => ?_)
  have nd := (sc__law_div).nd
  have hu64 := hr.units
  have sr := sr_def (outer := outer) GR hr (by first | decide | omega) rfl rfl
  exact qss_one (qs_ret (qe_call G__law_low (hr.mono (by decide)) (qa_cons (qe_bin q_mul (qv_ix (qv_name 0) (qv_of_qe (qe_int))) (qv_ix (qv_name 1) (qv_of_qe (qe_int)))) (qa_cons (qe_bin q_mul (qv_ix (qv_name 0) (qv_of_qe (qe_int))) (qv_ix (qv_name 1) (qv_of_qe (qe_int)))) (qa_nil)))))
abbrev s__law_less : Stmt := top 41
theorem sc__law_less : FnScope ["_law_a", "_law_b"] ["_law_a", "_law_b"] (defScope s__law_less) := ⟨rfl, rfl, rfl, by decide +kernel, rfl, by decide +kernel, by decide +kernel⟩
theorem ok__law_less {f : Addr} {fd : FuncData} (GR : Grd base P) (T : Txt K mg) (F : Fun K "_law_less" "_law_less" s__law_less f fd) (hm : mg "_law_less" = some (.ref f)) (hb : Binds K fd ["_law_a", "_law_b"] []) : DefOk P w K mg base 41 "_law_less" 2 f__law_less := by
  refine def_ok F sc__law_less hm hb (fun cdv A outer s H E hr => ?_)
  have nd := (sc__law_less).nd
  have hu64 := hr.units
  have sr := sr_def (outer := outer) GR hr (by first | decide | omega) rfl rfl
  exact qss_one (qs_ret (qe_cmp q_lt (qv_of_qe (qe_bin q_mul (qv_ix (qv_name 0) (qv_of_qe (qe_int))) (qv_ix (qv_name 1) (qv_of_qe (qe_int))))) (qv_of_qe (qe_bin q_mul (qv_ix (qv_name 1) (qv_of_qe (qe_int))) (qv_ix (qv_name 0) (qv_of_qe (qe_int))))) (nomark _)))
abbrev s__law_fraction : Stmt := top 42
theorem sc__law_fraction : FnScope ["_law_draw"] ["_law_draw"] (defScope s__law_fraction) := ⟨rfl, rfl, rfl, by decide +kernel, rfl, by decide +kernel, by decide +kernel⟩
theorem ok__law_fraction {f : Addr} {fd : FuncData} (GR : Grd base P) (T : Txt K mg) (F : Fun K "_law_fraction" "_law_fraction" s__law_fraction f fd) (hm : mg "_law_fraction" = some (.ref f)) (hb : Binds K fd ["_law_draw"] []) (G__law_low : DefOk P w K mg base 41 "_law_low" 2 f__law_low) : DefOk P w K mg base 42 "_law_fraction" 1 f__law_fraction := by
  refine def_ok F sc__law_fraction hm hb (fun cdv A outer s H E hr => ?_)
  have nd := (sc__law_fraction).nd
  have hu64 := hr.units
  have sr := sr_def (outer := outer) GR hr (by first | decide | omega) rfl rfl
  exact qss_one (qs_ret (qe_call G__law_low (hr.mono (by decide)) (qa_cons (qe_bin q_sub (qv_of_qe (qe_bin q_mod (qv_of_qe (qe_callTy c_int rfl T.b_int (by decide +kernel) (qva_cons (qv_name 0) (qva_nil)))) (qv_of_qe (qe_int)))) (qv_of_qe (qe_int))) (qa_cons (qe_bin q_add (qv_of_qe (qe_int)) (qv_of_qe (qe_bin q_mod (qv_of_qe (qe_bin (q_fdiv sr) (qv_of_qe (qe_callTy c_int rfl T.b_int (by decide +kernel) (qva_cons (qv_name 0) (qva_nil)))) (qv_of_qe (qe_int)))) (qv_of_qe (qe_int))))) (qa_nil)))))
abbrev s__law_knots : Stmt := top 43
theorem sc__law_knots : FnScope ["_law_cell_here", "_law_most", "_law_great", "_law_draws_here", "_law_n", "_law_gaps", "_law_amount", "_law_amounts", "_law_k", "_law_step", "_law_value_here", "_law_knots_here", "_law_slope_here"] ["_law_cell_here", "_law_most", "_law_great"] (defScope s__law_knots) := ⟨rfl, rfl, rfl, by decide +kernel, rfl, by decide +kernel, by decide +kernel⟩
theorem ok__law_knots {f : Addr} {fd : FuncData} (GR : Grd base P) (T : Txt K mg) (F : Fun K "_law_knots" "_law_knots" s__law_knots f fd) (hm : mg "_law_knots" = some (.ref f)) (hb : Binds K fd ["_law_cell_here", "_law_most", "_law_great"] []) (G__law_draws : DefOk P w K mg base 41 "_law_draws" 2 f__law_draws) (G__law_fraction : DefOk P w K mg base 42 "_law_fraction" 1 f__law_fraction) (G__law_add : DefOk P w K mg base 42 "_law_add" 2 f__law_add) (G__law_low : DefOk P w K mg base 41 "_law_low" 2 f__law_low) (G__law_sub : DefOk P w K mg base 42 "_law_sub" 2 f__law_sub) (G__law_mul : DefOk P w K mg base 42 "_law_mul" 2 f__law_mul) : DefOk P w K mg base 43 "_law_knots" 3 f__law_knots := by
  refine def_ok F sc__law_knots hm hb (fun cdv A outer s H E hr => ?_)
  have nd := (sc__law_knots).nd
  have hu64 := hr.units
  have sr := sr_def (outer := outer) GR hr (by first | decide | omega) rfl rfl
  exact qss_cons (qs_set (i := 3) nd rfl (qe_call G__law_draws (hr.mono (by decide)) (qa_cons (qe_name 0) (qa_cons (qe_bin q_add (qv_of_qe (qe_int)) (qv_of_qe (qe_bin q_mul (qv_of_qe (qe_int)) (qv_name 1)))) (qa_nil)))))
    (qss_cons (qs_set (i := 4) nd rfl (qe_bin q_add (qv_of_qe (qe_int)) (qv_of_qe (qe_bin q_mod (qv_of_qe (qe_callTy c_int rfl T.b_int (by decide +kernel) (qva_cons (qv_ix (qv_name 3) (qv_of_qe (qe_int))) (qva_nil)))) (qv_name 1)))))
    (qss_cons (qs_setLc (i := 5) [("_law_k", 8)] rfl nd rfl rfl (sw_true rfl rfl rfl (by decide +kernel)) (qi_range1 rfl T.b_range (qva_cons (qv_name 4) (qva_nil))) (by kernel_rfl) (fun _ _ _ _ _ => qg_name (i := 8) nd rfl) (fun _ _ _ _ _ => qts_nil) (fun _ _ _ _ _ => qe_bin q_add (qv_of_qe (qe_int)) (qv_of_qe (qe_bin q_mod (qv_of_qe (qe_callTy c_int rfl T.b_int (by decide +kernel) (qva_cons (qv_ix (qv_name 3) (qv_of_qe (qe_bin q_add (qv_of_qe (qe_int)) (qv_name 8)))) (qva_nil)))) (qv_of_qe (qe_int))))))
    (qss_cons (qs_set (i := 6) nd rfl (qe_call G__law_fraction (hr.mono (by decide)) (qa_cons (qe_fz (qv_ix (qv_name 3) (qv_of_qe (qe_int)))) (qa_nil))))
    (qss_cons (qs_if (qt_val (qv_name 2)) (qss_one (qs_set (i := 6) nd rfl (qe_call G__law_add (hr.mono (by decide)) (qa_cons (qe_tup (qa_cons (qe_bin q_mul (qv_ix (qv_name 6) (qv_of_qe (qe_int))) (qv_of_qe (qe_bin q_pow (qv_of_qe (qe_int)) (qv_of_qe (qe_int))))) (qa_cons (qe_fz (qv_ix (qv_name 6) (qv_of_qe (qe_int)))) (qa_nil)))) (qa_cons (qe_tup (qa_cons (qe_bin q_mod (qv_of_qe (qe_callTy c_int rfl T.b_int (by decide +kernel) (qva_cons (qv_name 0) (qva_nil)))) (qv_of_qe (qe_bin q_pow (qv_of_qe (qe_int)) (qv_of_qe (qe_int))))) (qa_cons (qe_int) (qa_nil)))) (qa_nil)))))) (qss_nil))
    (qss_cons (qs_set (i := 7) nd rfl (qe_lst (qa_cons (qe_name 6) (qa_nil))))
    (qss_cons (qs_for PassesOwn.never rfl (qi_range1 rfl T.b_range (qva_cons (qv_of_qe (qe_bin q_sub (qv_name 4) (qv_of_qe (qe_int)))) (qva_nil))) (qg_name (i := 8) nd rfl) (qss_cons (qs_set (i := 9) nd rfl (qe_call G__law_low (hr.mono (by decide)) (qa_cons (qe_bin q_add (qv_of_qe (qe_int)) (qv_of_qe (qe_bin q_mod (qv_of_qe (qe_callTy c_int rfl T.b_int (by decide +kernel) (qva_cons (qv_ix (qv_name 3) (qv_of_qe (qe_bin q_add (qv_of_qe (qe_bin q_add (qv_of_qe (qe_int)) (qv_name 1))) (qv_name 8)))) (qva_nil)))) (qv_of_qe (qe_int))))) (qa_cons (qe_bin q_add (qv_of_qe (qe_int)) (qv_of_qe (qe_bin q_mod (qv_of_qe (qe_callTy c_int rfl T.b_int (by decide +kernel) (qva_cons (qv_ix (qv_name 3) (qv_of_qe (qe_bin q_add (qv_of_qe (qe_bin q_add (qv_of_qe (qe_int)) (qv_of_qe (qe_bin q_mul (qv_of_qe (qe_int)) (qv_name 1))))) (qv_name 8)))) (qva_nil)))) (qv_of_qe (qe_int))))) (qa_nil)))))
    (qss_cons (qs_if (qt_val (qv_name 2)) (qss_one (qs_set (i := 9) nd rfl (qe_tup (qa_cons (qe_bin q_mul (qv_ix (qv_name 9) (qv_of_qe (qe_int))) (qv_of_qe (qe_bin q_pow (qv_of_qe (qe_int)) (qv_of_qe (qe_int))))) (qa_cons (qe_fz (qv_ix (qv_name 9) (qv_of_qe (qe_int)))) (qa_nil)))))) (qss_nil))
    (qss_one (qs_append (i := 7) rfl (qe_call G__law_add (hr.mono (by decide)) (qa_cons (qe_fz (qv_ix (qv_name 7) (qv_name 8))) (qa_cons (qe_call G__law_low (hr.mono (by decide)) (qa_cons (qe_fz (qv_ix (qv_name 9) (qv_of_qe (qe_int)))) (qa_cons (qe_fz (qv_ix (qv_name 9) (qv_of_qe (qe_int)))) (qa_nil)))) (qa_nil)))))))))
    (qss_cons (qs_set (i := 10) nd rfl (qe_fz (qv_ix (qv_name 7) (qv_of_qe (qe_bin q_sub (qv_name 4) (qv_of_qe (qe_int)))))))
    (qss_cons (qs_set (i := 11) nd rfl (qe_lst (qa_cons (qe_tup (qa_cons (qe_name 10) (qa_cons (qe_name 10) (qa_nil)))) (qa_nil))))
    (qss_cons (qs_for PassesOwn.never rfl (qi_range3 rfl T.b_range (qva_cons (qv_of_qe (qe_bin q_sub (qv_name 4) (qv_of_qe (qe_int)))) (qva_cons (qv_of_qe (qe_neg (qv_of_qe (qe_int)))) (qva_cons (qv_of_qe (qe_neg (qv_of_qe (qe_int)))) (qva_nil))))) (qg_name (i := 8) nd rfl) (qss_cons (qs_set (i := 12) nd rfl (qe_call G__law_low (hr.mono (by decide)) (qa_cons (qe_callB (c_sum rfl) rfl T.b_sum (by decide +kernel) (qva_cons (qv_of_qe (qe_slice (qv_name 5) (qo_none) (qo_some (qv_of_qe (qe_bin q_add (qv_name 8) (qv_of_qe (qe_int))))))) (qva_nil))) (qa_cons (qe_callB (c_sum rfl) rfl T.b_sum (by decide +kernel) (qva_cons (qv_name 5) (qva_nil))) (qa_nil)))))
    (qss_cons (qs_set (i := 10) nd rfl (qe_call G__law_sub (hr.mono (by decide)) (qa_cons (qe_name 10) (qa_cons (qe_call G__law_mul (hr.mono (by decide)) (qa_cons (qe_name 12) (qa_cons (qe_call G__law_sub (hr.mono (by decide)) (qa_cons (qe_fz (qv_ix (qv_name 7) (qv_of_qe (qe_bin q_add (qv_name 8) (qv_of_qe (qe_int)))))) (qa_cons (qe_fz (qv_ix (qv_name 7) (qv_name 8))) (qa_nil)))) (qa_nil)))) (qa_nil)))))
    (qss_one (qs_insert (i := 11) rfl (qv_of_qe (qe_int)) (qe_tup (qa_cons (qe_fz (qv_ix (qv_name 7) (qv_name 8))) (qa_cons (qe_name 10) (qa_nil)))))))))
    (qss_one (qs_ret (qe_callTy c_tuple rfl T.b_tuple (by decide +kernel) (qva_cons (qv_name 11) (qva_nil))))))))))))))
abbrev s__law_value : Stmt := top 44
theorem sc__law_value : FnScope ["_law_knots_here", "_law_amount", "_law_k", "_law_wide", "_law_rise"] ["_law_knots_here", "_law_amount"] (defScope s__law_value) := ⟨rfl, rfl, rfl, by decide +kernel, rfl, by decide +kernel, by decide +kernel⟩
theorem ok__law_value {f : Addr} {fd : FuncData} (GR : Grd base P) (T : Txt K mg) (F : Fun K "_law_value" "_law_value" s__law_value f fd) (hm : mg "_law_value" = some (.ref f)) (hb : Binds K fd ["_law_knots_here", "_law_amount"] []) (G__law_less : DefOk P w K mg base 41 "_law_less" 2 f__law_less) (G__law_sub : DefOk P w K mg base 42 "_law_sub" 2 f__law_sub) (G__law_mul : DefOk P w K mg base 42 "_law_mul" 2 f__law_mul) (G__law_add : DefOk P w K mg base 42 "_law_add" 2 f__law_add) (G__law_div : DefOk P w K mg base 42 "_law_div" 2 f__law_div) : DefOk P w K mg base 43 "_law_value" 2 f__law_value := by
  refine def_ok F sc__law_value hm hb (fun cdv A outer s H E hr => ?_)
  have nd := (sc__law_value).nd
  have hu64 := hr.units
  have sr := sr_def (outer := outer) GR hr (by first | decide | omega) rfl rfl
  exact qss_cons (qs_if (qt_not (qt_val (qv_of_qe (qe_call G__law_less (hr.mono (by decide)) (qa_cons (qe_fz (qv_ix (qv_ix (qv_name 0) (qv_of_qe (qe_int))) (qv_of_qe (qe_int)))) (qa_cons (qe_name 1) (qa_nil))))))) (qss_one (qs_ret (qe_fz (qv_ix (qv_ix (qv_name 0) (qv_of_qe (qe_int))) (qv_of_qe (qe_int)))))) (qss_nil))
    (qss_cons (qs_for PassesOwn.never rfl (qi_range2 rfl T.b_range (qva_cons (qv_of_qe (qe_int)) (qva_cons (qv_of_qe (qe_callB c_len rfl T.b_len (by decide +kernel) (qva_cons (qv_name 0) (qva_nil)))) (qva_nil)))) (qg_name (i := 2) nd rfl) (qss_one (qs_if (qt_not (qt_val (qv_of_qe (qe_call G__law_less (hr.mono (by decide)) (qa_cons (qe_fz (qv_ix (qv_ix (qv_name 0) (qv_name 2)) (qv_of_qe (qe_int)))) (qa_cons (qe_name 1) (qa_nil))))))) (qss_cons (qs_set (i := 3) nd rfl (qe_call G__law_sub (hr.mono (by decide)) (qa_cons (qe_fz (qv_ix (qv_ix (qv_name 0) (qv_name 2)) (qv_of_qe (qe_int)))) (qa_cons (qe_fz (qv_ix (qv_ix (qv_name 0) (qv_of_qe (qe_bin q_sub (qv_name 2) (qv_of_qe (qe_int))))) (qv_of_qe (qe_int)))) (qa_nil)))))
    (qss_cons (qs_set (i := 4) nd rfl (qe_call G__law_mul (hr.mono (by decide)) (qa_cons (qe_call G__law_sub (hr.mono (by decide)) (qa_cons (qe_fz (qv_ix (qv_ix (qv_name 0) (qv_name 2)) (qv_of_qe (qe_int)))) (qa_cons (qe_fz (qv_ix (qv_ix (qv_name 0) (qv_of_qe (qe_bin q_sub (qv_name 2) (qv_of_qe (qe_int))))) (qv_of_qe (qe_int)))) (qa_nil)))) (qa_cons (qe_call G__law_sub (hr.mono (by decide)) (qa_cons (qe_name 1) (qa_cons (qe_fz (qv_ix (qv_ix (qv_name 0) (qv_of_qe (qe_bin q_sub (qv_name 2) (qv_of_qe (qe_int))))) (qv_of_qe (qe_int)))) (qa_nil)))) (qa_nil)))))
    (qss_one (qs_ret (qe_call G__law_add (hr.mono (by decide)) (qa_cons (qe_fz (qv_ix (qv_ix (qv_name 0) (qv_of_qe (qe_bin q_sub (qv_name 2) (qv_of_qe (qe_int))))) (qv_of_qe (qe_int)))) (qa_cons (qe_call G__law_div (hr.mono (by decide)) (qa_cons (qe_name 4) (qa_cons (qe_name 3) (qa_nil)))) (qa_nil)))))))) (qss_nil))))
    (qss_one (qs_ret (qe_name 1))))
abbrev s__law_slope : Stmt := top 45
theorem sc__law_slope : FnScope ["_law_knots_here", "_law_amount", "_law_k", "_law_rise"] ["_law_knots_here", "_law_amount"] (defScope s__law_slope) := ⟨rfl, rfl, rfl, by decide +kernel, rfl, by decide +kernel, by decide +kernel⟩
theorem ok__law_slope {f : Addr} {fd : FuncData} (GR : Grd base P) (T : Txt K mg) (F : Fun K "_law_slope" "_law_slope" s__law_slope f fd) (hm : mg "_law_slope" = some (.ref f)) (hb : Binds K fd ["_law_knots_here", "_law_amount"] []) (G__law_less : DefOk P w K mg base 41 "_law_less" 2 f__law_less) (G__law_sub : DefOk P w K mg base 42 "_law_sub" 2 f__law_sub) (G__law_div : DefOk P w K mg base 42 "_law_div" 2 f__law_div) : DefOk P w K mg base 43 "_law_slope" 2 f__law_slope := by
  refine def_ok F sc__law_slope hm hb (fun cdv A outer s H E hr => ?_)
  have nd := (sc__law_slope).nd
  have hu64 := hr.units
  have sr := sr_def (outer := outer) GR hr (by first | decide | omega) rfl rfl
  exact qss_cons (qs_if (qt_val (qv_of_qe (qe_call G__law_less (hr.mono (by decide)) (qa_cons (qe_name 1) (qa_cons (qe_fz (qv_ix (qv_ix (qv_name 0) (qv_of_qe (qe_int))) (qv_of_qe (qe_int)))) (qa_nil)))))) (qss_one (qs_ret (qe_tup (qa_cons (qe_int) (qa_cons (qe_int) (qa_nil)))))) (qss_nil))
    (qss_cons (qs_for PassesOwn.never rfl (qi_range2 rfl T.b_range (qva_cons (qv_of_qe (qe_int)) (qva_cons (qv_of_qe (qe_callB c_len rfl T.b_len (by decide +kernel) (qva_cons (qv_name 0) (qva_nil)))) (qva_nil)))) (qg_name (i := 2) nd rfl) (qss_one (qs_if (qt_val (qv_of_qe (qe_call G__law_less (hr.mono (by decide)) (qa_cons (qe_name 1) (qa_cons (qe_fz (qv_ix (qv_ix (qv_name 0) (qv_name 2)) (qv_of_qe (qe_int)))) (qa_nil)))))) (qss_cons (qs_set (i := 3) nd rfl (qe_call G__law_sub (hr.mono (by decide)) (qa_cons (qe_fz (qv_ix (qv_ix (qv_name 0) (qv_name 2)) (qv_of_qe (qe_int)))) (qa_cons (qe_fz (qv_ix (qv_ix (qv_name 0) (qv_of_qe (qe_bin q_sub (qv_name 2) (qv_of_qe (qe_int))))) (qv_of_qe (qe_int)))) (qa_nil)))))
    (qss_one (qs_ret (qe_call G__law_div (hr.mono (by decide)) (qa_cons (qe_name 3) (qa_cons (qe_call G__law_sub (hr.mono (by decide)) (qa_cons (qe_fz (qv_ix (qv_ix (qv_name 0) (qv_name 2)) (qv_of_qe (qe_int)))) (qa_cons (qe_fz (qv_ix (qv_ix (qv_name 0) (qv_of_qe (qe_bin q_sub (qv_name 2) (qv_of_qe (qe_int))))) (qv_of_qe (qe_int)))) (qa_nil)))) (qa_nil))))))) (qss_nil))))
    (qss_one (qs_ret (qe_tup (qa_cons (qe_int) (qa_cons (qe_int) (qa_nil)))))))
abbrev s__law_is_curve : Stmt := top 46
theorem sc__law_is_curve : FnScope ["_law_knots_here", "_law_before", "_law_k", "_law_slope_here"] ["_law_knots_here"] (defScope s__law_is_curve) := ⟨rfl, rfl, rfl, by decide +kernel, rfl, by decide +kernel, by decide +kernel⟩
theorem ok__law_is_curve {f : Addr} {fd : FuncData} (GR : Grd base P) (T : Txt K mg) (F : Fun K "_law_is_curve" "_law_is_curve" s__law_is_curve f fd) (hm : mg "_law_is_curve" = some (.ref f)) (hb : Binds K fd ["_law_knots_here"] []) (G__law_is_ratio : DefOk P w K mg base 42 "_law_is_ratio" 1 f__law_is_ratio) (G__law_less : DefOk P w K mg base 41 "_law_less" 2 f__law_less) (G__law_slope : DefOk P w K mg base 43 "_law_slope" 2 f__law_slope) : DefOk P w K mg base 44 "_law_is_curve" 1 f__law_is_curve := by
  refine def_ok F sc__law_is_curve hm hb (fun cdv A outer s H E hr => ?_)
  have nd := (sc__law_is_curve).nd
  have hu64 := hr.units
  have sr := sr_def (outer := outer) GR hr (by first | decide | omega) rfl rfl
  exact qss_cons (qs_if (qt_w (qw_or (qt_not (qt_val (qv_of_qe (qe_isi .tup rfl T.b_isinstance (qv_name 0) rfl T.b_tuple (by decide +kernel))))) (qw_or1 (qt_cmp (q_eq hu64) (qv_of_qe (qe_callB c_len rfl T.b_len (by decide +kernel) (qva_cons (qv_name 0) (qva_nil)))) (qv_of_qe (qe_int)) (nomark _))))) (qss_one (qs_ret (qe_bl))) (qss_nil))
    (qss_cons (qs_set (i := 1) nd rfl (qe_tup (qa_cons (qe_int) (qa_cons (qe_int) (qa_nil)))))
    (qss_cons (qs_for PassesOwn.never rfl (qi_range1 rfl T.b_range (qva_cons (qv_of_qe (qe_callB c_len rfl T.b_len (by decide +kernel) (qva_cons (qv_name 0) (qva_nil)))) (qva_nil))) (qg_name (i := 2) nd rfl) (qss_cons (qs_if (qt_w (qw_or (qt_not (qt_val (qv_of_qe (qe_isi .tup rfl T.b_isinstance (qv_ix (qv_name 0) (qv_name 2)) rfl T.b_tuple (by decide +kernel))))) (qw_or1 (qt_cmp (q_ne hu64) (qv_of_qe (qe_callB c_len rfl T.b_len (by decide +kernel) (qva_cons (qv_ix (qv_name 0) (qv_name 2)) (qva_nil)))) (qv_of_qe (qe_int)) (nomark _))))) (qss_one (qs_ret (qe_bl))) (qss_nil))
    (qss_cons (qs_if (qt_w (qw_or (qt_not (qt_val (qv_of_qe (qe_call G__law_is_ratio (hr.mono (by decide)) (qa_cons (qe_fz (qv_ix (qv_ix (qv_name 0) (qv_name 2)) (qv_of_qe (qe_int)))) (qa_nil)))))) (qw_or1 (qt_not (qt_val (qv_of_qe (qe_call G__law_is_ratio (hr.mono (by decide)) (qa_cons (qe_fz (qv_ix (qv_ix (qv_name 0) (qv_name 2)) (qv_of_qe (qe_int)))) (qa_nil))))))))) (qss_one (qs_ret (qe_bl))) (qss_nil))
    (qss_one (qs_if (qt_cmp q_gt (qv_name 2) (qv_of_qe (qe_int)) (nomark _)) (qss_cons (qs_if (qt_not (qt_val (qv_of_qe (qe_call G__law_less (hr.mono (by decide)) (qa_cons (qe_fz (qv_ix (qv_ix (qv_name 0) (qv_of_qe (qe_bin q_sub (qv_name 2) (qv_of_qe (qe_int))))) (qv_of_qe (qe_int)))) (qa_cons (qe_fz (qv_ix (qv_ix (qv_name 0) (qv_name 2)) (qv_of_qe (qe_int)))) (qa_nil))))))) (qss_one (qs_ret (qe_bl))) (qss_nil))
    (qss_cons (qs_set (i := 3) nd rfl (qe_call G__law_slope (hr.mono (by decide)) (qa_cons (qe_slice (qv_name 0) (qo_none) (qo_some (qv_of_qe (qe_bin q_add (qv_name 2) (qv_of_qe (qe_int)))))) (qa_cons (qe_fz (qv_ix (qv_ix (qv_name 0) (qv_of_qe (qe_bin q_sub (qv_name 2) (qv_of_qe (qe_int))))) (qv_of_qe (qe_int)))) (qa_nil)))))
    (qss_cons (qs_if (qt_w (qw_or (qt_not (qt_val (qv_of_qe (qe_call G__law_less (hr.mono (by decide)) (qa_cons (qe_name 1) (qa_cons (qe_name 3) (qa_nil))))))) (qw_or1 (qt_not (qt_val (qv_of_qe (qe_call G__law_less (hr.mono (by decide)) (qa_cons (qe_name 3) (qa_cons (qe_tup (qa_cons (qe_int) (qa_cons (qe_int) (qa_nil)))) (qa_nil)))))))))) (qss_one (qs_ret (qe_bl))) (qss_nil))
    (qss_one (qs_set (i := 1) nd rfl (qe_name 3)))))) (qss_nil))))))
    (qss_one (qs_ret (qe_cmp (q_eq hu64) (qv_ix (qv_ix (qv_name 0) (qv_of_qe (qe_bin q_sub (qv_of_qe (qe_callB c_len rfl T.b_len (by decide +kernel) (qva_cons (qv_name 0) (qva_nil)))) (qv_of_qe (qe_int))))) (qv_of_qe (qe_int))) (qv_ix (qv_ix (qv_name 0) (qv_of_qe (qe_bin q_sub (qv_of_qe (qe_callB c_len rfl T.b_len (by decide +kernel) (qva_cons (qv_name 0) (qva_nil)))) (qv_of_qe (qe_int))))) (qv_of_qe (qe_int))) (nomark _))))))
abbrev s__law_not_above : Stmt := top 47
theorem sc__law_not_above : FnScope ["_law_low_here", "_law_high", "_law_knot"] ["_law_low_here", "_law_high"] (defScope s__law_not_above) := ⟨rfl, rfl, rfl, by decide +kernel, rfl, by decide +kernel, by decide +kernel⟩
theorem ok__law_not_above {f : Addr} {fd : FuncData} (GR : Grd base P) (T : Txt K mg) (F : Fun K "_law_not_above" "_law_not_above" s__law_not_above f fd) (hm : mg "_law_not_above" = some (.ref f)) (hb : Binds K fd ["_law_low_here", "_law_high"] []) (G__law_less : DefOk P w K mg base 41 "_law_less" 2 f__law_less) (G__law_value : DefOk P w K mg base 43 "_law_value" 2 f__law_value) : DefOk P w K mg base 44 "_law_not_above" 2 f__law_not_above := by
  refine def_ok F sc__law_not_above hm hb (fun cdv A outer s H E hr => ?_)
  have nd := (sc__law_not_above).nd
  have hu64 := hr.units
  have sr := sr_def (outer := outer) GR hr (by first | decide | omega) rfl rfl
  exact qss_cons (qs_for PassesOwn.never rfl (qi_frz (qe_bin q_add (qv_name 0) (qv_name 1))) (qg_name (i := 2) nd rfl) (qss_one (qs_if (qt_val (qv_of_qe (qe_call G__law_less (hr.mono (by decide)) (qa_cons (qe_call G__law_value (hr.mono (by decide)) (qa_cons (qe_name 1) (qa_cons (qe_fz (qv_ix (qv_name 2) (qv_of_qe (qe_int)))) (qa_nil)))) (qa_cons (qe_call G__law_value (hr.mono (by decide)) (qa_cons (qe_name 0) (qa_cons (qe_fz (qv_ix (qv_name 2) (qv_of_qe (qe_int)))) (qa_nil)))) (qa_nil)))))) (qss_one (qs_ret (qe_bl))) (qss_nil))))
    (qss_one (qs_ret (qe_bl)))
abbrev s_Curve___init__ : Stmt := clsAt (top 29) 0
theorem sc_Curve___init__ : FnScope ["self", "knots", "kept", "wrong"] ["self", "knots"] (defScope s_Curve___init__) := ⟨rfl, rfl, rfl, by decide +kernel, rfl, by decide +kernel, by decide +kernel⟩
theorem ok_Curve___init__ {C f : Addr} {fd : FuncData} (GR : Grd base P) (T : Txt K mg) (F : Fun K "__init__" "Curve.__init__" s_Curve___init__ f fd) (ic : InsC K "Curve" C) (hx : mg "Curve" = some (.ref C)) (na : NoAttr K C "knots") (mk : Mk K C f) (hb : Binds K fd ["self", "knots"] []) (G_first_wrong : DefOk P w K mg base 45 "first_wrong" 1 f_first_wrong) : InitOk P w K mg base 46 "Curve" "knots" 1 f_Curve := by
  refine init_ok F sc_Curve___init__ ic hx na mk hb (fun cdv A outer s H E hr => ?_)
  have nd := (sc_Curve___init__).nd
  have hu64 := hr.units
  have sr := sr_def (outer := outer) GR hr (by first | decide | omega) rfl rfl
  exact qsin_cons (qs_set (i := 2) nd rfl (qe_callTy c_tuple rfl T.b_tuple (by decide +kernel) (qva_cons (qv_name 1) (qva_nil))))
    (qsin_cons (qs_if (qt_not (qt_val (qv_name 2))) (qss_one (qs_never)) (qss_nil))
    (qsin_cons (qs_set (i := 3) nd rfl (qe_call G_first_wrong (hr.mono (by decide)) (qa_cons (qe_name 2) (qa_nil))))
    (qsin_cons (qs_if (qt_cmp q_isnot (qv_name 3) (qv_of_qe (qe_non)) (nomark _)) (qss_one (qs_never)) (qss_nil))
    (qsin_store (y := "self") (qe_name 2) rfl (.inl rfl)))))
abbrev s_Curve___and__ : Stmt := clsAt (top 29) 9
theorem sc_Curve___and__ : FnScope ["self", "other"] ["self", "other"] (defScope s_Curve___and__) := ⟨rfl, rfl, rfl, by decide +kernel, rfl, by decide +kernel, by decide +kernel⟩
theorem ok_Curve___and__ {C f : Addr} {fd : FuncData} (GR : Grd base P) (T : Txt K mg) (F : Fun K "__and__" "Curve.__and__" s_Curve___and__ f fd) (hC : PySem.W.nsIn K mainGlobals "Curve" = some (some (.ref C))) (hm : Meth K C "__and__" f) (hfi : PySem.W.fnIn K f = true) (hb : Binds K fd ["self", "other"] []) (I_Curve : InitOk P w K mg base 46 "Curve" "knots" 1 f_Curve) (G_meet_knots : DefOk P w K mg base 46 "meet_knots" 2 f_meet_knots) : MethOk P w K mg base 48 "Curve" "__and__" 2 f_Curve___and__ := by
  refine meth_ok F sc_Curve___and__ hC hm hfi hb (fun cdv A outer s H E hr => ?_)
  have nd := (sc_Curve___and__).nd
  have hu64 := hr.units
  have sr := sr_def (outer := outer) GR hr (by first | decide | omega) rfl rfl
  exact qss_one (qs_ret (qe_make I_Curve (hr.mono (by decide)) (qa_cons (qe_call G_meet_knots (hr.mono (by decide)) (qa_cons (qe_fld T.fl_Curve (qv_name 0)) (qa_cons (qe_fld T.fl_Curve (qv_name 1)) (qa_nil)))) (qa_nil))))
abbrev s_law : Stmt := top 48
theorem sc_law : FnScope ["_law_script", "_law_great", "_law_first", "_law_second", "_law_third", "_law_meet", "_law_turned", "_law_knot", "_law_low_here", "_law_lower"] ["_law_script"] (defScope s_law) := ⟨rfl, rfl, rfl, by decide +kernel, rfl, by decide +kernel, by decide +kernel⟩
theorem ok_law {f : Addr} {fd : FuncData} (GR : Grd base P) (T : Txt K mg) (F : Fun K "law" "law" s_law f fd) (G__law_head : DefOk P w K mg base 42 "_law_head" 1 f__law_head) (G__law_knots : DefOk P w K mg base 43 "_law_knots" 3 f__law_knots) (G__law_cell : DefOk P w K mg base 41 "_law_cell" 2 f__law_cell) (G_Curve___and__ : MethOk P w K mg base 48 "Curve" "__and__" 2 f_Curve___and__) (I_Curve : InitOk P w K mg base 46 "Curve" "knots" 1 f_Curve) (G__law_is_curve : DefOk P w K mg base 44 "_law_is_curve" 1 f__law_is_curve) (G__law_not_above : DefOk P w K mg base 44 "_law_not_above" 2 f__law_not_above) (G__law_value : DefOk P w K mg base 43 "_law_value" 2 f__law_value) : FnOk P w K mg base CX0 49 f fd ["_law_script"] (spM K 1 f_law) := by
  refine fn_okM F sc_law (fun cdv A outer s H E hr => ?_)
  have nd := (sc_law).nd
  have hu64 := hr.units
  have sr := sr_def (outer := outer) GR hr (by first | decide | omega) rfl rfl
  exact qss_cons (qs_set (i := 1) nd rfl (qe_cmp (q_eq hu64) (qv_of_qe (qe_bin q_mod (qv_of_qe (qe_callTy c_int rfl T.b_int (by decide +kernel) (qva_cons (qv_ix (qv_of_qe (qe_call G__law_head (hr.mono (by decide)) (qa_cons (qe_name 0) (qa_nil)))) (qv_of_qe (qe_int))) (qva_nil)))) (qv_of_qe (qe_int)))) (qv_of_qe (qe_int)) (nomark _)))
    (qss_cons (qs_set (i := 2) nd rfl (qe_call G__law_knots (hr.mono (by decide)) (qa_cons (qe_call G__law_cell (hr.mono (by decide)) (qa_cons (qe_name 0) (qa_cons (qe_int) (qa_nil)))) (qa_cons (qe_int) (qa_cons (qe_name 1) (qa_nil))))))
    (qss_cons (qs_set (i := 3) nd rfl (qe_call G__law_knots (hr.mono (by decide)) (qa_cons (qe_call G__law_cell (hr.mono (by decide)) (qa_cons (qe_name 0) (qa_cons (qe_int) (qa_nil)))) (qa_cons (qe_int) (qa_cons (qe_name 1) (qa_nil))))))
    (qss_cons (qs_set (i := 4) nd rfl (qe_call G__law_knots (hr.mono (by decide)) (qa_cons (qe_call G__law_cell (hr.mono (by decide)) (qa_cons (qe_name 0) (qa_cons (qe_int) (qa_nil)))) (qa_cons (qe_int) (qa_cons (qe_name 1) (qa_nil))))))
    (qss_cons (qs_set (i := 5) nd rfl (qe_bin (q_own ⟨G_Curve___and__, T.sf_Curve, ins_Curve___and__⟩ (hr.mono (by decide))) (qv_of_qe (qe_make I_Curve (hr.mono (by decide)) (qa_cons (qe_name 2) (qa_nil)))) (qv_of_qe (qe_make I_Curve (hr.mono (by decide)) (qa_cons (qe_name 3) (qa_nil))))))
    (qss_cons (qs_set (i := 6) nd rfl (qe_bin (q_own ⟨G_Curve___and__, T.sf_Curve, ins_Curve___and__⟩ (hr.mono (by decide))) (qv_of_qe (qe_make I_Curve (hr.mono (by decide)) (qa_cons (qe_name 3) (qa_nil)))) (qv_of_qe (qe_make I_Curve (hr.mono (by decide)) (qa_cons (qe_name 2) (qa_nil))))))
    (qss_cons (qs_if (qt_w (qw_or (qt_not (qt_val (qv_of_qe (qe_call G__law_is_curve (hr.mono (by decide)) (qa_cons (qe_fld T.fl_Curve (qv_name 5)) (qa_nil)))))) (qw_or (qt_not (qt_val (qv_of_qe (qe_call G__law_is_curve (hr.mono (by decide)) (qa_cons (qe_fld T.fl_Curve (qv_name 6)) (qa_nil)))))) (qw_or1 (qt_cmp (q_ne hu64) (qv_of_qe (qe_fld T.fl_Curve (qv_name 5))) (qv_of_qe (qe_fld T.fl_Curve (qv_name 6))) (nomark _)))))) (qss_one (qs_ret (qe_bl))) (qss_nil))
    (qss_cons (qs_if (qt_w (qw_or (qt_not (qt_val (qv_of_qe (qe_call G__law_not_above (hr.mono (by decide)) (qa_cons (qe_fld T.fl_Curve (qv_name 5)) (qa_cons (qe_name 2) (qa_nil))))))) (qw_or1 (qt_not (qt_val (qv_of_qe (qe_call G__law_not_above (hr.mono (by decide)) (qa_cons (qe_fld T.fl_Curve (qv_name 5)) (qa_cons (qe_name 3) (qa_nil)))))))))) (qss_one (qs_ret (qe_bl))) (qss_nil))
    (qss_cons (qs_for PassesOwn.never rfl (qi_frz (qe_fld T.fl_Curve (qv_name 5))) (qg_name (i := 7) nd rfl) (qss_one (qs_if (qt_w (qw_and (qt_cmp (q_ne hu64) (qv_ix (qv_name 7) (qv_of_qe (qe_int))) (qv_of_qe (qe_call G__law_value (hr.mono (by decide)) (qa_cons (qe_name 2) (qa_cons (qe_fz (qv_ix (qv_name 7) (qv_of_qe (qe_int)))) (qa_nil))))) (nomark _)) (qw_and1 (qt_cmp (q_ne hu64) (qv_ix (qv_name 7) (qv_of_qe (qe_int))) (qv_of_qe (qe_call G__law_value (hr.mono (by decide)) (qa_cons (qe_name 3) (qa_cons (qe_fz (qv_ix (qv_name 7) (qv_of_qe (qe_int)))) (qa_nil))))) (nomark _))))) (qss_one (qs_ret (qe_bl))) (qss_nil))))
    (qss_cons (qs_if (qt_cmp (q_ne hu64) (qv_of_qe (qe_fld T.fl_Curve (qv_of_qe (qe_bin (q_own ⟨G_Curve___and__, T.sf_Curve, ins_Curve___and__⟩ (hr.mono (by decide))) (qv_of_qe (qe_make I_Curve (hr.mono (by decide)) (qa_cons (qe_name 2) (qa_nil)))) (qv_of_qe (qe_make I_Curve (hr.mono (by decide)) (qa_cons (qe_name 2) (qa_nil)))))))) (qv_name 2) (nomark _)) (qss_one (qs_ret (qe_bl))) (qss_nil))
    (qss_cons (qs_set (i := 8) nd rfl (qe_fld T.fl_Curve (qv_of_qe (qe_bin (q_own ⟨G_Curve___and__, T.sf_Curve, ins_Curve___and__⟩ (hr.mono (by decide))) (qv_of_qe (qe_make I_Curve (hr.mono (by decide)) (qa_cons (qe_name 2) (qa_nil)))) (qv_of_qe (qe_make I_Curve (hr.mono (by decide)) (qa_cons (qe_name 4) (qa_nil))))))))
    (qss_cons (qs_if (qt_not (qt_val (qv_of_qe (qe_call G__law_is_curve (hr.mono (by decide)) (qa_cons (qe_name 8) (qa_nil)))))) (qss_one (qs_ret (qe_bl))) (qss_nil))
    (qss_cons (qs_if (qt_w (qw_and (qt_val (qv_of_qe (qe_call G__law_not_above (hr.mono (by decide)) (qa_cons (qe_name 8) (qa_cons (qe_name 2) (qa_nil)))))) (qw_and (qt_val (qv_of_qe (qe_call G__law_not_above (hr.mono (by decide)) (qa_cons (qe_name 8) (qa_cons (qe_name 3) (qa_nil)))))) (qw_and1 (qt_not (qt_val (qv_of_qe (qe_call G__law_not_above (hr.mono (by decide)) (qa_cons (qe_name 8) (qa_cons (qe_fld T.fl_Curve (qv_name 5)) (qa_nil))))))))))) (qss_one (qs_ret (qe_bl))) (qss_nil))
    (qss_cons (qs_set (i := 9) nd rfl (qe_fld T.fl_Curve (qv_of_qe (qe_bin (q_own ⟨G_Curve___and__, T.sf_Curve, ins_Curve___and__⟩ (hr.mono (by decide))) (qv_of_qe (qe_make I_Curve (hr.mono (by decide)) (qa_cons (qe_name 8) (qa_nil)))) (qv_of_qe (qe_make I_Curve (hr.mono (by decide)) (qa_cons (qe_name 3) (qa_nil))))))))
    (qss_one (qs_ret (qe_and (qe_call G__law_is_curve (hr.mono (by decide)) (qa_cons (qe_name 9) (qa_nil))) (qe_one (qe_call G__law_not_above (hr.mono (by decide)) (qa_cons (qe_name 9) (qa_cons (qe_fld T.fl_Curve (qv_name 5)) (qa_nil)))))))))))))))))))))
end
end Lw

set_option Elab.async false
set_option linter.all false
set_option maxRecDepth 100000
set_option maxHeartbeats 1000000
namespace Lw
open PySem L2 Q
theorem law_true (ns : List Int) (hl : ns.length ≤ 63) (hb : ∀ z ∈ ns, Builtin.Int.intBits z ≤ 1048576) : f_law [.lst (ns.map D.int)] = some (.bl true) := by
  have hc : ∀ k : Nat, f__law_cell [.lst (ns.map D.int), .int (k : Int)] = some (.int (cellZ ns k)) := law_cell_spec ns
  obtain ⟨a, hh, _⟩ : ∃ (a : Nat → Int), (∃ ds : List D, f__law_head [.lst (ns.map D.int)] = some (.lst ds) ∧ (∀ j : Nat, j < 3 → atI ds (j : Int) = some (.int (a j)))) ∧ True := by
    have dr := (drw_spec (cellZ ns 0) 3 (by decide)).1
    have dat := fun j (hj : j < 3) => (drw_at (cellZ ns 0) 3 j (by decide) hj).1
    have dr : f__law_draws [.int (cellZ ns 0), .int 3] = some (.lst ((drw (cellZ ns 0) 3).map D.int)) := dr
    have c0 : f__law_cell [.lst (ns.map D.int), .int 0] = some (.int (cellZ ns 0)) := hc 0
    refine ⟨drwAt (cellZ ns 0) 3, ⟨(drw (cellZ ns 0) 3).map D.int, ?_, dat⟩, trivial⟩
    refine (run_eq (by rfl)).trans ?_
    generalize D.lst (ns.map D.int) = L at *
    generalize (drw (cellZ ns 0) 3).map D.int = ds at *
    simp -implicitDefEqProofs [m__law_head, startE, c0, dr]
  obtain ⟨hs, hh, dat⟩ := hh
  have a0 : atI hs 0 = some (.int (a 0)) := dat 0 (by decide)
  have c1 : f__law_cell [.lst (ns.map D.int), .int 1] = some (.int (cellZ ns 1)) := hc 1
  have c2 : f__law_cell [.lst (ns.map D.int), .int 2] = some (.int (cellZ ns 2)) := hc 2
  have c3 : f__law_cell [.lst (ns.map D.int), .int 3] = some (.int (cellZ ns 3)) := hc 3
  generalize D.lst (ns.map D.int) = L at *
  obtain ⟨gr, hgr⟩ : ∃ gr : Bool, oEq (.fz (.int ((a 0).fmod 8))) (.fz (.int 5)) = some (.fz (.bl gr)) := by
    by_cases h : (a 0).fmod 8 = 5
    · exact ⟨true, by simp -implicitDefEqProofs [h]⟩
    · exact ⟨false, by simp -implicitDefEqProofs [h]⟩
  obtain ⟨ks, hk, o, z, hkl⟩ := law_knots_kz gr (cellZ ns 1) 5 (by decide) (by decide)
  obtain ⟨qs, hq, p, w, hql⟩ := law_knots_kz gr (cellZ ns 2) 5 (by decide) (by decide)
  obtain ⟨ts, ht, y, x, htl⟩ := law_knots_kz gr (cellZ ns 3) 4 (by decide) (by decide)
  have hk : f__law_knots [.int (cellZ ns 1), .int 5, .bl gr] = some (.tup (ks.map encK)) := hk
  have hq : f__law_knots [.int (cellZ ns 2), .int 5, .bl gr] = some (.tup (qs.map encK)) := hq
  have ht : f__law_knots [.int (cellZ ns 3), .int 4, .bl gr] = some (.tup (ts.map encK)) := ht
  have hz4 : KSz 200000 ks := z.ksz (by decide) (by decide)
  have hw4 : KSz 200000 qs := w.ksz (by decide) (by decide)
  have hcv := Curve_of (kd := .tup (ks.map encK)) o (c := 200000) (by decide) hz4 (by omega) (.inl rfl)
  have hcw := Curve_of (kd := .tup (qs.map encK)) p (c := 200000) (by decide) hw4 (by omega) (.inl rfl)
  have hct := Curve_of (kd := .tup (ts.map encK)) y (c := 200000) (by decide) (x.ksz (by decide) (by decide)) (by omega) (.inl rfl)
  obtain ⟨M, m1, zM, lM, r4⟩ := Curve_and_spec o p z w (by decide) (by omega) (by omega)
  obtain ⟨M', m1', _, _, s4⟩ := Curve_and_spec p o w z (by decide) (by omega) (by omega)
  have eM : M' = M := m1'.comm.uniq m1
  rw [eM] at s4
  obtain ⟨F, f1, _, _, t4⟩ := Curve_and_spec o o z z (by decide) (by omega) (by omega)
  have eF : F = ks := f1.uniq (meet_self o)
  rw [eF] at t4
  obtain ⟨W, w1, zW, lW, w4⟩ := Curve_and_spec o y z x (by decide) (by omega) (by omega)
  have hWc : KSz 200000 W := zW.ksz (by decide) (by decide)
  have hcW := Curve_of (kd := .tup (W.map encK)) w1.ok (c := 200000) (by decide) hWc (by omega) (.inl rfl)
  obtain ⟨U, u1, zU, lU, u4⟩ := Curve_and_spec w1.ok p zW (w.mono (a' := 1000) (s' := 2 * (16000 + 8 + 2 * 1000 + 3) + 2 * 1000 + 2) (v' := 16000 + 8 + 2 * 1000 + 3) (by decide) (by decide) (by decide)) (by decide) (by omega) (by omega)
  have hMc : KSz 200000 M := zM.ksz (by decide) (by decide)
  have hUc : KSz 200000 U := zU.ksz (by decide) (by decide)
  have icM := law_is_curve_spec m1.ok (c := 200000) (by decide) hMc (by omega)
  have icW := law_is_curve_spec w1.ok (c := 200000) (by decide) hWc (by omega)
  have icU := law_is_curve_spec u1.ok (c := 200000) (by decide) hUc (by omega)
  have qM := (ks_self M).2
  have qk := (ks_self ks).2
  obtain ⟨b1, hb1, na1⟩ := law_not_above_spec m1.ok o (c := 200000) (by decide) hMc hz4 (by omega) (by omega)
  obtain ⟨b2, hb2, na2⟩ := law_not_above_spec m1.ok p (c := 200000) (by decide) hMc hw4 (by omega) (by omega)
  obtain ⟨b3, hb3, na3⟩ := law_not_above_spec w1.ok o (c := 200000) (by decide) hWc hz4 (by omega) (by omega)
  obtain ⟨b4, hb4, na4⟩ := law_not_above_spec w1.ok p (c := 200000) (by decide) hWc hw4 (by omega) (by omega)
  obtain ⟨b5, hb5, na5⟩ := law_not_above_spec w1.ok m1.ok (c := 200000) (by decide) hWc hMc (by omega) (by omega)
  obtain ⟨b6, hb6, na6⟩ := law_not_above_spec u1.ok m1.ok (c := 200000) (by decide) hUc hMc (by omega) (by omega)
  rw [hb1.mpr m1.l] at na1
  rw [hb2.mpr m1.r] at na2
  rw [hb3.mpr w1.l] at na3
  rw [hb6.mpr (m1.max U u1.ok (fun x => Rat.le_trans (u1.l x) (w1.l x)) u1.r)] at na6
  have h45 : b4 = true → b5 = true := fun h => hb5.mpr (m1.max W w1.ok w1.l (hb4.mp h))
  obtain ⟨env', hf, i7, rfl⟩ := for_inv (gs := gsName 7) (mb := b1_law) (ds := M.map encK) (env := [.has (.fz L), .has (.fz (.bl gr)), .has (.fz (.tup (ks.map encK))), .has (.fz (.tup (qs.map encK))), .has (.fz (.tup (ts.map encK))), .has (.fz (insK M)), .has (.fz (insK M)), .un, .un, .un])
    (fun i env => ∃ i7 : Sl, env = [.has (.fz L), .has (.fz (.bl gr)), .has (.fz (.tup (ks.map encK))), .has (.fz (.tup (qs.map encK))), .has (.fz (.tup (ts.map encK))), .has (.fz (insK M)), .has (.fz (insK M)), i7, .un, .un])
    ⟨.un, rfl⟩ (by
      rintro i d env hd ⟨i7, rfl⟩
      rw [List.getElem?_map] at hd
      obtain ⟨q, hq', rfl⟩ := Option.map_eq_some_iff.mp hd
      have hqm := List.mem_of_getElem? hq'
      have zq := (hMc q hqm).1
      have v1 := law_value_spec o (c := 200000) (by decide) hz4 (by omega) zq
      have v2 := law_value_spec p (c := 200000) (by decide) hw4 (by omega) zq
      have on := m1.on q hqm
      have e1 := (eqQ q.2 (valK ks q.1)).2
      have e2 := (eqQ q.2 (valK qs q.1)).2
      refine ⟨_, _, rfl, .inl ?_, .has (.fz (encK q)), rfl⟩
      clear r4 s4 t4 w4 u4 icM icW icU qM qk na1 na2 na3 na4 na5 na6 hcv hcw hct hcW
      generalize ks.map encK = KS at *
      generalize qs.map encK = QS at *
      generalize ts.map encK = TS at *
      generalize insK M = MM at *
      by_cases h1 : q.2 = valK ks q.1
      · rw [decide_eq_true h1] at e1
        unfold encK
        generalize encQ q.2 = x1 at *
        generalize encQ q.1 = x2 at *
        generalize encQ (valK ks q.1) = x3 at *
        generalize encQ (valK qs q.1) = x4 at *
        simp -implicitDefEqProofs [b1_law, v1, e1]
      · have h2 : q.2 = valK qs q.1 := on.resolve_left h1
        rw [decide_eq_false h1] at e1
        rw [decide_eq_true h2] at e2
        unfold encK
        generalize encQ q.2 = x1 at *
        generalize encQ q.1 = x2 at *
        generalize encQ (valK ks q.1) = x3 at *
        generalize encQ (valK qs q.1) = x4 at *
        simp -implicitDefEqProofs [b1_law, v1, v2, e1, e2])
  have ei : D.items (.tup (M.map encK)) = some (M.map encK) := rfl
  clear hz4 hw4 hc m1 zM w1 zW u1 zU hMc hWc hUc o p y z w x
  refine (run_eq (by rfl)).trans ?_
  simp only [m_law, u1_law, u2_law, u3_law, u4_law, u5_law, u6_law, u7_law, u8_law, u9_law, u10_law, u11_law, u12_law, u13_law, u14_law]
  unfold insK at *
  generalize ks.map encK = KS at *
  generalize qs.map encK = QS at *
  generalize ts.map encK = TS at *
  generalize M.map encK = MS at *
  generalize W.map encK = WS at *
  generalize U.map encK = US at *
  cases b4 with
  | true =>
    rw [h45 rfl] at na5
    simp -implicitDefEqProofs [startE, lookF, isI, oOwn, hh, a0, hgr, c1, c2, c3, hk, hq, ht, hcv, hcw, hct, hcW, r4, s4, t4, w4, u4, icM, icW, icU, qM, qk, na1, na2, na3, na4, na5, na6, ei, hf]
  | false =>
    simp -implicitDefEqProofs [startE, lookF, isI, oOwn, hh, a0, hgr, c1, c2, c3, hk, hq, ht, hcv, hcw, hct, hcW, r4, s4, t4, w4, u4, icM, icW, icU, qM, qk, na1, na2, na3, na4, na6, ei, hf]
end Lw

set_option Elab.async false
set_option linter.all false
set_option maxRecDepth 100000
set_option maxHeartbeats 4000000
namespace Lw
open PySem L2 Q
theorem all_mk {l : PySem.W.OpenLaw} {w : World} {K : PySem.W.Frag} {h : Heap} {mg : Str → Option Value} {fa f1 f2 f3 f4 f5 f6 f7 f8 f9 f10 f11 f12 f13 f14 f15 f16 f17 f18 f19 f20 f21 f22 f23 f24 f25 f26 f27 f28 f29 f30 f31 f32 f33 f34 f35 f36 f37 f38 : Addr} (X : K.In h) (G : h.Ns mainGlobals mg) (hfa : mg "law" = some (.ref fa))
    {od1 an1 od2 an2 od3 an3 od4 an4 od5 an5 od6 an6 od7 an7 od8 an8 od9 an9 od10 an10 od11 an11 od12 an12 od13 an13 od14 an14 od15 an15 od16 an16 od17 an17 od18 an18 od19 an19 od20 an20 od21 an21 od22 an22 od23 an23 od24 an24 od25 an25 od26 an26 od27 an27 od28 an28 od29 an29 od30 an30 od31 an31 od32 an32 od33 an33 od34 an34 od35 an35 od36 an36 od37 an37 od38 an38 : Option Addr} {sl1 sl2 sl3 sl4 sl5 sl6 sl7 sl8 sl9 sl10 sl11 sl12 sl13 sl14 sl15 sl16 sl17 sl18 sl19 sl20 sl21 sl22 sl23 sl24 sl25 sl26 sl27 sl28 sl29 sl30 sl31 sl32 sl33 sl34 sl35 sl36 sl37 sl38 : Array (Option Value)} {oc1 kV1 dc1 pm1 cd1 ct1 oc2 kV2 dc2 pm2 cd2 ct2 oc3 kV3 dc3 pm3 cd3 ct3 oc4 kV4 dc4 pm4 cd4 ct4 oc5 kV5 dc5 pm5 cd5 ct5 oc6 kV6 dc6 pm6 cd6 ct6 oc7 kV7 dc7 pm7 cd7 ct7 oc8 kV8 dc8 pm8 cd8 ct8 oc9 kV9 dc9 pm9 cd9 ct9 oc10 kV10 dc10 pm10 cd10 ct10 oc11 kV11 dc11 pm11 cd11 ct11 oc12 kV12 dc12 pm12 cd12 ct12 oc13 kV13 dc13 pm13 cd13 ct13 oc14 kV14 dc14 pm14 cd14 ct14 oc15 kV15 dc15 pm15 cd15 ct15 oc16 kV16 dc16 pm16 cd16 ct16 oc17 kV17 dc17 pm17 cd17 ct17 oc18 kV18 dc18 pm18 cd18 ct18 oc19 kV19 dc19 pm19 cd19 ct19 oc20 kV20 dc20 pm20 cd20 ct20 oc21 kV21 dc21 pm21 cd21 ct21 oc22 kV22 dc22 pm22 cd22 ct22 oc23 kV23 dc23 pm23 cd23 ct23 oc24 kV24 dc24 pm24 cd24 ct24 oc25 kV25 dc25 pm25 cd25 ct25 oc26 kV26 dc26 pm26 cd26 ct26 oc27 kV27 dc27 pm27 cd27 ct27 oc28 kV28 dc28 pm28 cd28 ct28 oc29 kV29 dc29 pm29 cd29 ct29 oc30 kV30 dc30 pm30 cd30 ct30 oc31 kV31 dc31 pm31 cd31 ct31 oc32 kV32 dc32 pm32 cd32 ct32 oc33 kV33 dc33 pm33 cd33 ct33 oc34 kV34 dc34 pm34 cd34 ct34 oc35 kV35 dc35 pm35 cd35 ct35 oc36 kV36 dc36 pm36 cd36 ct36 oc37 kV37 dc37 pm37 cd37 ct37 oc38 kV38 dc38 pm38 cd38 ct38 : Value}
    {DCurve : Addr} (v1Curve : PySem.W.nsIn K mainGlobals "Curve" = some (some (.ref DCurve))) (v2Curve : PySem.W.plainGet K DCurve Str.empty = true) (v3Curve : PySem.W.hasDictIn K DCurve = true) (v4Curve : PySem.W.plainOver K DCurve = true) (v5Curve : PySem.W.findIn K (.ref DCurve) "__setattr__" = some (some (.builtin "object.__setattr__")))
    (v6Curve : PySem.W.findIn K (.ref DCurve) "__class__" = some (some (.builtin "object.__class__"))) (v7Curve : PySem.W.specialIn K (.builtin "object.__class__") "__get__" = some (some (.builtin "getset_descriptor.__get__"))) (v8Curve : PySem.W.takesIn K (.builtin "object.__class__") = some true) (v9Curve : PySem.W.mroIn K DCurve (.type "object") = some true)
    (w0Curve : PySem.W.kitOne K (.ref DCurve) (.type "int") = some false) (w1Curve : PySem.W.kitOne K (.ref DCurve) (.type "bool") = some false) (w2Curve : PySem.W.kitOne K (.ref DCurve) (.type "str") = some false) (w3Curve : PySem.W.kitOne K (.ref DCurve) (.type "tuple") = some false) (w4Curve : PySem.W.kitOne K (.ref DCurve) (.type "list") = some false) (w5Curve : PySem.W.kitOne K (.ref DCurve) (.type "dict") = some false)
    (w6Curve : PySem.W.findIn K (.ref DCurve) "knots" = some none) (w7Curve : PySem.W.makesIn K DCurve = true) (w8Curve : PySem.W.keepIn K (.ref DCurve) = true) (w9Curve : PySem.W.selfFirst K DCurve = true)
    (a1 : PySem.W.nsIn K mainGlobals "_wall" = some (some (.ref f1))) (l1 : K.lookup f1 = some ⟨oc1, od1, .func (PySem.W.fnOf "_wall" "_wall" (defArgs s__wall) (defBody s__wall) (defScope s__wall) .none kV1 dc1 pm1 an1 cd1 ct1), sl1⟩) (c1 : PySem.W.codeIn K cd1 "_wall" = true) (k1 : PySem.W.keepIn K (.ref f1) = true)
    (a2 : PySem.W.nsIn K mainGlobals "common_divisor" = some (some (.ref f2))) (l2 : K.lookup f2 = some ⟨oc2, od2, .func (PySem.W.fnOf "common_divisor" "common_divisor" (defArgs s_common_divisor) (defBody s_common_divisor) (defScope s_common_divisor) .none kV2 dc2 pm2 an2 cd2 ct2), sl2⟩) (c2 : PySem.W.codeIn K cd2 "common_divisor" = true) (k2 : PySem.W.keepIn K (.ref f2) = true)
    (a3 : PySem.W.nsIn K mainGlobals "make_ratio" = some (some (.ref f3))) (l3 : K.lookup f3 = some ⟨oc3, od3, .func (PySem.W.fnOf "make_ratio" "make_ratio" (defArgs s_make_ratio) (defBody s_make_ratio) (defScope s_make_ratio) .none kV3 dc3 pm3 an3 cd3 ct3), sl3⟩) (c3 : PySem.W.codeIn K cd3 "make_ratio" = true) (k3 : PySem.W.keepIn K (.ref f3) = true)
    (a4 : PySem.W.nsIn K mainGlobals "add" = some (some (.ref f4))) (l4 : K.lookup f4 = some ⟨oc4, od4, .func (PySem.W.fnOf "add" "add" (defArgs s_add) (defBody s_add) (defScope s_add) .none kV4 dc4 pm4 an4 cd4 ct4), sl4⟩) (c4 : PySem.W.codeIn K cd4 "add" = true) (k4 : PySem.W.keepIn K (.ref f4) = true)
    (a5 : PySem.W.nsIn K mainGlobals "subtract" = some (some (.ref f5))) (l5 : K.lookup f5 = some ⟨oc5, od5, .func (PySem.W.fnOf "subtract" "subtract" (defArgs s_subtract) (defBody s_subtract) (defScope s_subtract) .none kV5 dc5 pm5 an5 cd5 ct5), sl5⟩) (c5 : PySem.W.codeIn K cd5 "subtract" = true) (k5 : PySem.W.keepIn K (.ref f5) = true)
    (a6 : PySem.W.nsIn K mainGlobals "multiply" = some (some (.ref f6))) (l6 : K.lookup f6 = some ⟨oc6, od6, .func (PySem.W.fnOf "multiply" "multiply" (defArgs s_multiply) (defBody s_multiply) (defScope s_multiply) .none kV6 dc6 pm6 an6 cd6 ct6), sl6⟩) (c6 : PySem.W.codeIn K cd6 "multiply" = true) (k6 : PySem.W.keepIn K (.ref f6) = true)
    (a7 : PySem.W.nsIn K mainGlobals "divide" = some (some (.ref f7))) (l7 : K.lookup f7 = some ⟨oc7, od7, .func (PySem.W.fnOf "divide" "divide" (defArgs s_divide) (defBody s_divide) (defScope s_divide) .none kV7 dc7 pm7 an7 cd7 ct7), sl7⟩) (c7 : PySem.W.codeIn K cd7 "divide" = true) (k7 : PySem.W.keepIn K (.ref f7) = true)
    (a8 : PySem.W.nsIn K mainGlobals "compare" = some (some (.ref f8))) (l8 : K.lookup f8 = some ⟨oc8, od8, .func (PySem.W.fnOf "compare" "compare" (defArgs s_compare) (defBody s_compare) (defScope s_compare) .none kV8 dc8 pm8 an8 cd8 ct8), sl8⟩) (c8 : PySem.W.codeIn K cd8 "compare" = true) (k8 : PySem.W.keepIn K (.ref f8) = true)
    (a9 : PySem.W.nsIn K mainGlobals "line_slope" = some (some (.ref f9))) (l9 : K.lookup f9 = some ⟨oc9, od9, .func (PySem.W.fnOf "line_slope" "line_slope" (defArgs s_line_slope) (defBody s_line_slope) (defScope s_line_slope) .none kV9 dc9 pm9 an9 cd9 ct9), sl9⟩) (c9 : PySem.W.codeIn K cd9 "line_slope" = true) (k9 : PySem.W.keepIn K (.ref f9) = true)
    (a10 : PySem.W.nsIn K mainGlobals "value_at" = some (some (.ref f10))) (l10 : K.lookup f10 = some ⟨oc10, od10, .func (PySem.W.fnOf "value_at" "value_at" (defArgs s_value_at) (defBody s_value_at) (defScope s_value_at) .none kV10 dc10 pm10 an10 cd10 ct10), sl10⟩) (c10 : PySem.W.codeIn K cd10 "value_at" = true) (k10 : PySem.W.keepIn K (.ref f10) = true)
    (a11 : PySem.W.nsIn K mainGlobals "slope_at" = some (some (.ref f11))) (l11 : K.lookup f11 = some ⟨oc11, od11, .func (PySem.W.fnOf "slope_at" "slope_at" (defArgs s_slope_at) (defBody s_slope_at) (defScope s_slope_at) .none kV11 dc11 pm11 an11 cd11 ct11), sl11⟩) (c11 : PySem.W.codeIn K cd11 "slope_at" = true) (k11 : PySem.W.keepIn K (.ref f11) = true)
    (a12 : PySem.W.nsIn K mainGlobals "first_wrong" = some (some (.ref f12))) (l12 : K.lookup f12 = some ⟨oc12, od12, .func (PySem.W.fnOf "first_wrong" "first_wrong" (defArgs s_first_wrong) (defBody s_first_wrong) (defScope s_first_wrong) .none kV12 dc12 pm12 an12 cd12 ct12), sl12⟩) (c12 : PySem.W.codeIn K cd12 "first_wrong" = true) (k12 : PySem.W.keepIn K (.ref f12) = true)
    (a13 : PySem.W.nsIn K mainGlobals "straightened" = some (some (.ref f13))) (l13 : K.lookup f13 = some ⟨oc13, od13, .func (PySem.W.fnOf "straightened" "straightened" (defArgs s_straightened) (defBody s_straightened) (defScope s_straightened) .none kV13 dc13 pm13 an13 cd13 ct13), sl13⟩) (c13 : PySem.W.codeIn K cd13 "straightened" = true) (k13 : PySem.W.keepIn K (.ref f13) = true)
    (a14 : PySem.W.nsIn K mainGlobals "merged_amounts" = some (some (.ref f14))) (l14 : K.lookup f14 = some ⟨oc14, od14, .func (PySem.W.fnOf "merged_amounts" "merged_amounts" (defArgs s_merged_amounts) (defBody s_merged_amounts) (defScope s_merged_amounts) .none kV14 dc14 pm14 an14 cd14 ct14), sl14⟩) (c14 : PySem.W.codeIn K cd14 "merged_amounts" = true) (k14 : PySem.W.keepIn K (.ref f14) = true)
    (a15 : PySem.W.nsIn K mainGlobals "product_knots" = some (some (.ref f15))) (l15 : K.lookup f15 = some ⟨oc15, od15, .func (PySem.W.fnOf "product_knots" "product_knots" (defArgs s_product_knots) (defBody s_product_knots) (defScope s_product_knots) .none kV15 dc15 pm15 an15 cd15 ct15), sl15⟩) (c15 : PySem.W.codeIn K cd15 "product_knots" = true) (k15 : PySem.W.keepIn K (.ref f15) = true)
    (a16 : PySem.W.nsIn K mainGlobals "crossing" = some (some (.ref f16))) (l16 : K.lookup f16 = some ⟨oc16, od16, .func (PySem.W.fnOf "crossing" "crossing" (defArgs s_crossing) (defBody s_crossing) (defScope s_crossing) .none kV16 dc16 pm16 an16 cd16 ct16), sl16⟩) (c16 : PySem.W.codeIn K cd16 "crossing" = true) (k16 : PySem.W.keepIn K (.ref f16) = true)
    (a17 : PySem.W.nsIn K mainGlobals "join_knots" = some (some (.ref f17))) (l17 : K.lookup f17 = some ⟨oc17, od17, .func (PySem.W.fnOf "join_knots" "join_knots" (defArgs s_join_knots) (defBody s_join_knots) (defScope s_join_knots) .none kV17 dc17 pm17 an17 cd17 ct17), sl17⟩) (c17 : PySem.W.codeIn K cd17 "join_knots" = true) (k17 : PySem.W.keepIn K (.ref f17) = true)
    (a18 : PySem.W.nsIn K mainGlobals "meet_knots" = some (some (.ref f18))) (l18 : K.lookup f18 = some ⟨oc18, od18, .func (PySem.W.fnOf "meet_knots" "meet_knots" (defArgs s_meet_knots) (defBody s_meet_knots) (defScope s_meet_knots) .none kV18 dc18 pm18 an18 cd18 ct18), sl18⟩) (c18 : PySem.W.codeIn K cd18 "meet_knots" = true) (k18 : PySem.W.keepIn K (.ref f18) = true)
    (a19 : PySem.W.nsIn K mainGlobals "_law_cell" = some (some (.ref f19))) (l19 : K.lookup f19 = some ⟨oc19, od19, .func (PySem.W.fnOf "_law_cell" "_law_cell" (defArgs s__law_cell) (defBody s__law_cell) (defScope s__law_cell) .none kV19 dc19 pm19 an19 cd19 ct19), sl19⟩) (c19 : PySem.W.codeIn K cd19 "_law_cell" = true) (k19 : PySem.W.keepIn K (.ref f19) = true)
    (a20 : PySem.W.nsIn K mainGlobals "_law_draws" = some (some (.ref f20))) (l20 : K.lookup f20 = some ⟨oc20, od20, .func (PySem.W.fnOf "_law_draws" "_law_draws" (defArgs s__law_draws) (defBody s__law_draws) (defScope s__law_draws) .none kV20 dc20 pm20 an20 cd20 ct20), sl20⟩) (c20 : PySem.W.codeIn K cd20 "_law_draws" = true) (k20 : PySem.W.keepIn K (.ref f20) = true)
    (a21 : PySem.W.nsIn K mainGlobals "_law_head" = some (some (.ref f21))) (l21 : K.lookup f21 = some ⟨oc21, od21, .func (PySem.W.fnOf "_law_head" "_law_head" (defArgs s__law_head) (defBody s__law_head) (defScope s__law_head) .none kV21 dc21 pm21 an21 cd21 ct21), sl21⟩) (c21 : PySem.W.codeIn K cd21 "_law_head" = true) (k21 : PySem.W.keepIn K (.ref f21) = true)
    (a22 : PySem.W.nsIn K mainGlobals "_law_low" = some (some (.ref f22))) (l22 : K.lookup f22 = some ⟨oc22, od22, .func (PySem.W.fnOf "_law_low" "_law_low" (defArgs s__law_low) (defBody s__law_low) (defScope s__law_low) .none kV22 dc22 pm22 an22 cd22 ct22), sl22⟩) (c22 : PySem.W.codeIn K cd22 "_law_low" = true) (k22 : PySem.W.keepIn K (.ref f22) = true)
    (a23 : PySem.W.nsIn K mainGlobals "_law_is_integer" = some (some (.ref f23))) (l23 : K.lookup f23 = some ⟨oc23, od23, .func (PySem.W.fnOf "_law_is_integer" "_law_is_integer" (defArgs s__law_is_integer) (defBody s__law_is_integer) (defScope s__law_is_integer) .none kV23 dc23 pm23 an23 cd23 ct23), sl23⟩) (c23 : PySem.W.codeIn K cd23 "_law_is_integer" = true) (k23 : PySem.W.keepIn K (.ref f23) = true)
    (a24 : PySem.W.nsIn K mainGlobals "_law_is_ratio" = some (some (.ref f24))) (l24 : K.lookup f24 = some ⟨oc24, od24, .func (PySem.W.fnOf "_law_is_ratio" "_law_is_ratio" (defArgs s__law_is_ratio) (defBody s__law_is_ratio) (defScope s__law_is_ratio) .none kV24 dc24 pm24 an24 cd24 ct24), sl24⟩) (c24 : PySem.W.codeIn K cd24 "_law_is_ratio" = true) (k24 : PySem.W.keepIn K (.ref f24) = true)
    (a25 : PySem.W.nsIn K mainGlobals "_law_add" = some (some (.ref f25))) (l25 : K.lookup f25 = some ⟨oc25, od25, .func (PySem.W.fnOf "_law_add" "_law_add" (defArgs s__law_add) (defBody s__law_add) (defScope s__law_add) .none kV25 dc25 pm25 an25 cd25 ct25), sl25⟩) (c25 : PySem.W.codeIn K cd25 "_law_add" = true) (k25 : PySem.W.keepIn K (.ref f25) = true)
    (a26 : PySem.W.nsIn K mainGlobals "_law_sub" = some (some (.ref f26))) (l26 : K.lookup f26 = some ⟨oc26, od26, .func (PySem.W.fnOf "_law_sub" "_law_sub" (defArgs s__law_sub) (defBody s__law_sub) (defScope s__law_sub) .none kV26 dc26 pm26 an26 cd26 ct26), sl26⟩) (c26 : PySem.W.codeIn K cd26 "_law_sub" = true) (k26 : PySem.W.keepIn K (.ref f26) = true)
    (a27 : PySem.W.nsIn K mainGlobals "_law_mul" = some (some (.ref f27))) (l27 : K.lookup f27 = some ⟨oc27, od27, .func (PySem.W.fnOf "_law_mul" "_law_mul" (defArgs s__law_mul) (defBody s__law_mul) (defScope s__law_mul) .none kV27 dc27 pm27 an27 cd27 ct27), sl27⟩) (c27 : PySem.W.codeIn K cd27 "_law_mul" = true) (k27 : PySem.W.keepIn K (.ref f27) = true)
    (a28 : PySem.W.nsIn K mainGlobals "_law_div" = some (some (.ref f28))) (l28 : K.lookup f28 = some ⟨oc28, od28, .func (PySem.W.fnOf "_law_div" "_law_div" (defArgs s__law_div) (defBody s__law_div) (defScope s__law_div) .none kV28 dc28 pm28 an28 cd28 ct28), sl28⟩) (c28 : PySem.W.codeIn K cd28 "_law_div" = true) (k28 : PySem.W.keepIn K (.ref f28) = true)
    (a29 : PySem.W.nsIn K mainGlobals "_law_less" = some (some (.ref f29))) (l29 : K.lookup f29 = some ⟨oc29, od29, .func (PySem.W.fnOf "_law_less" "_law_less" (defArgs s__law_less) (defBody s__law_less) (defScope s__law_less) .none kV29 dc29 pm29 an29 cd29 ct29), sl29⟩) (c29 : PySem.W.codeIn K cd29 "_law_less" = true) (k29 : PySem.W.keepIn K (.ref f29) = true)
    (a30 : PySem.W.nsIn K mainGlobals "_law_fraction" = some (some (.ref f30))) (l30 : K.lookup f30 = some ⟨oc30, od30, .func (PySem.W.fnOf "_law_fraction" "_law_fraction" (defArgs s__law_fraction) (defBody s__law_fraction) (defScope s__law_fraction) .none kV30 dc30 pm30 an30 cd30 ct30), sl30⟩) (c30 : PySem.W.codeIn K cd30 "_law_fraction" = true) (k30 : PySem.W.keepIn K (.ref f30) = true)
    (a31 : PySem.W.nsIn K mainGlobals "_law_knots" = some (some (.ref f31))) (l31 : K.lookup f31 = some ⟨oc31, od31, .func (PySem.W.fnOf "_law_knots" "_law_knots" (defArgs s__law_knots) (defBody s__law_knots) (defScope s__law_knots) .none kV31 dc31 pm31 an31 cd31 ct31), sl31⟩) (c31 : PySem.W.codeIn K cd31 "_law_knots" = true) (k31 : PySem.W.keepIn K (.ref f31) = true)
    (a32 : PySem.W.nsIn K mainGlobals "_law_value" = some (some (.ref f32))) (l32 : K.lookup f32 = some ⟨oc32, od32, .func (PySem.W.fnOf "_law_value" "_law_value" (defArgs s__law_value) (defBody s__law_value) (defScope s__law_value) .none kV32 dc32 pm32 an32 cd32 ct32), sl32⟩) (c32 : PySem.W.codeIn K cd32 "_law_value" = true) (k32 : PySem.W.keepIn K (.ref f32) = true)
    (a33 : PySem.W.nsIn K mainGlobals "_law_slope" = some (some (.ref f33))) (l33 : K.lookup f33 = some ⟨oc33, od33, .func (PySem.W.fnOf "_law_slope" "_law_slope" (defArgs s__law_slope) (defBody s__law_slope) (defScope s__law_slope) .none kV33 dc33 pm33 an33 cd33 ct33), sl33⟩) (c33 : PySem.W.codeIn K cd33 "_law_slope" = true) (k33 : PySem.W.keepIn K (.ref f33) = true)
    (a34 : PySem.W.nsIn K mainGlobals "_law_is_curve" = some (some (.ref f34))) (l34 : K.lookup f34 = some ⟨oc34, od34, .func (PySem.W.fnOf "_law_is_curve" "_law_is_curve" (defArgs s__law_is_curve) (defBody s__law_is_curve) (defScope s__law_is_curve) .none kV34 dc34 pm34 an34 cd34 ct34), sl34⟩) (c34 : PySem.W.codeIn K cd34 "_law_is_curve" = true) (k34 : PySem.W.keepIn K (.ref f34) = true)
    (a35 : PySem.W.nsIn K mainGlobals "_law_not_above" = some (some (.ref f35))) (l35 : K.lookup f35 = some ⟨oc35, od35, .func (PySem.W.fnOf "_law_not_above" "_law_not_above" (defArgs s__law_not_above) (defBody s__law_not_above) (defScope s__law_not_above) .none kV35 dc35 pm35 an35 cd35 ct35), sl35⟩) (c35 : PySem.W.codeIn K cd35 "_law_not_above" = true) (k35 : PySem.W.keepIn K (.ref f35) = true)
    (a36 : PySem.W.findIn K (.ref DCurve) "__init__" = some (some (.ref f36))) (l36 : K.lookup f36 = some ⟨oc36, od36, .func (PySem.W.fnOf "__init__" "Curve.__init__" (defArgs s_Curve___init__) (defBody s_Curve___init__) (defScope s_Curve___init__) .none kV36 dc36 pm36 an36 cd36 ct36), sl36⟩) (c36 : PySem.W.codeIn K cd36 "Curve.__init__" = true) (k36 : PySem.W.keepIn K (.ref f36) = true) (q36 : PySem.W.isFn K (.ref f36) = true) (r36 : PySem.W.fnIn K f36 = true)
    (a37 : PySem.W.findIn K (.ref DCurve) "__and__" = some (some (.ref f37))) (l37 : K.lookup f37 = some ⟨oc37, od37, .func (PySem.W.fnOf "__and__" "Curve.__and__" (defArgs s_Curve___and__) (defBody s_Curve___and__) (defScope s_Curve___and__) .none kV37 dc37 pm37 an37 cd37 ct37), sl37⟩) (c37 : PySem.W.codeIn K cd37 "Curve.__and__" = true) (k37 : PySem.W.keepIn K (.ref f37) = true) (q37 : PySem.W.isFn K (.ref f37) = true) (r37 : PySem.W.fnIn K f37 = true)
    (a38 : PySem.W.nsIn K mainGlobals "law" = some (some (.ref f38))) (l38 : K.lookup f38 = some ⟨oc38, od38, .func (PySem.W.fnOf "law" "law" (defArgs s_law) (defBody s_law) (defScope s_law) .none kV38 dc38 pm38 an38 cd38 ct38), sl38⟩) (c38 : PySem.W.codeIn K cd38 "law" = true) (k38 : PySem.W.keepIn K (.ref f38) = true)
    (z0 : PySem.W.nsIn K mainGlobals "gcd" = some (some (.builtin "math.gcd")))
    (z1 : PySem.W.nsIn K mainGlobals "range" = some (none))
    (z2 : PySem.W.nsIn K mainGlobals "len" = some (none))
    (z3 : PySem.W.nsIn K mainGlobals "tuple" = some (none))
    (z4 : PySem.W.nsIn K mainGlobals "abs" = some (none))
    (z5 : PySem.W.nsIn K mainGlobals "int" = some (none))
    (z6 : PySem.W.nsIn K mainGlobals "isinstance" = some (none))
    (z7 : PySem.W.nsIn K mainGlobals "bool" = some (none))
    (z8 : PySem.W.nsIn K mainGlobals "sum" = some (none))
    {ay0 : Addr} {oy0 : Option Addr} {iy0 : Array Value} {ny0 : Nat} {sy0 : Array (Option Value)} (y0 : PySem.W.nsIn K mainGlobals "ZERO" = some (some (.ref ay0))) (ly0 : K.lookup ay0 = some ⟨.type "tuple", oy0, .seq iy0 ny0, sy0⟩) (ry0 : intsIn iy0.toList = some [0, 1]) (zy0 : iy0.size ≤ sizeLine)
    {ay1 : Addr} {oy1 : Option Addr} {iy1 : Array Value} {ny1 : Nat} {sy1 : Array (Option Value)} (y1 : PySem.W.nsIn K mainGlobals "ONE" = some (some (.ref ay1))) (ly1 : K.lookup ay1 = some ⟨.type "tuple", oy1, .seq iy1 ny1, sy1⟩) (ry1 : intsIn iy1.toList = some [1, 1]) (zy1 : iy1.size ≤ sizeLine)
    : ∃ fd : FuncData, (∀ (s : Shared) (v : Value), BindsTo s fd ⟨[v], []⟩ [("_law_script", v)]) ∧ ∀ base : Heap, K.In base → base.Ns mainGlobals mg → Grd base l.prog → FnOk l.prog w K mg base CX0 49 fa fd ["_law_script"] (spLaw K) := by
  have e := hfa.symm.trans (PySem.W.mg_of X G a38)
  cases e
  have icCurve : InsC K "Curve" DCurve := insC_mk v1Curve v2Curve v3Curve v4Curve v5Curve v6Curve v7Curve v8Curve v9Curve w0Curve w1Curve w2Curve w3Curve w4Curve w5Curve
  have T : Txt K mg := ⟨PySem.W.mg_of X G z0, PySem.W.mg_none_of X G z1, PySem.W.mg_none_of X G z2, PySem.W.mg_none_of X G z3, PySem.W.mg_none_of X G z4, PySem.W.mg_none_of X G z5, PySem.W.mg_none_of X G z6, PySem.W.mg_none_of X G z7, PySem.W.mg_none_of X G z8, cst_tup (PySem.W.mg_of X G y0) ly0 ry0 zy0, cst_tup (PySem.W.mg_of X G y1) ly1 ry1 zy1, ⟨⟨DCurve, v1Curve, w6Curve⟩⟩, sf_of icCurve w9Curve⟩
  have F1 := fun_mk (st := s__wall) l1 c1 k1
  have b1 := F1.binds (ps := ["k"]) fun _ _ _ _ _ _ us hl => match us, hl with | [_], _ => rfl
  have F2 := fun_mk (st := s_common_divisor) l2 c2 k2
  have b2 := F2.binds (ps := ["a", "b"]) fun _ _ _ _ _ _ us hl => match us, hl with | [_, _], _ => rfl
  have F3 := fun_mk (st := s_make_ratio) l3 c3 k3
  have b3 := F3.binds (ps := ["n", "d"]) fun _ _ _ _ _ _ us hl => match us, hl with | [_, _], _ => rfl
  have F4 := fun_mk (st := s_add) l4 c4 k4
  have b4 := F4.binds (ps := ["a", "b"]) fun _ _ _ _ _ _ us hl => match us, hl with | [_, _], _ => rfl
  have F5 := fun_mk (st := s_subtract) l5 c5 k5
  have b5 := F5.binds (ps := ["a", "b"]) fun _ _ _ _ _ _ us hl => match us, hl with | [_, _], _ => rfl
  have F6 := fun_mk (st := s_multiply) l6 c6 k6
  have b6 := F6.binds (ps := ["a", "b"]) fun _ _ _ _ _ _ us hl => match us, hl with | [_, _], _ => rfl
  have F7 := fun_mk (st := s_divide) l7 c7 k7
  have b7 := F7.binds (ps := ["a", "b"]) fun _ _ _ _ _ _ us hl => match us, hl with | [_, _], _ => rfl
  have F8 := fun_mk (st := s_compare) l8 c8 k8
  have b8 := F8.binds (ps := ["a", "b"]) fun _ _ _ _ _ _ us hl => match us, hl with | [_, _], _ => rfl
  have F9 := fun_mk (st := s_line_slope) l9 c9 k9
  have b9 := F9.binds (ps := ["left", "right"]) fun _ _ _ _ _ _ us hl => match us, hl with | [_, _], _ => rfl
  have F10 := fun_mk (st := s_value_at) l10 c10 k10
  have b10 := F10.binds (ps := ["knots", "amount"]) fun _ _ _ _ _ _ us hl => match us, hl with | [_, _], _ => rfl
  have F11 := fun_mk (st := s_slope_at) l11 c11 k11
  have b11 := F11.binds (ps := ["knots", "amount"]) fun _ _ _ _ _ _ us hl => match us, hl with | [_, _], _ => rfl
  have F12 := fun_mk (st := s_first_wrong) l12 c12 k12
  have b12 := F12.binds (ps := ["knots"]) fun _ _ _ _ _ _ us hl => match us, hl with | [_], _ => rfl
  have F13 := fun_mk (st := s_straightened) l13 c13 k13
  have b13 := F13.binds (ps := ["points"]) fun _ _ _ _ _ _ us hl => match us, hl with | [_], _ => rfl
  have F14 := fun_mk (st := s_merged_amounts) l14 c14 k14
  have b14 := F14.binds (ps := ["first", "second"]) fun _ _ _ _ _ _ us hl => match us, hl with | [_, _], _ => rfl
  have F15 := fun_mk (st := s_product_knots) l15 c15 k15
  have b15 := F15.binds (ps := ["first", "second"]) fun _ _ _ _ _ _ us hl => match us, hl with | [_, _], _ => rfl
  have F16 := fun_mk (st := s_crossing) l16 c16 k16
  have b16 := F16.binds (ps := ["first", "second", "left", "right"]) fun _ _ _ _ _ _ us hl => match us, hl with | [_, _, _, _], _ => rfl
  have F17 := fun_mk (st := s_join_knots) l17 c17 k17
  have b17 := F17.binds (ps := ["first", "second"]) fun _ _ _ _ _ _ us hl => match us, hl with | [_, _], _ => rfl
  have F18 := fun_mk (st := s_meet_knots) l18 c18 k18
  have b18 := F18.binds (ps := ["first", "second"]) fun _ _ _ _ _ _ us hl => match us, hl with | [_, _], _ => rfl
  have F19 := fun_mk (st := s__law_cell) l19 c19 k19
  have b19 := F19.binds (ps := ["_law_script", "_law_k"]) fun _ _ _ _ _ _ us hl => match us, hl with | [_, _], _ => rfl
  have F20 := fun_mk (st := s__law_draws) l20 c20 k20
  have b20 := F20.binds (ps := ["_law_cell_here", "_law_count"]) fun _ _ _ _ _ _ us hl => match us, hl with | [_, _], _ => rfl
  have F21 := fun_mk (st := s__law_head) l21 c21 k21
  have b21 := F21.binds (ps := ["_law_script"]) fun _ _ _ _ _ _ us hl => match us, hl with | [_], _ => rfl
  have F22 := fun_mk (st := s__law_low) l22 c22 k22
  have b22 := F22.binds (ps := ["_law_n", "_law_d"]) fun _ _ _ _ _ _ us hl => match us, hl with | [_, _], _ => rfl
  have F23 := fun_mk (st := s__law_is_integer) l23 c23 k23
  have b23 := F23.binds (ps := ["_law_value_here"]) fun _ _ _ _ _ _ us hl => match us, hl with | [_], _ => rfl
  have F24 := fun_mk (st := s__law_is_ratio) l24 c24 k24
  have b24 := F24.binds (ps := ["_law_value_here"]) fun _ _ _ _ _ _ us hl => match us, hl with | [_], _ => rfl
  have F25 := fun_mk (st := s__law_add) l25 c25 k25
  have b25 := F25.binds (ps := ["_law_a", "_law_b"]) fun _ _ _ _ _ _ us hl => match us, hl with | [_, _], _ => rfl
  have F26 := fun_mk (st := s__law_sub) l26 c26 k26
  have b26 := F26.binds (ps := ["_law_a", "_law_b"]) fun _ _ _ _ _ _ us hl => match us, hl with | [_, _], _ => rfl
  have F27 := fun_mk (st := s__law_mul) l27 c27 k27
  have b27 := F27.binds (ps := ["_law_a", "_law_b"]) fun _ _ _ _ _ _ us hl => match us, hl with | [_, _], _ => rfl
  have F28 := fun_mk (st := s__law_div) l28 c28 k28
  have b28 := F28.binds (ps := ["_law_a", "_law_b"]) fun _ _ _ _ _ _ us hl => match us, hl with | [_, _], _ => rfl
  have F29 := fun_mk (st := s__law_less) l29 c29 k29
  have b29 := F29.binds (ps := ["_law_a", "_law_b"]) fun _ _ _ _ _ _ us hl => match us, hl with | [_, _], _ => rfl
  have F30 := fun_mk (st := s__law_fraction) l30 c30 k30
  have b30 := F30.binds (ps := ["_law_draw"]) fun _ _ _ _ _ _ us hl => match us, hl with | [_], _ => rfl
  have F31 := fun_mk (st := s__law_knots) l31 c31 k31
  have b31 := F31.binds (ps := ["_law_cell_here", "_law_most", "_law_great"]) fun _ _ _ _ _ _ us hl => match us, hl with | [_, _, _], _ => rfl
  have F32 := fun_mk (st := s__law_value) l32 c32 k32
  have b32 := F32.binds (ps := ["_law_knots_here", "_law_amount"]) fun _ _ _ _ _ _ us hl => match us, hl with | [_, _], _ => rfl
  have F33 := fun_mk (st := s__law_slope) l33 c33 k33
  have b33 := F33.binds (ps := ["_law_knots_here", "_law_amount"]) fun _ _ _ _ _ _ us hl => match us, hl with | [_, _], _ => rfl
  have F34 := fun_mk (st := s__law_is_curve) l34 c34 k34
  have b34 := F34.binds (ps := ["_law_knots_here"]) fun _ _ _ _ _ _ us hl => match us, hl with | [_], _ => rfl
  have F35 := fun_mk (st := s__law_not_above) l35 c35 k35
  have b35 := F35.binds (ps := ["_law_low_here", "_law_high"]) fun _ _ _ _ _ _ us hl => match us, hl with | [_, _], _ => rfl
  have F36 := fun_mk (st := s_Curve___init__) l36 c36 k36
  have b36 := F36.binds (ps := ["self", "knots"]) fun _ _ _ _ _ _ us hl => match us, hl with | [_, _], _ => rfl
  have F37 := fun_mk (st := s_Curve___and__) l37 c37 k37
  have b37 := F37.binds (ps := ["self", "other"]) fun _ _ _ _ _ _ us hl => match us, hl with | [_, _], _ => rfl
  have F38 := fun_mk (st := s_law) l38 c38 k38
  refine ⟨PySem.W.fnOf "law" "law" (defArgs s_law) (defBody s_law) (defScope s_law) .none kV38 dc38 pm38 an38 cd38 ct38, fun s v => .of_eq rfl, fun base _ _ GR => ?_⟩
  have G1 := ok__wall (P := l.prog) (w := w) (base := base) GR T F1 (PySem.W.mg_of X G a1) b1
  have G2 := ok_common_divisor (P := l.prog) (w := w) (base := base) GR T F2 (PySem.W.mg_of X G a2) b2
  have G3 := ok_make_ratio (P := l.prog) (w := w) (base := base) GR T F3 (PySem.W.mg_of X G a3) b3 G2
  have G4 := ok_add (P := l.prog) (w := w) (base := base) GR T F4 (PySem.W.mg_of X G a4) b4 G3
  have G5 := ok_subtract (P := l.prog) (w := w) (base := base) GR T F5 (PySem.W.mg_of X G a5) b5 G3
  have G6 := ok_multiply (P := l.prog) (w := w) (base := base) GR T F6 (PySem.W.mg_of X G a6) b6 G3
  have G7 := ok_divide (P := l.prog) (w := w) (base := base) GR T F7 (PySem.W.mg_of X G a7) b7 G3
  have G8 := ok_compare (P := l.prog) (w := w) (base := base) GR T F8 (PySem.W.mg_of X G a8) b8
  have G9 := ok_line_slope (P := l.prog) (w := w) (base := base) GR T F9 (PySem.W.mg_of X G a9) b9 G7 G5
  have G10 := ok_value_at (P := l.prog) (w := w) (base := base) GR T F10 (PySem.W.mg_of X G a10) b10 G8 G9 G4 G6 G5
  have G11 := ok_slope_at (P := l.prog) (w := w) (base := base) GR T F11 (PySem.W.mg_of X G a11) b11 G8 G9
  have G12 := ok_first_wrong (P := l.prog) (w := w) (base := base) GR T F12 (PySem.W.mg_of X G a12) b12 G8 G9
  have G13 := ok_straightened (P := l.prog) (w := w) (base := base) GR T F13 (PySem.W.mg_of X G a13) b13 G9 G8
  have G14 := ok_merged_amounts (P := l.prog) (w := w) (base := base) GR T F14 (PySem.W.mg_of X G a14) b14 G8
  have G15 := ok_product_knots (P := l.prog) (w := w) (base := base) GR T F15 (PySem.W.mg_of X G a15) b15 G14 G6 G11 G5 G13
  have G16 := ok_crossing (P := l.prog) (w := w) (base := base) GR T F16 (PySem.W.mg_of X G a16) b16 G5 G10 G8 G7 G4 G6
  have G17 := ok_join_knots (P := l.prog) (w := w) (base := base) GR T F17 (PySem.W.mg_of X G a17) b17 G14 G16 G10 G8 G13
  have G18 := ok_meet_knots (P := l.prog) (w := w) (base := base) GR T F18 (PySem.W.mg_of X G a18) b18 G14 G10 G8 G9 G13
  have G19 := ok__law_cell (P := l.prog) (w := w) (base := base) GR T F19 (PySem.W.mg_of X G a19) b19
  have G20 := ok__law_draws (P := l.prog) (w := w) (base := base) GR T F20 (PySem.W.mg_of X G a20) b20
  have G21 := ok__law_head (P := l.prog) (w := w) (base := base) GR T F21 (PySem.W.mg_of X G a21) b21 G20 G19
  have G22 := ok__law_low (P := l.prog) (w := w) (base := base) GR T F22 (PySem.W.mg_of X G a22) b22
  have G23 := ok__law_is_integer (P := l.prog) (w := w) (base := base) GR T F23 (PySem.W.mg_of X G a23) b23
  have G24 := ok__law_is_ratio (P := l.prog) (w := w) (base := base) GR T F24 (PySem.W.mg_of X G a24) b24 G23 G22
  have G25 := ok__law_add (P := l.prog) (w := w) (base := base) GR T F25 (PySem.W.mg_of X G a25) b25 G22
  have G26 := ok__law_sub (P := l.prog) (w := w) (base := base) GR T F26 (PySem.W.mg_of X G a26) b26 G22
  have G27 := ok__law_mul (P := l.prog) (w := w) (base := base) GR T F27 (PySem.W.mg_of X G a27) b27 G22
  have G28 := ok__law_div (P := l.prog) (w := w) (base := base) GR T F28 (PySem.W.mg_of X G a28) b28 G22
  have G29 := ok__law_less (P := l.prog) (w := w) (base := base) GR T F29 (PySem.W.mg_of X G a29) b29
  have G30 := ok__law_fraction (P := l.prog) (w := w) (base := base) GR T F30 (PySem.W.mg_of X G a30) b30 G22
  have G31 := ok__law_knots (P := l.prog) (w := w) (base := base) GR T F31 (PySem.W.mg_of X G a31) b31 G20 G30 G25 G22 G26 G27
  have G32 := ok__law_value (P := l.prog) (w := w) (base := base) GR T F32 (PySem.W.mg_of X G a32) b32 G29 G26 G27 G25 G28
  have G33 := ok__law_slope (P := l.prog) (w := w) (base := base) GR T F33 (PySem.W.mg_of X G a33) b33 G29 G26 G28
  have G34 := ok__law_is_curve (P := l.prog) (w := w) (base := base) GR T F34 (PySem.W.mg_of X G a34) b34 G24 G29 G33
  have G35 := ok__law_not_above (P := l.prog) (w := w) (base := base) GR T F35 (PySem.W.mg_of X G a35) b35 G29 G32
  have G36 := ok_Curve___init__ (P := l.prog) (w := w) (base := base) GR T F36 icCurve (PySem.W.mg_of X G v1Curve) w6Curve ⟨w7Curve, a36, q36, w8Curve⟩ b36 G12
  have G37 := ok_Curve___and__ (P := l.prog) (w := w) (base := base) GR T F37 v1Curve ⟨a37, q37, k37⟩ r37 b37 G36 G18
  exact law_imp (ok_law (P := l.prog) (w := w) (base := base) GR T F38 G21 G31 G19 G37 G36 G34 G35 G32) law_true
end Lw
open PySem PySem.W PyProof.Rows
set_option maxHeartbeats 0 in
theorem PySem.Challenge.cw_anycompany_k39_meets_of_curves_holds : PySem.Challenge.rw_anycompany_k39_meets_of_curves.Holds := by
  w_on; o_law; k_head; (case hw => w_witness2)
  k_fill
  refine Q.walk_ofS (l := PySem.Challenge.rw_anycompany_k39_meets_of_curves) (n := 63) (k := 49) (x := "_law_script") rfl rfl rfl ⟨rfl, by decide, by decide⟩ (by decide +kernel) rfl (fun w h Y => PySem.W.kIn_of Y) ?F
  case F =>
    intro w mg fa h KX G hmg
    refine' Lw.all_mk KX G hmg ?v1Curve ?v2Curve ?v3Curve ?v4Curve ?v5Curve ?v6Curve ?v7Curve ?v8Curve ?v9Curve ?w0Curve ?w1Curve ?w2Curve ?w3Curve ?w4Curve ?w5Curve ?w6Curve ?w7Curve ?w8Curve ?w9Curve ?a1 ?l1 ?c1 ?k1 ?a2 ?l2 ?c2 ?k2 ?a3 ?l3 ?c3 ?k3 ?a4 ?l4 ?c4 ?k4 ?a5 ?l5 ?c5 ?k5 ?a6 ?l6 ?c6 ?k6 ?a7 ?l7 ?c7 ?k7 ?a8 ?l8 ?c8 ?k8 ?a9 ?l9 ?c9 ?k9 ?a10 ?l10 ?c10 ?k10 ?a11 ?l11 ?c11 ?k11 ?a12 ?l12 ?c12 ?k12 ?a13 ?l13 ?c13 ?k13 ?a14 ?l14 ?c14 ?k14 ?a15 ?l15 ?c15 ?k15 ?a16 ?l16 ?c16 ?k16 ?a17 ?l17 ?c17 ?k17 ?a18 ?l18 ?c18 ?k18 ?a19 ?l19 ?c19 ?k19 ?a20 ?l20 ?c20 ?k20 ?a21 ?l21 ?c21 ?k21 ?a22 ?l22 ?c22 ?k22 ?a23 ?l23 ?c23 ?k23 ?a24 ?l24 ?c24 ?k24 ?a25 ?l25 ?c25 ?k25 ?a26 ?l26 ?c26 ?k26 ?a27 ?l27 ?c27 ?k27 ?a28 ?l28 ?c28 ?k28 ?a29 ?l29 ?c29 ?k29 ?a30 ?l30 ?c30 ?k30 ?a31 ?l31 ?c31 ?k31 ?a32 ?l32 ?c32 ?k32 ?a33 ?l33 ?c33 ?k33 ?a34 ?l34 ?c34 ?k34 ?a35 ?l35 ?c35 ?k35 ?a36 ?l36 ?c36 ?k36 ?q36 ?r36 ?a37 ?l37 ?c37 ?k37 ?q37 ?r37 ?a38 ?l38 ?c38 ?k38 ?z0 ?z1 ?z2 ?z3 ?z4 ?z5 ?z6 ?z7 ?z8 ?y0 ?ly0 ?ry0 ?zy0 ?y1 ?ly1 ?ry1 ?zy1
    (case v1Curve => k_is)
    (case v2Curve => k_is)
    (case v3Curve => k_is)
    (case v4Curve => k_is)
    (case v5Curve => k_is)
    (case v6Curve => k_is)
    (case v7Curve => k_is)
    (case v8Curve => k_is)
    (case v9Curve => k_is)
    (case w0Curve => first | rfl | k_is)
    (case w1Curve => first | rfl | k_is)
    (case w2Curve => first | rfl | k_is)
    (case w3Curve => first | rfl | k_is)
    (case w4Curve => first | rfl | k_is)
    (case w5Curve => first | rfl | k_is)
    (case w6Curve => k_is)
    (case w7Curve => k_is)
    (case w8Curve => k_is)
    (case w9Curve => k_is)
    (case a1 => k_is)
    (case l1 => k_is)
    (case c1 => k_is)
    (case k1 => k_is)
    (case a2 => k_is)
    (case l2 => k_is)
    (case c2 => k_is)
    (case k2 => k_is)
    (case a3 => k_is)
    (case l3 => k_is)
    (case c3 => k_is)
    (case k3 => k_is)
    (case a4 => k_is)
    (case l4 => k_is)
    (case c4 => k_is)
    (case k4 => k_is)
    (case a5 => k_is)
    (case l5 => k_is)
    (case c5 => k_is)
    (case k5 => k_is)
    (case a6 => k_is)
    (case l6 => k_is)
    (case c6 => k_is)
    (case k6 => k_is)
    (case a7 => k_is)
    (case l7 => k_is)
    (case c7 => k_is)
    (case k7 => k_is)
    (case a8 => k_is)
    (case l8 => k_is)
    (case c8 => k_is)
    (case k8 => k_is)
    (case a9 => k_is)
    (case l9 => k_is)
    (case c9 => k_is)
    (case k9 => k_is)
    (case a10 => k_is)
    (case l10 => k_is)
    (case c10 => k_is)
    (case k10 => k_is)
    (case a11 => k_is)
    (case l11 => k_is)
    (case c11 => k_is)
    (case k11 => k_is)
    (case a12 => k_is)
    (case l12 => k_is)
    (case c12 => k_is)
    (case k12 => k_is)
    (case a13 => k_is)
    (case l13 => k_is)
    (case c13 => k_is)
    (case k13 => k_is)
    (case a14 => k_is)
    (case l14 => k_is)
    (case c14 => k_is)
    (case k14 => k_is)
    (case a15 => k_is)
    (case l15 => k_is)
    (case c15 => k_is)
    (case k15 => k_is)
    (case a16 => k_is)
    (case l16 => k_is)
    (case c16 => k_is)
    (case k16 => k_is)
    (case a17 => k_is)
    (case l17 => k_is)
    (case c17 => k_is)
    (case k17 => k_is)
    (case a18 => k_is)
    (case l18 => k_is)
    (case c18 => k_is)
    (case k18 => k_is)
    (case a19 => k_is)
    (case l19 => k_is)
    (case c19 => k_is)
    (case k19 => k_is)
    (case a20 => k_is)
    (case l20 => k_is)
    (case c20 => k_is)
    (case k20 => k_is)
    (case a21 => k_is)
    (case l21 => k_is)
    (case c21 => k_is)
    (case k21 => k_is)
    (case a22 => k_is)
    (case l22 => k_is)
    (case c22 => k_is)
    (case k22 => k_is)
    (case a23 => k_is)
    (case l23 => k_is)
    (case c23 => k_is)
    (case k23 => k_is)
    (case a24 => k_is)
    (case l24 => k_is)
    (case c24 => k_is)
    (case k24 => k_is)
    (case a25 => k_is)
    (case l25 => k_is)
    (case c25 => k_is)
    (case k25 => k_is)
    (case a26 => k_is)
    (case l26 => k_is)
    (case c26 => k_is)
    (case k26 => k_is)
    (case a27 => k_is)
    (case l27 => k_is)
    (case c27 => k_is)
    (case k27 => k_is)
    (case a28 => k_is)
    (case l28 => k_is)
    (case c28 => k_is)
    (case k28 => k_is)
    (case a29 => k_is)
    (case l29 => k_is)
    (case c29 => k_is)
    (case k29 => k_is)
    (case a30 => k_is)
    (case l30 => k_is)
    (case c30 => k_is)
    (case k30 => k_is)
    (case a31 => k_is)
    (case l31 => k_is)
    (case c31 => k_is)
    (case k31 => k_is)
    (case a32 => k_is)
    (case l32 => k_is)
    (case c32 => k_is)
    (case k32 => k_is)
    (case a33 => k_is)
    (case l33 => k_is)
    (case c33 => k_is)
    (case k33 => k_is)
    (case a34 => k_is)
    (case l34 => k_is)
    (case c34 => k_is)
    (case k34 => k_is)
    (case a35 => k_is)
    (case l35 => k_is)
    (case c35 => k_is)
    (case k35 => k_is)
    (case a36 => k_is)
    (case l36 => k_is)
    (case c36 => k_is)
    (case k36 => k_is)
    (case q36 => k_is)
    (case r36 => k_is)
    (case a37 => k_is)
    (case l37 => k_is)
    (case c37 => k_is)
    (case k37 => k_is)
    (case q37 => k_is)
    (case r37 => k_is)
    (case a38 => k_is)
    (case l38 => k_is)
    (case c38 => k_is)
    (case k38 => k_is)
    (case z0 => k_is)
    (case z1 => k_is)
    (case z2 => k_is)
    (case z3 => k_is)
    (case z4 => k_is)
    (case z5 => k_is)
    (case z6 => k_is)
    (case z7 => k_is)
    (case z8 => k_is)
    (case y0 => k_is)
    (case ly0 => k_is)
    (case ry0 => rfl)
    (case zy0 => decide)
    (case y1 => k_is)
    (case ly1 => k_is)
    (case ry1 => rfl)
    (case zy1 => decide)

